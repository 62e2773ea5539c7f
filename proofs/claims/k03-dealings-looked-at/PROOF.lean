import PyProof.Rows.All
import Wide.All
import OpenK.AllK
import Wide.FinOn
import HandS.ForMost
import HandS.ForExc
import HandS.Zip
import HandS.TupAny
import HandS.TupMul
import HandS.Conv
import HandS.Style
import HandS.SetFor
import HandS.SortInts
import HandS.IsInst
import HandS.Deep
import HandS.Remove
import HandS.Defaults
import HandS.TryMany
import HandS.ExcIs
import KE.KStateDown
import HandS.Flow
import HandS.ExcOwn
import HandS.Head0
import HandS.Head1
import HandS.Head2
import HandS.HeadEnd
import HandS.HeadHook1
import HandS.HeadHook2
import HandS.HeadHook4
import KE.GoesMore
import KE.GoesZip
import KE.GoesEnum
import HandS.Words
import PySem.Challenge.RW_servesboth_k03_dealings_looked_at
set_option Elab.async false
set_option linter.all false
set_option maxRecDepth 100000
set_option maxHeartbeats 4000000
namespace SB
open PySem PySem.Spec PyProof.Rows L2

/-! ### results, cells, environments -/
inductive Rs (α : Type) where
  | bad | err (c : Nat) (p : Option PyData) | ok (a : α)
def Rs.bind {α β : Type} : Rs α → (α → Rs β) → Rs β
  | .bad, _ => .bad
  | .err c p, _ => .err c p
  | .ok a, f => f a
inductive Cl where
  | d (x : PyData) | own (xs : List PyData)
abbrev Sl := List (Option Cl)
abbrev Frg := PySem.W.Frag

/-! ### the heap without what is owned -/
def hid (O : List Addr) (H : Hp) : Hp := fun a => if a ∈ O then none else H a
theorem hid_out {O : List Addr} {H : Hp} {a : Addr} (h : a ∉ O) : hid O H a = H a := if_neg h
theorem hid_some {O : List Addr} {H : Hp} {a : Addr} {o : HO} (h : hid O H a = some o) : a ∉ O ∧ H a = some o := by
  unfold hid at h
  by_cases e : a ∈ O
  · rw [if_pos e] at h; cases h
  · rw [if_neg e] at h; exact ⟨e, h⟩
theorem hid_mk {O : List Addr} {H : Hp} {a : Addr} {o : HO} (n : a ∉ O) (h : H a = some o) : hid O H a = some o := (hid_out n).trans h
theorem hid_same {O : List Addr} {H H' : Hp} (s : Same H H') : Same (hid O H) (hid O H') := fun _ _ h => let ⟨n, e⟩ := hid_some h; hid_mk n (s _ _ e)
theorem hid_sub {O O' : List Addr} {H : Hp} (s : ∀ p ∈ O', p ∈ O) : Same (hid O H) (hid O' H) := fun _ _ h => let ⟨n, e⟩ := hid_some h; hid_mk (fun z => n (s _ z)) e
theorem hid_le {O : List Addr} {H : Hp} : Same (hid O H) H := fun _ _ h => (hid_some h).2
theorem hid_nil {H : Hp} : Same H (hid [] H) := fun _ _ h => hid_mk (fun z => nomatch z) h
theorem same_new {H : Hp} {p : Addr} {o : HO} (h : H p = none) : Same H (upd H p o) := fun a u e => by
  rw [upd_ne (ne_of_none e h)]; exact e
/-- the owned object at p changes: the rest stands -/
theorem hid_mut {O : List Addr} {H : Hp} {p : Addr} {o : HO} (h : p ∈ O) : Same (hid O H) (hid O (upd H p o)) := fun a u e => by
  obtain ⟨n, e⟩ := hid_some e
  exact hid_mk n (by rw [upd_ne (fun (z : a = p) => n (by rw [z]; exact h))]; exact e)
theorem sqT_mono_ {K : Frg} {H H' : Hp} {a : Addr} {xs : List V} (e : Same H H') (h : SqT K H a xs) : SqT K H' a xs := by
  rcases h with (h | ⟨o, h⟩) | h
  · exact .inl (.inl (e _ _ h))
  · exact .inl (.inr ⟨o, e _ _ h⟩)
  · exact .inr h
/-- a tuple whose object is known, without a dict of its own -/
def Tq (H : Hp) (a : Addr) (xs : List V) : Prop := ∃ o : Obj, H a = some (.frz o (.tup xs)) ∧ o.dict = none
theorem tq_rd {H : Hp} {a : Addr} {xs : List V} (h : Tq H a xs) : Rd H a (.tup xs) := let ⟨o, e, _⟩ := h; .inr ⟨o, e⟩
theorem tq_mono {H H' : Hp} {a : Addr} {xs : List V} (s : Same H H') (h : Tq H a xs) : Tq H' a xs := let ⟨o, e, d⟩ := h; ⟨o, s _ _ e, d⟩
mutual
inductive Dq (H : Hp) : V → PyData → Prop
  | non : Dq H .non .none
  | bl (b : Bool) : Dq H (.bl b) (.bool b)
  | int (i : Int) : Dq H (.int i) (.int i)
  | str (x : Str) : Dq H (.str x) (.str x)
  | lst {a : Addr} {xs : List V} {ds : List PyData} : Rd H a (.lst xs) → DqAll H xs ds → Dq H (.ref a) (.list ds)
  | tup {a : Addr} {xs : List V} {ds : List PyData} : Tq H a xs → DqAll H xs ds → Dq H (.ref a) (.tuple ds)
inductive DqAll (H : Hp) : List V → List PyData → Prop
  | nil : DqAll H [] []
  | cons {v : V} {vs : List V} {d : PyData} {ds : List PyData} : Dq H v d → DqAll H vs ds → DqAll H (v :: vs) (d :: ds)
end
theorem rd_mono {H H' : Hp} {a : Addr} {u : HO} (e : Same H H') (h : Rd H a u) : Rd H' a u := by
  rcases h with h | ⟨o, h⟩
  · exact .inl (e _ _ h)
  · exact .inr ⟨o, e _ _ h⟩
mutual
theorem dp_mono {H H' : Hp} (e : Same H H') : ∀ {d : PyData} {v : V}, Dq H v d → Dq H' v d
  | _, _, .non => .non
  | _, _, .bl b => .bl b
  | _, _, .int i => .int i
  | _, _, .str x => .str x
  | _, _, .lst s a => .lst (rd_mono e s) (dpAll_mono e a)
  | _, _, .tup s a => .tup (tq_mono e s) (dpAll_mono e a)
theorem dpAll_mono {H H' : Hp} (e : Same H H') : ∀ {ds : List PyData} {vs : List V}, DqAll H vs ds → DqAll H' vs ds
  | _, _, .nil => .nil
  | _, _, .cons h t => .cons (dp_mono e h) (dpAll_mono e t)
end
mutual
theorem dq_dp {K : Frg} {H : Hp} : ∀ {d : PyData} {v : V}, Dq H v d → Dp K H v d
  | _, _, .non => .non
  | _, _, .bl b => .bl b
  | _, _, .int i => .int i
  | _, _, .str x => .str x
  | _, _, .lst s a => .lst (.inl s) (dqAll_dp a)
  | _, _, .tup s a => .tup (.inl (tq_rd s)) (dqAll_dp a)
theorem dqAll_dp {K : Frg} {H : Hp} : ∀ {ds : List PyData} {vs : List V}, DqAll H vs ds → DpAll K H vs ds
  | _, _, .nil => .nil
  | _, _, .cons h t => .cons (dq_dp h) (dqAll_dp t)
end
theorem dpAll_len {H : Hp} : ∀ {ds : List PyData} {vs : List V}, DqAll H vs ds → vs.length = ds.length
  | _, _, .nil => rfl
  | _, _, .cons _ t => by rw [List.length_cons, List.length_cons, dpAll_len t]
theorem dpAll_get {H : Hp} : ∀ {ds : List PyData} {vs : List V}, DqAll H vs ds → ∀ {i : Nat} {d : PyData}, ds[i]? = some d → ∃ v, vs[i]? = some v ∧ Dq H v d
  | _, _, .nil, i, d, h => by simp at h
  | _, _, .cons h t, 0, d, e => by
    simp at e; subst e; exact ⟨_, rfl, h⟩
  | _, _, .cons h t, i + 1, d, e => by
    obtain ⟨v, a, b⟩ := dpAll_get t (i := i) (d := d) (by simpa using e)
    exact ⟨v, by simpa using a, b⟩
theorem dpAll_getV {H : Hp} {ds : List PyData} {vs : List V} (h : DqAll H vs ds) {i : Nat} {v : V} (e : vs[i]? = some v) : ∃ d, ds[i]? = some d ∧ Dq H v d := by
  have hl := dpAll_len h
  obtain ⟨hi, _⟩ := List.getElem?_eq_some_iff.mp e
  have hd : ds[i]? = some ds[i] := List.getElem?_eq_getElem (by omega)
  obtain ⟨v', e', q⟩ := dpAll_get h hd
  rw [e] at e'; cases e'
  exact ⟨_, hd, q⟩
theorem dpAll_app {H : Hp} : ∀ {ds es : List PyData} {vs us : List V}, DqAll H vs ds → DqAll H us es → DqAll H (vs ++ us) (ds ++ es)
  | _, _, _, _, .nil, h => h
  | _, _, _, _, .cons h t, k => .cons h (dpAll_app t k)
theorem dpAll_drop {H : Hp} : ∀ (n : Nat) {ds : List PyData} {vs : List V}, DqAll H vs ds → DqAll H (vs.drop n) (ds.drop n)
  | 0, _, _, h => h
  | _ + 1, _, _, .nil => .nil
  | n + 1, _, _, .cons _ t => dpAll_drop n t
theorem dpAll_take {H : Hp} : ∀ (n : Nat) {ds : List PyData} {vs : List V}, DqAll H vs ds → DqAll H (vs.take n) (ds.take n)
  | 0, _, _, _ => .nil
  | _ + 1, _, _, .nil => .nil
  | n + 1, _, _, .cons h t => .cons h (dpAll_take n t)
theorem dpAll_set {H : Hp} {v : V} {d : PyData} (q : Dq H v d) : ∀ (n : Nat) {ds : List PyData} {vs : List V}, DqAll H vs ds → DqAll H (vs.set n v) (ds.set n d)
  | _, _, _, .nil => .nil
  | 0, _, _, .cons _ t => .cons q t
  | n + 1, _, _, .cons h t => .cons h (dpAll_set q n t)
theorem dpAll_erase {H : Hp} : ∀ (n : Nat) {ds : List PyData} {vs : List V}, DqAll H vs ds → DqAll H (vs.eraseIdx n) (ds.eraseIdx n)
  | _, _, _, .nil => .nil
  | 0, _, _, .cons _ t => t
  | n + 1, _, _, .cons h t => .cons h (dpAll_erase n t)
theorem dpAll_rev {H : Hp} {ds : List PyData} {vs : List V} (h : DqAll H vs ds) : DqAll H vs.reverse ds.reverse := by
  induction ds generalizing vs with
  | nil => cases h; exact .nil
  | cons d ds ih =>
    cases h with
    | cons a b =>
      rw [List.reverse_cons, List.reverse_cons]
      exact dpAll_app (ih b) (.cons a .nil)
theorem dpAll_ints {H : Hp} : ∀ (ns : List Int), DqAll H (ns.map V.int) (ns.map PyData.int)
  | [] => .nil
  | n :: ns => .cons (.int n) (dpAll_ints ns)
theorem dpAll_ints_inv {H : Hp} : ∀ {ns : List Int} {vs : List V}, DqAll H vs (ns.map PyData.int) → vs = ns.map V.int
  | [], _, .nil => rfl
  | n :: ns, _, .cons h t => by
    cases h
    rw [dpAll_ints_inv t]
    rfl

/-! ### what an environment is represented by -/
def ClOk (B : Hp) (O : List Addr) (H : Hp) (v : V) : Cl → Prop
  | .d x => Dq (hid O H) v x
  | .own xs => ∃ p vs, v = .ref p ∧ p ∈ O ∧ B p = none ∧ H p = some (.lst vs) ∧ DqAll (hid O H) vs xs
def Cl.isOwn : Cl → Bool
  | .d _ => false
  | .own _ => true
structure Rp (B : Hp) (O0 O : List Addr) (σ : L2.St) (H : Hp) (ρ : Sl) : Prop where
  ex : Same B H
  sub : ∀ p ∈ O0, p ∈ O
  b0 : ∀ p ∈ O0, B p ≠ none
  od : ∀ p ∈ O, H p ≠ none
  len : σ.length = ρ.length
  sl : ∀ (i : Nat) (c : Cl), ρ[i]? = some (some c) → ∃ v, σ[i]? = some (some v) ∧ ClOk B O H v c
  dj : ∀ (i j : Nat) (c c' : Cl), i ≠ j → ρ[i]? = some (some c) → ρ[j]? = some (some c') → c.isOwn = true → c'.isOwn = true → σ[i]? ≠ σ[j]?
theorem ClOk.mono {B : Hp} {O : List Addr} {H H' : Hp} {v : V} {c : Cl} (s : Same H H') (h : ClOk B O H v c) : ClOk B O H' v c := by
  cases c with
  | d x => exact dp_mono (hid_same s) h
  | own xs =>
    obtain ⟨p, vs, e, hp, hb, hh, ha⟩ := h
    exact ⟨p, vs, e, hp, hb, s _ _ hh, dpAll_mono (hid_same s) ha⟩
theorem od_same {O : List Addr} {H H' : Hp} (s : Same H H') (od : ∀ p ∈ O, H p ≠ none) : ∀ p ∈ O, H' p ≠ none := fun p hp z => by
  cases e : H p with
  | none => exact od p hp e
  | some o => rw [s _ _ e] at z; cases z
theorem od_fresh {O : List Addr} {H : Hp} (od : ∀ p ∈ O, H p ≠ none) {q : Addr} (h : H q = none) : q ∉ O := fun z => od q z h
section
variable {B : Hp} {O0 O : List Addr} {σ : L2.St} {H H' : Hp} {ρ : Sl}
theorem Rp.mono (I : Rp B O0 O σ H ρ) (s : Same H H') : Rp B O0 O σ H' ρ :=
  ⟨I.ex.trans s, I.sub, I.b0, od_same s I.od, I.len, fun i c e => let ⟨v, a, b⟩ := I.sl i c e; ⟨v, a, b.mono s⟩, I.dj⟩
theorem Rp.fresh (I : Rp B O0 O σ H ρ) {q : Addr} (h : H q = none) : q ∉ O := od_fresh I.od h
/-- a name is set to a datum -/
theorem Rp.set (I : Rp B O0 O σ H ρ) {i : Nat} {v : V} {x : PyData} (h : Dq (hid O H) v x) : Rp B O0 O (σ.set i (some v)) H (ρ.set i (some (.d x))) := by
  refine ⟨I.ex, I.sub, I.b0, I.od, by rw [List.length_set, List.length_set]; exact I.len, fun j c e => ?_, fun j k c c' hjk hj hk o o' => ?_⟩
  · by_cases hij : i = j
    · subst hij
      by_cases hl : i < ρ.length
      · rw [List.getElem?_set_self hl] at e
        cases e
        exact ⟨v, List.getElem?_set_self (by rw [I.len]; exact hl), h⟩
      · rw [List.getElem?_eq_none (by rw [List.length_set]; omega)] at e; cases e
    · rw [List.getElem?_set_ne hij] at e
      obtain ⟨u, a, b⟩ := I.sl j c e
      exact ⟨u, by rw [List.getElem?_set_ne hij]; exact a, b⟩
  · have nj : i ≠ j := fun z => by
      subst z
      by_cases hl : i < ρ.length
      · rw [List.getElem?_set_self hl] at hj; cases hj; cases o
      · rw [List.getElem?_eq_none (by rw [List.length_set]; omega)] at hj; cases hj
    have nk : i ≠ k := fun z => by
      subst z
      by_cases hl : i < ρ.length
      · rw [List.getElem?_set_self hl] at hk; cases hk; cases o'
      · rw [List.getElem?_eq_none (by rw [List.length_set]; omega)] at hk; cases hk
    rw [List.getElem?_set_ne nj] at hj
    rw [List.getElem?_set_ne nk] at hk
    rw [List.getElem?_set_ne nj, List.getElem?_set_ne nk]
    exact I.dj j k c c' hjk hj hk o o'
/-- a name is set to a new list, owned from now on -/
theorem Rp.setOwn (I : Rp B O0 O σ H ρ) {H1 : Hp} (s : Same H H1) {i : Nat} {p : Addr} {vs : List V} {xs : List PyData} (hp : H p = none) (h1 : H1 p = some (.lst vs)) (ha : DqAll (hid (p :: O) H1) vs xs) :
    Rp B O0 (p :: O) (σ.set i (some (.ref p))) H1 (ρ.set i (some (.own xs))) ∧ Same (hid O H) (hid (p :: O) H1) := by
  have I1 := I.mono s
  have np : p ∉ O := I.fresh hp
  have hs : Same (hid O H) (hid (p :: O) H1) := fun a o e => by
    obtain ⟨n, e⟩ := hid_some e
    refine hid_mk (fun z => ?_) (s _ _ e)
    rcases List.mem_cons.mp z with rfl | z
    · rw [hp] at e; cases e
    · exact n z
  have old : ∀ {v : V} {c : Cl}, ClOk B O H v c → ClOk B (p :: O) H1 v c := fun {v c} h => by
    cases c with
    | d x => exact dp_mono hs h
    | own ys =>
      obtain ⟨q, us, e, hq, hb, hh, ha⟩ := h
      exact ⟨q, us, e, List.mem_cons_of_mem _ hq, hb, s _ _ hh, dpAll_mono hs ha⟩
  have bp : B p = none := I.ex.free hp
  refine ⟨⟨I1.ex, fun q hq => List.mem_cons_of_mem _ (I.sub q hq), I.b0, fun q hq => ?_, by rw [List.length_set, List.length_set]; exact I.len, fun j c e => ?_, fun j k c c' hjk hj hk o o' => ?_⟩, hs⟩
  · rcases List.mem_cons.mp hq with rfl | hq
    · rw [h1]; exact fun z => nomatch z
    · exact I1.od q hq
  · by_cases hij : i = j
    · subst hij
      by_cases hl : i < ρ.length
      · rw [List.getElem?_set_self hl] at e
        cases e
        exact ⟨.ref p, List.getElem?_set_self (by rw [I.len]; exact hl), p, vs, rfl, List.mem_cons_self, bp, h1, ha⟩
      · rw [List.getElem?_eq_none (by rw [List.length_set]; omega)] at e; cases e
    · rw [List.getElem?_set_ne hij] at e
      obtain ⟨u, a, b⟩ := I.sl j c e
      exact ⟨u, by rw [List.getElem?_set_ne hij]; exact a, old b⟩
  · have isref : ∀ {k : Nat} {c : Cl}, ρ[k]? = some (some c) → c.isOwn = true → ∃ q, σ[k]? = some (some (.ref q)) ∧ q ≠ p := fun {k c} e o => by
      obtain ⟨u, a, b⟩ := I.sl k c e
      cases c with
      | d x => cases o
      | own ys =>
        obtain ⟨q, us, e', hq, hb, hh, ha⟩ := b
        subst e'
        exact ⟨q, a, fun z => by subst z; rw [hp] at hh; cases hh⟩
    by_cases nj : i = j
    · subst nj
      by_cases hl : i < ρ.length
      · have hkk : i ≠ k := hjk
        rw [List.getElem?_set_ne hkk] at hk
        obtain ⟨q, a, ne⟩ := isref hk o'
        rw [List.getElem?_set_self (by rw [I.len]; exact hl), List.getElem?_set_ne hkk, a]
        intro z
        cases z
        exact ne rfl
      · rw [List.getElem?_eq_none (by rw [List.length_set]; omega)] at hj; cases hj
    · rw [List.getElem?_set_ne nj] at hj
      by_cases nk : i = k
      · subst nk
        by_cases hl : i < ρ.length
        · obtain ⟨q, a, ne⟩ := isref hj o
          rw [List.getElem?_set_self (by rw [I.len]; exact hl), List.getElem?_set_ne nj, a]
          intro z
          cases z
          exact ne rfl
        · rw [List.getElem?_eq_none (by rw [List.length_set]; omega)] at hk; cases hk
      · rw [List.getElem?_set_ne nk] at hk
        rw [List.getElem?_set_ne nj, List.getElem?_set_ne nk]
        exact I.dj j k c c' hjk hj hk o o'
/-- the owned list of slot i changes -/
theorem Rp.mut (I : Rp B O0 O σ H ρ) {i : Nat} {p : Addr} {vs us : List V} {xs ys : List PyData} (hr : ρ[i]? = some (some (.own xs))) (hs : σ[i]? = some (some (.ref p))) (hp : H p = some (.lst vs)) (hO : p ∈ O) (ha : DqAll (hid O H) us ys) :
    Rp B O0 O σ (upd H p (.lst us)) (ρ.set i (some (.own ys))) ∧ Same (hid O H) (hid O (upd H p (.lst us))) := by
  have hs' : Same (hid O H) (hid O (upd H p (.lst us))) := hid_mut hO
  have hl : i < ρ.length := (List.getElem?_eq_some_iff.mp hr).1
  have bp : B p = none := by
    obtain ⟨v, a, b⟩ := I.sl i _ hr
    rw [hs] at a; cases a
    obtain ⟨q, ws, e, _, hb, _⟩ := b
    cases e; exact hb
  refine ⟨⟨fun a o e => ?_, I.sub, I.b0, fun q hq => ?_, by rw [List.length_set]; exact I.len, fun j c e => ?_, fun j k c c' hjk hj hk o o' => ?_⟩, hs'⟩
  · rw [upd_ne (ne_of_none e bp)]; exact I.ex a o e
  · by_cases e : q = p
    · subst e; rw [upd_same]; exact fun z => nomatch z
    · rw [upd_ne e]; exact I.od q hq
  · by_cases hij : i = j
    · subst hij
      rw [List.getElem?_set_self hl] at e
      cases e
      exact ⟨.ref p, hs, p, us, rfl, hO, bp, upd_same, dpAll_mono hs' ha⟩
    · rw [List.getElem?_set_ne hij] at e
      obtain ⟨u, a, b⟩ := I.sl j c e
      refine ⟨u, a, ?_⟩
      cases c with
      | d x => exact dp_mono hs' b
      | own zs =>
        obtain ⟨q, ws, e', hq, hb, hh, ha'⟩ := b
        have ne : q ≠ p := fun z => by
          subst z
          subst e'
          exact I.dj i j _ _ hij hr e rfl rfl (hs.trans a.symm)
        exact ⟨q, ws, e', hq, hb, by rw [upd_ne ne]; exact hh, dpAll_mono hs' ha'⟩
  · have back : ∀ {k : Nat} {c : Cl}, (ρ.set i (some (.own ys)))[k]? = some (some c) → c.isOwn = true → ∃ c0, ρ[k]? = some (some c0) ∧ c0.isOwn = true := fun {k c} e o => by
      by_cases z : i = k
      · subst z; exact ⟨_, hr, rfl⟩
      · rw [List.getElem?_set_ne z] at e; exact ⟨c, e, o⟩
    obtain ⟨c0, e0, o0⟩ := back hj o
    obtain ⟨c1, e1, o1⟩ := back hk o'
    exact I.dj j k c0 c1 hjk e0 e1 o0 o1
/-- an owned list is owned no more -/
theorem Rp.freeze (I : Rp B O0 O σ H ρ) {i : Nat} {xs : List PyData} (hr : ρ[i]? = some (some (.own xs))) (h0 : ∀ p ∈ O0, B p ≠ none) :
    ∃ O', Rp B O0 O' σ H (ρ.set i (some (.d (.list xs)))) ∧ Same (hid O H) (hid O' H) := by
  obtain ⟨v, hs, p, vs, e, hO, bp, hp, ha⟩ := I.sl i _ hr
  subst e
  have hl : i < ρ.length := (List.getElem?_eq_some_iff.mp hr).1
  have sub : ∀ q ∈ O.filter (fun z => decide (z ≠ p)), q ∈ O := fun q hq => (List.mem_filter.mp hq).1
  have np : p ∉ O.filter (fun z => decide (z ≠ p)) := fun z => by
    have := (List.mem_filter.mp z).2
    simp at this
  have hs' : Same (hid O H) (hid (O.filter (fun z => decide (z ≠ p))) H) := hid_sub sub
  refine ⟨O.filter (fun z => decide (z ≠ p)), ⟨I.ex, fun q hq => List.mem_filter.mpr ⟨I.sub q hq, decide_eq_true fun z => h0 q hq (z ▸ bp)⟩, I.b0, fun q hq => I.od q (sub q hq), by rw [List.length_set]; exact I.len, fun j c e => ?_, fun j k c c' hjk hj hk o o' => ?_⟩, hs'⟩
  · by_cases hij : i = j
    · subst hij
      rw [List.getElem?_set_self hl] at e
      cases e
      exact ⟨.ref p, hs, .lst (Rd.of (hid_mk np hp)) (dpAll_mono hs' ha)⟩
    · rw [List.getElem?_set_ne hij] at e
      obtain ⟨u, a, b⟩ := I.sl j c e
      refine ⟨u, a, ?_⟩
      cases c with
      | d x => exact dp_mono hs' b
      | own zs =>
        obtain ⟨q, ws, e', hq, hb, hh, ha'⟩ := b
        have ne : q ≠ p := fun z => by
          subst z
          subst e'
          exact I.dj i j _ _ hij hr e rfl rfl (hs.trans a.symm)
        exact ⟨q, ws, e', List.mem_filter.mpr ⟨hq, decide_eq_true ne⟩, hb, hh, dpAll_mono hs' ha'⟩
  · have nj : i ≠ j := fun z => by
      subst z
      rw [List.getElem?_set_self hl] at hj; cases hj; cases o
    have nk : i ≠ k := fun z => by
      subst z
      rw [List.getElem?_set_self hl] at hk; cases hk; cases o'
    rw [List.getElem?_set_ne nj] at hj
    rw [List.getElem?_set_ne nk] at hk
    exact I.dj j k c c' hjk hj hk o o'
end
end SB

namespace SB
open PySem PySem.Spec PyProof.Rows L2

/-! ### what is wanted of a result -/
def EO (O : List Addr) (H : Hp) : Option PyData → Option Addr → Prop
  | none, d => d = none
  | some x, d => ∃ dd v, d = some dd ∧ H dd = some (.xd [(("line" : Str), v)]) ∧ Dq (hid O H) v x
theorem EO.sub {O O' : List Addr} {H : Hp} {p : Option PyData} {d : Option Addr} (s : ∀ q ∈ O', q ∈ O) (h : EO O H p d) : EO O' H p d := by
  cases p with
  | none => exact h
  | some x => obtain ⟨dd, v, a, b, c⟩ := h; exact ⟨dd, v, a, b, dp_mono (hid_sub s) c⟩
abbrev Po (α β : Type) := List Addr → Hp → Hp → β → α → Prop
section
variable {α β γ δ : Type}
def OkG (P : Po α β) (W : L2.WX) (cl : Nat → Addr) (O : List Addr) (σ : L2.St) (H : Hp) (r : Rs α) (Q : β → Hp → Prop) : Prop :=
  match r with
  | .bad => False
  | .ok a => ∀ v H', Same H H' → P O H H' v a → Q v H'
  | .err c p => ∀ d H', Same H H' → EO O H' p d → W (.ref (cl c)) d σ H'
def Mon (P : Po α β) : Prop := ∀ O H H1 H' v a, Same H H1 → P O H1 H' v a → P O H H' v a
theorem OkG.mono {P : Po α β} {W : L2.WX} {cl : Nat → Addr} {O : List Addr} {σ : L2.St} {H H1 : Hp} {r : Rs α} {Q : β → Hp → Prop} (m : Mon P) (s : Same H H1) (h : OkG P W cl O σ H r Q) : OkG P W cl O σ H1 r Q := by
  cases r with
  | bad => exact h
  | ok a => exact fun v H' s' p => h v H' (s.trans s') (m _ _ _ _ _ _ s p)
  | err c p => exact fun d H' s' e => h d H' (s.trans s') e
def EvG (P : Po α β) (W : L2.WX) (cl : Nat → Addr) (t : L2.St → Hp → (β → Hp → Prop) → Prop) (f : Sl → Rs α) : Prop :=
  ∀ (B : Hp) (O0 O : List Addr) (σ : L2.St) (H : Hp) (ρ : Sl) (Q : β → Hp → Prop), Rp B O0 O σ H ρ → OkG P W cl O σ H (f ρ) Q → t σ H Q
theorem EvG.go {P1 : Po α β} {P2 : Po γ δ} {W : L2.WX} {cl : Nat → Addr} {t : L2.St → Hp → (β → Hp → Prop) → Prop} {f : Sl → Rs α} (h : EvG P1 W cl t f) (m : Mon P2)
    {B : Hp} {O0 O : List Addr} {σ : L2.St} {H : Hp} {ρ : Sl} (I : Rp B O0 O σ H ρ) {g : α → Rs γ} {Q : δ → Hp → Prop} (hok : OkG P2 W cl O σ H ((f ρ).bind g) Q)
    {Q1 : β → Hp → Prop} (k : ∀ a v H1, f ρ = .ok a → Same H H1 → Rp B O0 O σ H1 ρ → P1 O H H1 v a → OkG P2 W cl O σ H1 (g a) Q → Q1 v H1) : t σ H Q1 := by
  refine h B O0 O σ H ρ Q1 I ?_
  cases e : f ρ with
  | bad => rw [e] at hok; exact hok
  | err c p => rw [e] at hok; exact hok
  | ok a =>
    rw [e] at hok
    exact fun v H1 s p => k a v H1 e s (I.mono s) p (OkG.mono m s hok)
theorem EvG.weak {P P' : Po α β} {W : L2.WX} {cl : Nat → Addr} {t : L2.St → Hp → (β → Hp → Prop) → Prop} {f : Sl → Rs α} (h : EvG P W cl t f)
    (w : ∀ O H H' v a, (∀ p ∈ O, H p ≠ none) → Same H H' → P O H H' v a → P' O H H' v a) : EvG P' W cl t f := fun B O0 O σ H ρ Q I ok => by
  refine h B O0 O σ H ρ Q I ?_
  cases e : f ρ with
  | bad => rw [e] at ok; exact ok
  | err c p => rw [e] at ok; exact ok
  | ok a => rw [e] at ok; exact fun v H' s p => ok v H' s (w _ _ _ _ _ I.od s p)
end
def pD : Po PyData V := fun O _ H' v d => Dq (hid O H') v d
def RdV (O : List Addr) (H : Hp) (v : V) (d : PyData) : Prop := Dq (hid O H) v d ∨ ∃ p vs ds, v = .ref p ∧ d = .list ds ∧ Rd H p (.lst vs) ∧ DqAll (hid O H) vs ds
def pR : Po PyData V := fun O _ H' v d => RdV O H' v d
def pL : Po PyData V := fun O H H' v d => ∃ p vs ds, v = .ref p ∧ d = .list ds ∧ H p = none ∧ H' p = some (.lst vs) ∧ DqAll (hid (p :: O) H') vs ds
def pF : Po PyData V := fun O H H' v d => Dq (hid O H') v d ∧ ∀ ds, d = .list ds → pL O H H' v d
def pA : Po (List PyData) (List V) := fun O _ H' vs ds => DqAll (hid O H') vs ds
def pB : Po Bool Bool := fun _ _ _ b c => b = c
def pI : Po (Option Int) (Option Int) := fun _ _ _ b c => b = c
theorem mD : Mon pD := fun _ _ _ _ _ _ _ p => p
theorem mR : Mon pR := fun _ _ _ _ _ _ _ p => p
theorem mA : Mon pA := fun _ _ _ _ _ _ _ p => p
theorem mB : Mon pB := fun _ _ _ _ _ _ _ p => p
theorem mI : Mon pI := fun _ _ _ _ _ _ _ p => p
theorem mL : Mon pL := fun _ _ _ _ _ _ s p => let ⟨a, vs, ds, e1, e2, h, h', q⟩ := p; ⟨a, vs, ds, e1, e2, s.free h, h', q⟩
theorem mF : Mon pF := fun O H H1 H' v d s p => ⟨p.1, fun ds e => mL O H H1 H' v d s (p.2 ds e)⟩
theorem pL_pD {O : List Addr} {H H' : Hp} {v : V} {d : PyData} (od : ∀ p ∈ O, H p ≠ none) (h : pL O H H' v d) : Dq (hid O H') v d := by
  obtain ⟨p, vs, ds, rfl, rfl, hn, h', q⟩ := h
  exact .lst (Rd.of (hid_mk (od_fresh od hn) h')) (dpAll_mono (hid_sub fun _ z => List.mem_cons_of_mem _ z) q)
theorem pL_pF {O : List Addr} {H H' : Hp} {v : V} {d : PyData} (od : ∀ p ∈ O, H p ≠ none) (h : pL O H H' v d) : pF O H H' v d := ⟨pL_pD od h, fun _ _ => h⟩
theorem RdV.up {O : List Addr} {H H' : Hp} {v : V} {d : PyData} (s : Same H H') (h : RdV O H v d) : RdV O H' v d := by
  rcases h with h | ⟨p, vs, ds, a, b, c, e⟩
  · exact .inl (dp_mono (hid_same s) h)
  · exact .inr ⟨p, vs, ds, a, b, rd_mono s c, dpAll_mono (hid_same s) e⟩

/-! ### reading data -/
section
variable {O : List Addr} {H : Hp} {v : V}
theorem rd_int {i : Int} (h : RdV O H v (.int i)) : v = .int i := by
  rcases h with h | ⟨p, vs, ds, a, b, c, e⟩
  · cases h; rfl
  · cases b
theorem rd_bl {i : Bool} (h : RdV O H v (.bool i)) : v = .bl i := by
  rcases h with h | ⟨p, vs, ds, a, b, c, e⟩
  · cases h; rfl
  · cases b
theorem rd_str {i : Str} (h : RdV O H v (.str i)) : v = .str i := by
  rcases h with h | ⟨p, vs, ds, a, b, c, e⟩
  · cases h; rfl
  · cases b
theorem rd_non (h : RdV O H v .none) : v = .non := by
  rcases h with h | ⟨p, vs, ds, a, b, c, e⟩
  · cases h; rfl
  · cases b
theorem rd_tup {ds : List PyData} (h : RdV O H v (.tuple ds)) : ∃ p vs, v = .ref p ∧ Tq (hid O H) p vs ∧ DqAll (hid O H) vs ds := by
  rcases h with h | ⟨p, vs, es, a, b, c, e⟩
  · cases h with
    | tup s a => exact ⟨_, _, rfl, s, a⟩
  · cases b
theorem rd_lst {ds : List PyData} (h : RdV O H v (.list ds)) : ∃ p vs, v = .ref p ∧ Rd H p (.lst vs) ∧ DqAll (hid O H) vs ds := by
  rcases h with h | ⟨p, vs, es, a, b, c, e⟩
  · cases h with
    | lst s a => exact ⟨_, _, rfl, rd_mono hid_le s, a⟩
  · cases b; exact ⟨p, vs, a, c, e⟩
theorem RdV.dq {d : PyData} (h : RdV O H v d) : Dq H v d := by
  rcases h with h | ⟨p, vs, es, a, b, c, e⟩
  · exact dp_mono hid_le h
  · subst a; subst b; exact .lst c (dpAll_mono hid_le e)
theorem rd_dict {kv : List (PyData × PyData)} (h : RdV O H v (.dict kv)) : False := by
  rcases h with h | ⟨p, vs, es, a, b, c, e⟩
  · cases h
  · cases b
end
theorem sqT_rd {K : Frg} {H : Hp} {p : Addr} {vs : List V} (h : Rd H p (.tup vs)) : SqT K H p vs := .inl h
theorem sqT_tq {K : Frg} {H : Hp} {p : Addr} {vs : List V} (h : Tq H p vs) : SqT K H p vs := .inl (tq_rd h)
theorem sqL_rd {K : Frg} {H : Hp} {p : Addr} {vs : List V} (h : Rd H p (.lst vs)) : SqL K H p vs := .inl h
/-- a new tuple -/
theorem new_tup {O : List Addr} {H : Hp} {p : Addr} {ob : Obj} {vs : List V} {ds : List PyData} (od : ∀ q ∈ O, H q ≠ none) (hp : H p = none) (hd : ob.dict = none) (ha : DqAll (hid O H) vs ds) : Dq (hid O (upd H p (.frz ob (.tup vs)))) (.ref p) (.tuple ds) :=
  .tup ⟨ob, hid_mk (od_fresh od hp) upd_same, hd⟩ (dpAll_mono (hid_same (same_new hp)) ha)
theorem newF_tup {O : List Addr} {H : Hp} {p : Addr} {ob : Obj} {vs : List V} {ds : List PyData} (od : ∀ q ∈ O, H q ≠ none) (hp : H p = none) (hd : ob.dict = none) (ha : DqAll (hid O H) vs ds) : pF O H (upd H p (.frz ob (.tup vs))) (.ref p) (.tuple ds) :=
  ⟨new_tup od hp hd ha, fun _ e => nomatch e⟩
/-- a pair that a walk has made -/
def Dw (O : List Addr) (H : Hp) (v : V) (d : PyData) : Prop := ∃ p xs ds, v = .ref p ∧ d = .tuple ds ∧ Rd (hid O H) p (.tup xs) ∧ DqAll (hid O H) xs ds
def Ds (O : List Addr) (H : Hp) (v : V) (d : PyData) : Prop := Dq (hid O H) v d
/-- a display -/
def tTupF (t : TA) : TE := fun σ H Q => t σ H fun xs H1 => xs.length ≤ sizeLine ∧ ∀ (p : Addr) (o : Obj), H1 p = none → o.dict = none → Q (.ref p) (upd H1 p (.frz o (.tup xs)))
theorem pe_tupF {X : Cx} {es : List Expr} {t : TA} {pos : Pos} {x1} (h : PA X es t) : PE X (.Tuple es x1 pos) (tTupF t) := by
  refine ⟨fun pins s σ H Q I hq => ?_⟩
  refine wpAny_Tuple_spliced (thn (h.run pos pins s σ H _ I hq) fun us s1 ⟨xs, H1, I1, r, z, q⟩ => ⟨by rw [← r.length]; exact z, ?_⟩)
  have hf : H1 s1.heap.objs.size = none := I1.hok.fresh (Nat.le_refl _)
  refine ⟨.ref s1.heap.objs.size, upd H1 s1.heap.objs.size (.frz { cls := .type "tuple", data := .seq us.toArray } (.tup xs)), I1.laid (t' := s1.toks) (fun b u e => Heap.get?_push_of_some _ e) (Nat.le_refl _) ?_, rfl, q _ _ hf rfl⟩
  exact ⟨Heap.get?_push_size _ rfl, z, us, r, ⟨_, Heap.get?_push_size _ rfl, rfl, _, rfl⟩⟩
/-- a new list -/
theorem newL {O : List Addr} {H : Hp} {p : Addr} {vs : List V} {ds : List PyData} (hp : H p = none) (ha : DqAll (hid O H) vs ds) : pL O H (upd H p (.lst vs)) (.ref p) (.list ds) := by
  refine ⟨p, vs, ds, rfl, rfl, hp, upd_same, dpAll_mono (fun a o e => ?_) ha⟩
  obtain ⟨n, e⟩ := hid_some e
  have ne : a ≠ p := ne_of_none e hp
  exact hid_mk (fun z => (List.mem_cons.mp z).elim ne n) (by rw [upd_ne ne]; exact e)
theorem newF {O : List Addr} {H : Hp} {p : Addr} {vs : List V} {ds : List PyData} (od : ∀ q ∈ O, H q ≠ none) (hp : H p = none) (ha : DqAll (hid O H) vs ds) : pF O H (upd H p (.lst vs)) (.ref p) (.list ds) := pL_pF od (newL hp ha)

/-! ### the judgements -/
structure DX (P : Po PyData V) (X : Cx) (W : L2.WX) (cl : Nat → Addr) (e : Expr) (t : TE) (f : Sl → Rs PyData) : Prop where
  pe : PE X e t
  ev : EvG P W cl t f
structure DT (X : Cx) (W : L2.WX) (cl : Nat → Addr) (e : Expr) (t : TT) (f : Sl → Rs Bool) : Prop where
  pt : PT X e t
  ev : EvG pB W cl t f
structure DW (X : Cx) (W : L2.WX) (cl : Nat → Addr) (e : Expr) (t : TT) (f : Sl → Rs Bool) : Prop where
  pw : PW X e t
  ev : EvG pB W cl t f
structure DA (X : Cx) (W : L2.WX) (cl : Nat → Addr) (es : List Expr) (t : TA) (f : Sl → Rs (List PyData)) : Prop where
  pa : PA X es t
  ev : EvG pA W cl t f
section
variable {X : Cx} {W : L2.WX} {cl : Nat → Addr}
theorem DX.fd {e : Expr} {t : TE} {f : Sl → Rs PyData} (h : DX pF X W cl e t f) : DX pD X W cl e t f := ⟨h.pe, h.ev.weak fun _ _ _ _ _ _ _ p => p.1⟩
theorem DX.dr {e : Expr} {t : TE} {f : Sl → Rs PyData} (h : DX pD X W cl e t f) : DX pR X W cl e t f := ⟨h.pe, h.ev.weak fun _ _ _ _ _ _ _ p => .inl p⟩
theorem DX.fr {e : Expr} {t : TE} {f : Sl → Rs PyData} (h : DX pF X W cl e t f) : DX pR X W cl e t f := h.fd.dr
/-! #### names and constants -/
def gVar (i : Nat) : Sl → Rs PyData := fun ρ => match ρ[i]? with
  | some (some (.d x)) => .ok x
  | _ => .bad
def gVarR (i : Nat) : Sl → Rs PyData := fun ρ => match ρ[i]? with
  | some (some (.d x)) => .ok x
  | some (some (.own xs)) => .ok (.list xs)
  | _ => .bad
def gC (d : PyData) : Sl → Rs PyData := fun _ => .ok d
theorem ev_var (i : Nat) : EvG pD W cl (tVar i) (gVar i) := fun B O0 O σ H ρ Q I ok => by
  unfold gVar at ok
  split at ok
  · rename_i x e
    obtain ⟨v, hv, hd⟩ := I.sl i _ e
    exact ⟨v, hv, ok v H (Same.refl H) hd⟩
  · exact False.elim ok
theorem ev_varR (i : Nat) : EvG pR W cl (tVar i) (gVarR i) := fun B O0 O σ H ρ Q I ok => by
  unfold gVarR at ok
  split at ok
  · rename_i x e
    obtain ⟨v, hv, hd⟩ := I.sl i _ e
    exact ⟨v, hv, ok v H (Same.refl H) (.inl hd)⟩
  · rename_i xs e
    obtain ⟨v, hv, p, vs, rfl, hO, bp, hp, ha⟩ := I.sl i _ e
    exact ⟨.ref p, hv, ok _ H (Same.refl H) (.inr ⟨p, vs, xs, rfl, rfl, Rd.of hp, ha⟩)⟩
  · exact False.elim ok
theorem dv (i : Nat) {x : Str} {pos : Pos} (hN : X.N[i]? = some x := by rfl) (hv : Vis X.env.scope x := by first | exact Or.inl rfl | exact Or.inr (Or.inl rfl) | exact Or.inr (Or.inr rfl)) (hd : (x == ("__debug__" : Str)) = false := by decide)
    (hcd : (x == ("__classdict__" : Str)) = false := by decide) : DX pD X W cl (.Name x pos) (tVar i) (gVar i) := ⟨pe_var hN hv hd hcd, ev_var i⟩
theorem dvR (i : Nat) {x : Str} {pos : Pos} (hN : X.N[i]? = some x := by rfl) (hv : Vis X.env.scope x := by first | exact Or.inl rfl | exact Or.inr (Or.inl rfl) | exact Or.inr (Or.inr rfl)) (hd : (x == ("__debug__" : Str)) = false := by decide)
    (hcd : (x == ("__classdict__" : Str)) = false := by decide) : DX pR X W cl (.Name x pos) (tVar i) (gVarR i) := ⟨pe_var hN hv hd hcd, ev_varR i⟩
theorem ev_c {v : V} {d : PyData} (h : ∀ H, Dq H v d) (hn : ∀ ds, d ≠ .list ds) : EvG pF W cl (tC v) (gC d) := fun B O0 O σ H ρ Q I ok => ok v H (Same.refl H) ⟨h _, fun ds e => (hn ds e).elim⟩
theorem d_int {i j pos} : DX pF X W cl (.Constant (.int i) j pos) (tC (.int i)) (gC (.int i)) := ⟨pe_int, ev_c (fun _ => .int i) (fun _ e => nomatch e)⟩
theorem d_bl {b j pos} : DX pF X W cl (.Constant (.bool b) j pos) (tC (.bl b)) (gC (.bool b)) := ⟨pe_bl, ev_c (fun _ => .bl b) (fun _ e => nomatch e)⟩
theorem d_non {j pos} : DX pF X W cl (.Constant .none j pos) (tC .non) (gC .none) := ⟨pe_non, ev_c (fun _ => .non) (fun _ e => nomatch e)⟩
theorem d_str {x j pos} : DX pF X W cl (.Constant (.str x) j pos) (tC (.str x)) (gC (.str x)) := ⟨pe_str, ev_c (fun _ => .str x) (fun _ e => nomatch e)⟩
theorem d_globI {x : Str} {i : Int} {tk : Tok} {pos : Pos} (hg : Gl X x) (hm : X.mg x = some (.int i tk)) (hd : (x == ("__debug__" : Str)) = false := by decide) : DX pF X W cl (.Name x pos) (tC (.int i)) (gC (.int i)) :=
  ⟨pe_glob hg hm ⟨_, rfl⟩ hd, ev_c (fun _ => .int i) (fun _ e => nomatch e)⟩
theorem d_globS {x z : Str} {tk : Tok} {pos : Pos} (hg : Gl X x) (hm : X.mg x = some (.str z tk)) (hd : (x == ("__debug__" : Str)) = false := by decide) : DX pF X W cl (.Name x pos) (tC (.str z)) (gC (.str z)) :=
  ⟨pe_glob hg hm ⟨_, rfl⟩ hd, ev_c (fun _ => .str z) (fun _ e => nomatch e)⟩
/-! #### arguments, displays, calls -/
def aNil : Sl → Rs (List PyData) := fun _ => .ok []
def aCons (f : Sl → Rs PyData) (g : Sl → Rs (List PyData)) : Sl → Rs (List PyData) := fun ρ => (f ρ).bind fun x => (g ρ).bind fun xs => .ok (x :: xs)
theorem da_nil : DA X W cl [] tNil aNil := ⟨pa_nil, fun B O0 O σ H ρ Q I ok => ok [] H (Same.refl H) .nil⟩
theorem da_cons {e : Expr} {es : List Expr} {te : TE} {t : TA} {f : Sl → Rs PyData} {g : Sl → Rs (List PyData)} (ha : DX pD X W cl e te f) (hr : DA X W cl es t g) (hs : starEach (e :: es) X.env = (false, eval e X.env) :: starEach es X.env := by rfl) :
    DA X W cl (e :: es) (tCons te t) (aCons f g) := ⟨pa_cons ha.pe hr.pa hs, fun B O0 O σ H ρ Q I ok =>
  ha.ev.go mA I ok fun x v H1 _ s1 I1 p1 ok1 => hr.ev.go mA I1 ok1 fun xs vs H2 _ s2 I2 p2 ok2 => ok2 _ H2 (Same.refl H2) (.cons (dp_mono (hid_same s2) p1) p2)⟩
def sz : Nat := 100000
theorem sz_le {n : Nat} (h : n ≤ sz) : n ≤ sizeLine := Nat.le_trans h (by decide)
theorem sz_lt {n : Nat} (h : n < sz) : n < sizeLine := Nat.lt_of_lt_of_le h (by decide)
def gTup (g : Sl → Rs (List PyData)) : Sl → Rs PyData := fun ρ => (g ρ).bind fun ds => if ds.length ≤ sz then .ok (.tuple ds) else .bad
def gLst (g : Sl → Rs (List PyData)) : Sl → Rs PyData := fun ρ => (g ρ).bind fun ds => if ds.length ≤ sz then .ok (.list ds) else .bad
theorem okG_if {α β : Type} {P : Po α β} {W : L2.WX} {cl : Nat → Addr} {O : List Addr} {σ : L2.St} {H : Hp} {c : Prop} [Decidable c] {a : α} {Q : β → Hp → Prop} (h : OkG P W cl O σ H (if c then .ok a else .bad) Q) : c ∧ ∀ v H', Same H H' → P O H H' v a → Q v H' := by
  by_cases e : c
  · rw [if_pos e] at h; exact ⟨e, h⟩
  · rw [if_neg e] at h; exact False.elim h
theorem d_tup {es : List Expr} {t : TA} {g : Sl → Rs (List PyData)} {x1 pos} (h : DA X W cl es t g) : DX pF X W cl (.Tuple es x1 pos) (tTupF t) (gTup g) := ⟨pe_tupF h.pa, fun B O0 O σ H ρ Q I ok =>
  h.ev.go mF I ok fun ds vs H1 _ s1 I1 p1 ok1 => by
    obtain ⟨hl, ok1⟩ := okG_if ok1
    exact ⟨by rw [dpAll_len p1]; exact sz_le hl, fun p ob hp hd => ok1 _ _ (same_new hp) (newF_tup I1.od hp hd p1)⟩⟩
theorem d_lst {es : List Expr} {t : TA} {g : Sl → Rs (List PyData)} {pos} (h : DA X W cl es t g) : DX pF X W cl (.List es pos) (tLst t) (gLst g) := ⟨pe_lst h.pa, fun B O0 O σ H ρ Q I ok =>
  h.ev.go mF I ok fun ds vs H1 _ s1 I1 p1 ok1 => by
    obtain ⟨hl, ok1⟩ := okG_if ok1
    exact ⟨by rw [dpAll_len p1]; exact sz_le hl, fun p hp => ok1 _ _ (same_new hp) (newF I1.od hp p1)⟩⟩
end
/-- a def's promise: its data function -/
def FnSp (cl : Nat → Addr) (F : List PyData → Rs PyData) : Sp := fun vs H Q E => ∃ O ds, (∀ p ∈ O, H p ≠ none) ∧ DqAll (hid O H) vs ds ∧ OkG pF (fun cls d _ H' => E cls d H') cl O [] H (F ds) Q
section
variable {X : Cx} {W : L2.WX} {cl : Nat → Addr}
def gCall (F : List PyData → Rs PyData) (g : Sl → Rs (List PyData)) : Sl → Rs PyData := fun ρ => (g ρ).bind F
theorem d_call {F : List PyData → Rs PyData} {k : Nat} {f : Addr} {fd : FuncData} {ps : List Str} {x : Str} {p pos : Pos} {e : Expr} {es : List Expr} {t : TA} {g : Sl → Rs (List PyData)}
    (G : FnOk X.prog X.w X.K X.mg X.base (L2.CX X.prog X.w) k f fd ps (FnSp cl F)) (hr : Room k X.A) (hg : Gl X x) (hm : X.mg x = some (.ref f)) (hk : PySem.W.keepIn X.K (.ref f) = true) (hb : Binds X.K fd ps []) (tk : Takes X W) (ha : DA X W cl (e :: es) t g)
    (hdb : (x == ("__debug__" : Str)) = false := by decide) (he : starEach (e :: es) X.env = (false, eval e X.env) :: starEach es X.env := by rfl) (hpl : (backTo pos (starEach es X.env)).any (·.1) = false := by rfl) :
    DX pF X W cl (.Call (.Name x p) (e :: es) [] pos) (tCallS (FnSp cl F) (WE W) t) (gCall F g) := ⟨pe_callS G hr hg hm hk hb (fun σ => passAt tk σ) ha.pa hdb he hpl, fun B O0 O σ H ρ Q I ok =>
  ha.ev.go mF I ok fun ds vs H1 _ s1 I1 p1 ok1 => by
    refine ⟨O, ds, I1.od, p1, ?_⟩
    revert ok1
    cases F ds with
    | bad => exact fun z => z
    | ok d => exact fun z => z
    | err c q => exact fun z => z⟩
/-! #### operators -/
/-- what a two-place operation on values does to data -/
def OpD (P : Po PyData V) (r : R2) (g : PyData → PyData → Rs PyData) : Prop := ∀ (W : L2.WX) (cl : Nat → Addr) (O : List Addr) (σ : L2.St) (H : Hp) (v u : V) (x y : PyData) (Q : VK), (∀ p ∈ O, H p ≠ none) → RdV O H v x → RdV O H u y → OkG P W cl O σ H (g x y) Q → r v u H Q
def gBin (g : PyData → PyData → Rs PyData) (fa fb : Sl → Rs PyData) : Sl → Rs PyData := fun ρ => (fa ρ).bind fun x => (fb ρ).bind fun y => g x y
theorem ev_op {P : Po PyData V} {r : R2} {g : PyData → PyData → Rs PyData} {ta tb : TE} {fa fb : Sl → Rs PyData} (m : Mon P) (hr : OpD P r g) (ha : EvG pR W cl ta fa) (hb : EvG pR W cl tb fb) : EvG P W cl (tOp r ta tb) (gBin g fa fb) := fun B O0 O σ H ρ Q I ok =>
  ha.go m I ok fun x v H1 _ s1 I1 p1 ok1 => hb.go m I1 ok1 fun y u H2 _ s2 I2 p2 ok2 => hr W cl O σ H2 v u x y Q I2.od (RdV.up s2 p1) p2 ok2
theorem d_op {P : Po PyData V} {op : Operator} {r : R2} {g : PyData → PyData → Rs PyData} {a b : Expr} {pos : Pos} {ta tb : TE} {fa fb : Sl → Rs PyData} (m : Mon P) (ho : OpR X (binaryOp op) r) (hr : OpD P r g) (ha : DX pR X W cl a ta fa) (hb : DX pR X W cl b tb fb) :
    DX P X W cl (.BinOp a op b pos) (tOp r ta tb) (gBin g fa fb) := ⟨pe_op ho ha.pe hb.pe, ev_op m hr ha.ev hb.ev⟩
theorem d_cmp {op : CmpOp} {r : R2} {g : PyData → PyData → Rs PyData} {a b : Expr} {pos : Pos} {ta tb : TE} {fa fb : Sl → Rs PyData} (ho : OpR X (compareOp op) r) (hr : OpD pF r g) (ha : DX pR X W cl a ta fa) (hb : DX pR X W cl b tb fb) (hm : behindInMarks op b = false) :
    DX pF X W cl (.Compare a [op] [b] pos) (tOp r ta tb) (gBin g fa fb) := ⟨pe_cmpR ho ha.pe hb.pe hm, ev_op mF hr ha.ev hb.ev⟩
/-- a value that must be a truth value -/
def asB : PyData → Rs Bool
  | .bool b => .ok b
  | _ => .bad
def gTest (f : Sl → Rs PyData) : Sl → Rs Bool := fun ρ => (f ρ).bind asB
theorem ev_test {P : Po PyData V} {t : TE} {f : Sl → Rs PyData} (hp : ∀ O H H' v d, P O H H' v d → RdV O H' v d) (h : EvG P W cl t f) : EvG pB W cl (tTest t) (gTest f) := fun B O0 O σ H ρ Q I ok =>
  h.go mB I ok fun x v H1 _ s1 I1 p1 ok1 => by
    cases x with
    | bool b => exact ⟨b, rd_bl (hp _ _ _ _ _ p1), ok1 b H1 (Same.refl H1) rfl⟩
    | _ => exact False.elim ok1
theorem pFR : ∀ (O : List Addr) (H H' : Hp) (v : V) (d : PyData), pF O H H' v d → RdV O H' v d := fun _ _ _ _ _ p => .inl p.1
theorem pDR : ∀ (O : List Addr) (H H' : Hp) (v : V) (d : PyData), pD O H H' v d → RdV O H' v d := fun _ _ _ _ _ p => .inl p
theorem dt_cmp {op : CmpOp} {r : R2} {g : PyData → PyData → Rs PyData} {a b : Expr} {pos : Pos} {ta tb : TE} {fa fb : Sl → Rs PyData} (ho : OpR X (compareOp op) r) (hr : OpD pF r g) (ha : DX pR X W cl a ta fa) (hb : DX pR X W cl b tb fb) (hm : behindInMarks op b = false) :
    DT X W cl (.Compare a [op] [b] pos) (tTest (tOp r ta tb)) (gTest (gBin g fa fb)) := ⟨pt_cmpR ho ha.pe hb.pe hm, ev_test pFR (ev_op mF hr ha.ev hb.ev)⟩
/-! #### ints -/
def iOp (h : Int → Int → Rs PyData) : PyData → PyData → Rs PyData
  | .int i, .int j => h i j
  | _, _ => .bad
theorem op_I0 {h : Int → Int → Int} : OpD pF (rI0 fun i j => V.int (h i j)) (iOp fun i j => .ok (.int (h i j))) := fun W cl O σ H v u x y Q od hx hy ok => by
  cases x with
  | int i =>
    cases y with
    | int j => exact ⟨i, j, rd_int hx, rd_int hy, ok _ H (Same.refl H) ⟨.int _, fun _ e => nomatch e⟩⟩
    | _ => exact False.elim ok
  | _ => exact False.elim ok
theorem op_IB {h : Int → Int → Bool} : OpD pF (rI0 fun i j => V.bl (h i j)) (iOp fun i j => .ok (.bool (h i j))) := fun W cl O σ H v u x y Q od hx hy ok => by
  cases x with
  | int i =>
    cases y with
    | int j => exact ⟨i, j, rd_int hx, rd_int hy, ok _ H (Same.refl H) ⟨.bl _, fun _ e => nomatch e⟩⟩
    | _ => exact False.elim ok
  | _ => exact False.elim ok
theorem op_IC {C : Int → Int → Prop} [∀ i j, Decidable (C i j)] {h : Int → Int → Int} : OpD pF (rI C fun i j => V.int (h i j)) (iOp fun i j => if C i j then .ok (.int (h i j)) else .bad) := fun W cl O σ H v u x y Q od hx hy ok => by
  cases x with
  | int i =>
    cases y with
    | int j =>
      obtain ⟨hc, ok⟩ := okG_if ok
      exact ⟨i, j, rd_int hx, rd_int hy, hc, ok _ H (Same.refl H) ⟨.int _, fun _ e => nomatch e⟩⟩
    | _ => exact False.elim ok
  | _ => exact False.elim ok
/-! #### and, or, not, if-expressions -/
def gAnd (f g : Sl → Rs Bool) : Sl → Rs Bool := fun ρ => (f ρ).bind fun b => if b = true then g ρ else .ok false
def gOr (f g : Sl → Rs Bool) : Sl → Rs Bool := fun ρ => (f ρ).bind fun b => if b = true then .ok true else g ρ
def gNot (f : Sl → Rs Bool) : Sl → Rs Bool := fun ρ => (f ρ).bind fun b => .ok (!b)
theorem ev_and {t u : TT} {f g : Sl → Rs Bool} (h1 : EvG pB W cl t f) (h2 : EvG pB W cl u g) : EvG pB W cl (tAnd t u) (gAnd f g) := fun B O0 O σ H ρ Q I ok =>
  h1.go mB I ok fun x v H1 _ s1 I1 p1 ok1 => by
    have e : v = x := p1
    subst e
    cases v with
    | true =>
      show u σ H1 Q
      exact h2 B O0 O σ H1 ρ Q I1 ok1
    | false =>
      show Q false H1
      exact ok1 false H1 (Same.refl H1) rfl
theorem ev_or {t u : TT} {f g : Sl → Rs Bool} (h1 : EvG pB W cl t f) (h2 : EvG pB W cl u g) : EvG pB W cl (tOr t u) (gOr f g) := fun B O0 O σ H ρ Q I ok =>
  h1.go mB I ok fun x v H1 _ s1 I1 p1 ok1 => by
    have e : v = x := p1
    subst e
    cases v with
    | true =>
      show Q true H1
      exact ok1 true H1 (Same.refl H1) rfl
    | false =>
      show u σ H1 Q
      exact h2 B O0 O σ H1 ρ Q I1 ok1
theorem ev_not {t : TT} {f : Sl → Rs Bool} (h1 : EvG pB W cl t f) : EvG pB W cl (tNot t) (gNot f) := fun B O0 O σ H ρ Q I ok =>
  h1.go mB I ok fun x v H1 _ s1 I1 p1 ok1 => by
    have e : v = x := p1
    subst e
    exact ok1 _ H1 (Same.refl H1) rfl
theorem DW.t {e : Expr} {t : TT} {f : Sl → Rs Bool} (h : DW X W cl e t f) : DT X W cl e t f := ⟨h.pw.pt, h.ev⟩
theorem dw_and1 {a : Expr} {pos : Pos} {t : TT} {f : Sl → Rs Bool} (h : DT X W cl a t f) : DW X W cl (.BoolOp .And [a] pos) t f := ⟨pw_and1 h.pt, h.ev⟩
theorem dw_or1 {a : Expr} {pos : Pos} {t : TT} {f : Sl → Rs Bool} (h : DT X W cl a t f) : DW X W cl (.BoolOp .Or [a] pos) t f := ⟨pw_or1 h.pt, h.ev⟩
theorem dw_and {a b : Expr} {rest : List Expr} {pos : Pos} {t u : TT} {f g : Sl → Rs Bool} (h : DT X W cl a t f) (k : DW X W cl (.BoolOp .And (b :: rest) pos) u g) : DW X W cl (.BoolOp .And (a :: b :: rest) pos) (tAnd t u) (gAnd f g) := ⟨pw_and h.pt k.pw, ev_and h.ev k.ev⟩
theorem dw_or {a b : Expr} {rest : List Expr} {pos : Pos} {t u : TT} {f g : Sl → Rs Bool} (h : DT X W cl a t f) (k : DW X W cl (.BoolOp .Or (b :: rest) pos) u g) : DW X W cl (.BoolOp .Or (a :: b :: rest) pos) (tOr t u) (gOr f g) := ⟨pw_or h.pt k.pw, ev_or h.ev k.ev⟩
theorem dt_not {a : Expr} {pos : Pos} {t : TT} {f : Sl → Rs Bool} (h : DT X W cl a t f) : DT X W cl (.UnaryOp .Not a pos) (tNot t) (gNot f) := ⟨pt_not h.pt, ev_not h.ev⟩
def gB (f : Sl → Rs Bool) : Sl → Rs PyData := fun ρ => (f ρ).bind fun b => .ok (.bool b)
/-- x and y, x or y, not x, as values: all of them truth values -/
theorem d_and {P : Po PyData V} {a b : Expr} {rest : List Expr} {pos : Pos} {ta tb : TE} {fa fb : Sl → Rs Bool} (h : DX pF X W cl a ta (gB fa)) (k : DX pF X W cl (.BoolOp .And (b :: rest) pos) tb (gB fb)) : DX pF X W cl (.BoolOp .And (a :: b :: rest) pos) (tAndV ta tb) (gB (gAnd fa fb)) :=
  ⟨pe_and h.pe k.pe, fun B O0 O σ H ρ Q I ok => by
    refine h.ev B O0 O σ H ρ _ I ?_
    unfold gB gAnd at ok
    unfold gB
    revert ok
    cases e : fa ρ with
    | bad => exact fun z => z
    | err c p => exact fun z => z
    | ok x =>
      intro ok v H1 s1 p1
      have ev : v = .bl x := rd_bl (.inl p1.1)
      refine ⟨x, ev, ?_⟩
      cases x with
      | false =>
        show Q (.bl false) H1
        exact ok _ H1 s1 ⟨.bl _, fun _ z => nomatch z⟩
      | true =>
        show tb σ H1 Q
        exact k.ev B O0 O σ H1 ρ Q (I.mono s1) (OkG.mono mF s1 ok)⟩
theorem d_or {a b : Expr} {rest : List Expr} {pos : Pos} {ta tb : TE} {fa fb : Sl → Rs Bool} (h : DX pF X W cl a ta (gB fa)) (k : DX pF X W cl (.BoolOp .Or (b :: rest) pos) tb (gB fb)) : DX pF X W cl (.BoolOp .Or (a :: b :: rest) pos) (tOrV ta tb) (gB (gOr fa fb)) :=
  ⟨pe_or h.pe k.pe, fun B O0 O σ H ρ Q I ok => by
    refine h.ev B O0 O σ H ρ _ I ?_
    unfold gB gOr at ok
    unfold gB
    revert ok
    cases e : fa ρ with
    | bad => exact fun z => z
    | err c p => exact fun z => z
    | ok x =>
      intro ok v H1 s1 p1
      have ev : v = .bl x := rd_bl (.inl p1.1)
      refine ⟨x, ev, ?_⟩
      cases x with
      | true =>
        show Q (.bl true) H1
        exact ok _ H1 s1 ⟨.bl _, fun _ z => nomatch z⟩
      | false =>
        show tb σ H1 Q
        exact k.ev B O0 O σ H1 ρ Q (I.mono s1) (OkG.mono mF s1 ok)⟩
theorem d_one {op} {a : Expr} {pos : Pos} {t : TE} {f : Sl → Rs PyData} (h : DX pF X W cl a t f) : DX pF X W cl (.BoolOp op [a] pos) t f := ⟨pe_one h.pe, h.ev⟩
/-- a value that is a truth value, as such -/
theorem d_asB {a : Expr} {t : TE} {f : Sl → Rs PyData} (h : DX pF X W cl a t f) : DX pF X W cl a t (gB (gTest f)) := ⟨h.pe, fun B O0 O σ H ρ Q I ok => by
  refine h.ev B O0 O σ H ρ Q I ?_
  unfold gB gTest at ok
  revert ok
  cases e : f ρ with
  | bad => exact fun z => z
  | err c p => exact fun z => z
  | ok x =>
    cases x with
    | bool b => exact fun z => z
    | _ => exact fun z => False.elim z⟩
theorem d_notV {a : Expr} {pos : Pos} {ta : TE} {fa : Sl → Rs Bool} (h : DX pF X W cl a ta (gB fa)) : DX pF X W cl (.UnaryOp .Not a pos) (tNotV ta) (gB (gNot fa)) :=
  ⟨pe_not h.pe, fun B O0 O σ H ρ Q I ok => by
    refine h.ev B O0 O σ H ρ _ I ?_
    unfold gB gNot at ok
    unfold gB
    revert ok
    cases e : fa ρ with
    | bad => exact fun z => z
    | err c p => exact fun z => z
    | ok x =>
      intro ok v H1 s1 p1
      exact ⟨x, rd_bl (.inl p1.1), ok _ H1 s1 ⟨.bl _, fun _ z => nomatch z⟩⟩⟩
def gIf (c : Sl → Rs Bool) (f g : Sl → Rs PyData) : Sl → Rs PyData := fun ρ => (c ρ).bind fun b => if b = true then f ρ else g ρ
theorem d_if {P : Po PyData V} {c a b : Expr} {pos : Pos} {tc : TT} {ta tb : TE} {fc : Sl → Rs Bool} {fa fb : Sl → Rs PyData} (m : Mon P) (hc : DT X W cl c tc fc) (ha : DX P X W cl a ta fa) (hb : DX P X W cl b tb fb) : DX P X W cl (.IfExp c a b pos) (tIf tc ta tb) (gIf fc fa fb) :=
  ⟨pe_ifExp hc.pt ha.pe hb.pe, fun B O0 O σ H ρ Q I ok => hc.ev.go m I ok fun x v H1 _ s1 I1 p1 ok1 => by
    have e : v = x := p1
    subst e
    cases v with
    | true =>
      show ta σ H1 Q
      exact ha.ev B O0 O σ H1 ρ Q I1 ok1
    | false =>
      show tb σ H1 Q
      exact hb.ev B O0 O σ H1 ρ Q I1 ok1⟩
/-! #### truth of a value -/
def truth : PyData → Rs Bool
  | .bool b => .ok b
  | .list ds => .ok (!ds.isEmpty)
  | .tuple ds => .ok (!ds.isEmpty)
  | _ => .bad
def gTru (f : Sl → Rs PyData) : Sl → Rs Bool := fun ρ => (f ρ).bind truth
end
end SB

namespace SB
open PySem PySem.Spec PyProof.Rows L2
section
variable {X : Cx} {W : L2.WX} {cl : Nat → Addr}
/-! ### truth; chains -/
def tTruK (K : Frg) (ta : TE) : TT := fun σ H Q => ta σ H fun x H' => ∃ k, TruV K x H' k ∧ Q k H'
theorem isEmpty_dq {H : Hp} {vs : List V} {ds : List PyData} (h : DqAll H vs ds) : (!ds.isEmpty) = !vs.isEmpty := by
  cases h <;> rfl
theorem ev_tru {K : Frg} {t : TE} {f : Sl → Rs PyData} (h : EvG pR W cl t f) : EvG pB W cl (tTruK K t) (gTru f) := fun B O0 O σ H ρ Q I ok =>
  h.go mB I ok fun x v H1 _ s1 I1 p1 ok1 => by
    cases x with
    | bool b =>
      rw [rd_bl p1]
      exact ⟨b, rfl, ok1 b H1 (Same.refl H1) rfl⟩
    | list ds =>
      obtain ⟨p, vs, rfl, hp, ha⟩ := rd_lst p1
      refine ⟨!vs.isEmpty, .inl ⟨vs, sqL_rd hp, rfl⟩, ok1 _ H1 (Same.refl H1) ?_⟩
      exact (isEmpty_dq ha).symm
    | tuple ds =>
      obtain ⟨p, vs, rfl, hp, ha⟩ := rd_tup p1
      refine ⟨!vs.isEmpty, .inr (.inl ⟨vs, sqT_tq (tq_mono hid_le hp), rfl⟩), ok1 _ H1 (Same.refl H1) ?_⟩
      exact (isEmpty_dq ha).symm
    | _ => exact False.elim ok1
theorem dt_tru {a : Expr} {t : TE} {f : Sl → Rs PyData} (h : DX pR X W cl a t f) (he : ∀ whole, isTrue a X.env whole = (do let v ← whole; standAt a.pos; holding [v] (truthy v)) := by intro _; rfl) : DT X W cl a (tTruK X.K t) (gTru f) := ⟨pt_truth h.pe he, ev_tru h.ev⟩
def gChainK (q : Int → Int → Bool) (j : Int) : PyData → Rs PyData
  | .int k => .ok (.bool (q j k))
  | _ => .bad
def gChainJ (p q : Int → Int → Bool) (r : Rs PyData) : PyData → PyData → Rs PyData
  | .int i, .int j => if p i j = true then r.bind (gChainK q j) else .ok (.bool false)
  | _, _ => .bad
def gChain (p q : Int → Int → Bool) (fa fb fc : Sl → Rs PyData) : Sl → Rs PyData := fun ρ => (fa ρ).bind fun x => (fb ρ).bind fun y => gChainJ p q (fc ρ) x y
abbrev rIB (p : Int → Int → Bool) : R2 := rI0 fun i j => .bl (p i j)
theorem ev_chain {p q : Int → Int → Bool} {ta tb tc : TE} {fa fb fc : Sl → Rs PyData} (ha : EvG pR W cl ta fa) (hb : EvG pR W cl tb fb) (hc : EvG pR W cl tc fc) : EvG pF W cl (tChain (rIB p) (rIB q) ta tb tc) (gChain p q fa fb fc) := fun B O0 O σ H ρ Q I ok =>
  ha.go mF I ok fun x v H1 _ s1 I1 p1 ok1 => hb.go mF I1 ok1 fun y u H2 _ s2 I2 p2 ok2 => by
    cases x with
    | int i =>
      cases y with
      | int j =>
        have ev := rd_int p1
        have eu := rd_int p2
        refine ⟨i, j, ev, eu, p i j, rfl, ?_⟩
        have ok2 : OkG pF W cl O σ H2 (if p i j = true then (fc ρ).bind (gChainK q j) else .ok (.bool false)) Q := ok2
        cases hp : p i j with
        | false =>
          rw [hp] at ok2
          show Q (.bl false) H2
          exact ok2 _ H2 (Same.refl H2) ⟨.bl _, fun _ z => nomatch z⟩
        | true =>
          rw [hp, if_pos rfl] at ok2
          show tc σ H2 _
          refine hc.go mF I2 ok2 fun z w H3 _ s3 I3 p3 ok3 => ?_
          cases z with
          | int k => exact ⟨j, k, eu, rd_int p3, ok3 _ H3 (Same.refl H3) ⟨.bl _, fun _ z => nomatch z⟩⟩
          | _ => exact False.elim ok3
      | _ => exact False.elim ok2
    | _ => exact False.elim ok2
theorem d_chain {op op' : CmpOp} {p q : Int → Int → Bool} {a b c : Expr} {pos : Pos} {ta tb tc : TE} {fa fb fc : Sl → Rs PyData} (ho : OpR X (compareOp op) (rIB p)) (ho' : OpR X (compareOp op') (rIB q)) (ha : DX pR X W cl a ta fa) (hb : DX pR X W cl b tb fb) (hc : DX pR X W cl c tc fc)
    (hm : lastMarks [op, op'] [b, c] = false := by with_unfolding_all rfl) : DX pF X W cl (.Compare a [op, op'] [b, c] pos) (tChain (rIB p) (rIB q) ta tb tc) (gChain p q fa fb fc) := ⟨pe_chain ho ho' ha.pe hb.pe hc.pe hm, ev_chain ha.ev hb.ev hc.ev⟩
theorem dt_chain {op op' : CmpOp} {p q : Int → Int → Bool} {a b c : Expr} {pos : Pos} {ta tb tc : TE} {fa fb fc : Sl → Rs PyData} (ho : OpR X (compareOp op) (rIB p)) (ho' : OpR X (compareOp op') (rIB q)) (ha : DX pR X W cl a ta fa) (hb : DX pR X W cl b tb fb) (hc : DX pR X W cl c tc fc)
    (hm : lastMarks [op, op'] [b, c] = false := by with_unfolding_all rfl) : DT X W cl (.Compare a [op, op'] [b, c] pos) (tTest (tChain (rIB p) (rIB q) ta tb tc)) (gTest (gChain p q fa fb fc)) := ⟨pt_chain ho ho' ha.pe hb.pe hc.pe hm, ev_test pFR (ev_chain ha.ev hb.ev hc.ev)⟩
end

/-! ### statements -/
inductive Ot where
  | bad | nx (ρ : Sl) | rt (d : PyData) | er (c : Nat) (p : Option PyData) (ρ : Sl)
def OkS (W : L2.WX) (cl : Nat → Addr) (B : Hp) (O0 O : List Addr) (H : Hp) (o : Ot) (D : Ends) : Prop :=
  match o with
  | .bad => False
  | .nx ρ' => ∀ σ' O' H', Rp B O0 O' σ' H' ρ' → Same (hid O H) (hid O' H') → D.nx σ' H'
  | .rt d => ∀ v H', Same B H' → pF O0 B H' v d → D.rt v H'
  | .er c p ρ' => ∀ σ' O' H' d, Rp B O0 O' σ' H' ρ' → Same (hid O H) (hid O' H') → EO O' H' p d → W (.ref (cl c)) d σ' H'
def EvS (W : L2.WX) (cl : Nat → Addr) (t : TS) (h : Sl → Ot) : Prop := ∀ (B : Hp) (O0 O : List Addr) (σ : L2.St) (H : Hp) (ρ : Sl) (D : Ends), Rp B O0 O σ H ρ → OkS W cl B O0 O H (h ρ) D → t D σ H
structure DS (X : Cx) (W : L2.WX) (cl : Nat → Addr) (st : Stmt) (t : TS) (h : Sl → Ot) : Prop where
  ps : PS X st t
  ev : EvS W cl t h
structure DSs (X : Cx) (W : L2.WX) (cl : Nat → Addr) (st : List Stmt) (t : TS) (h : Sl → Ot) : Prop where
  pss : PSs X st t
  ev : EvS W cl t h
theorem OkS.mono {W : L2.WX} {cl : Nat → Addr} {B : Hp} {O0 O O1 : List Addr} {H H1 : Hp} {o : Ot} {D : Ends} (s : Same (hid O H) (hid O1 H1)) (h : OkS W cl B O0 O H o D) : OkS W cl B O0 O1 H1 o D := by
  cases o with
  | bad => exact h
  | nx ρ => exact fun σ' O' H' I s' => h σ' O' H' I (s.trans s')
  | rt d => exact h
  | er c p ρ => exact fun σ' O' H' d I s' => h σ' O' H' d I (s.trans s')
/-- an expression, then a statement's end -/
def oBind {α : Type} (r : Rs α) (ρ : Sl) (k : α → Ot) : Ot := match r with
  | .bad => .bad
  | .err c p => .er c p ρ
  | .ok a => k a
theorem EvG.goS {α β : Type} {P : Po α β} {W : L2.WX} {cl : Nat → Addr} {t : L2.St → Hp → (β → Hp → Prop) → Prop} {f : Sl → Rs α} (h : EvG P W cl t f) {B : Hp} {O0 O : List Addr} {σ : L2.St} {H : Hp} {ρ : Sl} (I : Rp B O0 O σ H ρ) {k : α → Ot} {D : Ends} (hok : OkS W cl B O0 O H (oBind (f ρ) ρ k) D)
    {Q1 : β → Hp → Prop} (g : ∀ a v H1, f ρ = .ok a → Same H H1 → Rp B O0 O σ H1 ρ → P O H H1 v a → OkS W cl B O0 O H1 (k a) D → Q1 v H1) : t σ H Q1 := by
  refine h B O0 O σ H ρ Q1 I ?_
  cases e : f ρ with
  | bad => rw [e] at hok; exact hok
  | err c p => rw [e] at hok; exact fun d H' s eo => hok σ O H' d (I.mono s) (hid_same s) eo
  | ok a => rw [e] at hok; exact fun v H1 s p => g a v H1 e s (I.mono s) p (OkS.mono (hid_same s) hok)
def sNext : Sl → Ot := fun ρ => .nx ρ
def sSeq (a b : Sl → Ot) : Sl → Ot := fun ρ => match a ρ with
  | .nx ρ' => b ρ'
  | o => o
section
variable {X : Cx} {W : L2.WX} {cl : Nat → Addr}
theorem ev_seq {t u : TS} {a b : Sl → Ot} (h1 : EvS W cl t a) (h2 : EvS W cl u b) : EvS W cl (tSeq t u) (sSeq a b) := fun B O0 O σ H ρ D I ok => by
  show t { D with nx := u D } σ H
  refine h1 B O0 O σ H ρ _ I ?_
  unfold sSeq at ok
  cases e : a ρ with
  | bad => rw [e] at ok; exact ok
  | rt d => rw [e] at ok; exact ok
  | er c p ρ' => rw [e] at ok; exact ok
  | nx ρ' => rw [e] at ok; exact fun σ' O' H' I' s => h2 B O0 O' σ' H' ρ' D I' (OkS.mono s ok)
theorem dss_cons {st : Stmt} {rest : List Stmt} {t u : TS} {a b : Sl → Ot} (h1 : DS X W cl st t a) (h2 : DSs X W cl rest u b) : DSs X W cl (st :: rest) (tSeq t u) (sSeq a b) := ⟨pss_cons h1.ps h2.pss, ev_seq h1.ev h2.ev⟩
theorem dss_one {st : Stmt} {t : TS} {a : Sl → Ot} (h1 : DS X W cl st t a) : DSs X W cl [st] t a := ⟨pss_one h1.ps, h1.ev⟩
theorem dss_nil : DSs X W cl [] tNext sNext := ⟨pss_nil, fun B O0 O σ H ρ D I ok => ok σ O H I (Same.refl _)⟩
theorem ds_pass {pos : Pos} : DS X W cl (.Pass pos) tNext sNext := ⟨ps_pass, fun B O0 O σ H ρ D I ok => ok σ O H I (Same.refl _)⟩
/-- an owned list is owned no more (nothing happens) -/
def frz (i : Nat) (ρ : Sl) : Sl := match ρ[i]? with
  | some (some (.own xs)) => ρ.set i (some (.d (.list xs)))
  | _ => ρ
def sFrz (i : Nat) (h : Sl → Ot) : Sl → Ot := fun ρ => h (frz i ρ)
theorem ev_frz {t : TS} {h : Sl → Ot} (i : Nat) (k : EvS W cl t h) : EvS W cl t (sFrz i h) := fun B O0 O σ H ρ D I ok => by
  unfold sFrz frz at ok
  split at ok
  · rename_i xs e
    obtain ⟨O', I', s⟩ := I.freeze e I.b0
    exact k B O0 O' σ H _ D I' (OkS.mono s ok)
  · exact k B O0 O σ H ρ D I ok
theorem dss_frz {sts : List Stmt} {t : TS} {h : Sl → Ot} (i : Nat) (k : DSs X W cl sts t h) : DSs X W cl sts t (sFrz i h) := ⟨k.pss, ev_frz i k.ev⟩
/-! #### return, expression, if -/
def sRet (f : Sl → Rs PyData) : Sl → Ot := fun ρ => oBind (f ρ) ρ fun d => .rt d
theorem ret_pF {B : Hp} {O0 O : List Addr} {σ : L2.St} {H H' : Hp} {ρ : Sl} {v : V} {d : PyData} (I : Rp B O0 O σ H ρ) (h : pF O H H' v d) : pF O0 B H' v d := by
  refine ⟨dp_mono (hid_sub I.sub) h.1, fun ds e => ?_⟩
  obtain ⟨p, vs, es, e1, e2, hn, h', q⟩ := h.2 ds e
  refine ⟨p, vs, es, e1, e2, I.ex.free hn, h', dpAll_mono (hid_sub fun z hz => ?_) q⟩
  rcases List.mem_cons.mp hz with rfl | hz
  · exact List.mem_cons_self
  · exact List.mem_cons_of_mem _ (I.sub _ hz)
theorem ds_ret {e : Expr} {pos : Pos} {te : TE} {f : Sl → Rs PyData} (he : DX pF X W cl e te f) : DS X W cl (.Return (some e) pos) (tRet te) (sRet f) := ⟨ps_ret he.pe, fun B O0 O σ H ρ D I ok =>
  he.ev.goS I ok fun d v H1 _ s1 I1 p1 ok1 => ok1 v H1 I1.ex (ret_pF I p1)⟩
/-- return of a name whose list is owned, or that holds no list -/
def gVarF (i : Nat) : Sl → Rs PyData := fun ρ => match ρ[i]? with
  | some (some (.own xs)) => .ok (.list xs)
  | some (some (.d (.list _))) => .bad
  | some (some (.d x)) => .ok x
  | _ => .bad
theorem ds_retV (i : Nat) {x : Str} {p pos : Pos} (hN : X.N[i]? = some x := by rfl) (hv : Vis X.env.scope x := by first | exact Or.inl rfl | exact Or.inr (Or.inl rfl) | exact Or.inr (Or.inr rfl)) (hd : (x == ("__debug__" : Str)) = false := by decide)
    (hcd : (x == ("__classdict__" : Str)) = false := by decide) : DS X W cl (.Return (some (.Name x p)) pos) (tRet (tVar i)) (sRet (gVarF i)) := ⟨ps_ret (pe_var hN hv hd hcd), fun B O0 O σ H ρ D I ok => by
  unfold sRet gVarF at ok
  split at ok
  · rename_i xs e
    obtain ⟨v, hv, q, vs, rfl, hO, bp, hp, ha⟩ := I.sl i _ e
    have nq : q ∉ O0 := fun z => I.b0 q z bp
    refine ⟨.ref q, hv, ok _ H I.ex ?_⟩
    have pl : pL O0 B H (.ref q) (.list xs) := ⟨q, vs, xs, rfl, rfl, bp, hp, dpAll_mono (hid_sub fun z hz => by
      rcases List.mem_cons.mp hz with rfl | hz
      · exact hO
      · exact I.sub _ hz) ha⟩
    exact ⟨.lst (Rd.of (hid_mk nq hp)) (dpAll_mono (hid_sub I.sub) ha), fun _ _ => pl⟩
  · exact False.elim ok
  · rename_i y hny e
    obtain ⟨v, hv, hd⟩ := I.sl i _ e
    exact ⟨v, hv, ok v H I.ex ⟨dp_mono (hid_sub I.sub) hd, fun ds z => (hny ds z).elim⟩⟩
  · exact False.elim ok⟩
def sDrop (f : Sl → Rs PyData) : Sl → Ot := fun ρ => oBind (f ρ) ρ fun _ => .nx ρ
theorem ds_expr {P : Po PyData V} {e : Expr} {pos : Pos} {te : TE} {f : Sl → Rs PyData} (he : DX P X W cl e te f) (hs : swapsWith e none pos.line X.env = pure false := by rfl) : DS X W cl (.Expr e pos) (tDrop te) (sDrop f) := ⟨ps_expr he.pe hs, fun B O0 O σ H ρ D I ok =>
  he.ev.goS I ok fun d v H1 _ s1 I1 p1 ok1 => ok1 σ O H1 I1 (Same.refl _)⟩
def sIf (c : Sl → Rs Bool) (a b : Sl → Ot) : Sl → Ot := fun ρ => oBind (c ρ) ρ fun k => if k = true then a ρ else b ρ
theorem ds_if {c : Expr} {a b : List Stmt} {pos : Pos} {tc : TT} {t u : TS} {fc : Sl → Rs Bool} {fa fb : Sl → Ot} (hc : DT X W cl c tc fc) (ha : DSs X W cl a t fa) (hb : DSs X W cl b u fb) : DS X W cl (.If c a b pos) (tIfS tc t u) (sIf fc fa fb) := ⟨ps_if hc.pt ha.pss hb.pss, fun B O0 O σ H ρ D I ok =>
  hc.ev.goS I ok fun k v H1 _ s1 I1 p1 ok1 => by
    have e : v = k := p1
    subst e
    cases v with
    | true =>
      show t D σ H1
      exact ha.ev B O0 O σ H1 ρ D I1 ok1
    | false =>
      show u D σ H1
      exact hb.ev B O0 O σ H1 ρ D I1 ok1⟩
/-! #### assignment -/
def sSet (i : Nat) (f : Sl → Rs PyData) : Sl → Ot := fun ρ => oBind (f ρ) ρ fun d => .nx (ρ.set i (some (.d d)))
theorem ev_set {te : TE} {f : Sl → Rs PyData} (i : Nat) (he : EvG pD W cl te f) : EvS W cl (tAsg te (gName i)) (sSet i f) := fun B O0 O σ H ρ D I ok =>
  he.goS I ok fun d v H1 _ s1 I1 p1 ok1 => ok1 (σ.set i (some v)) O H1 (I1.set p1) (Same.refl _)
theorem ds_set {i : Nat} {x : Str} {e : Expr} {te : TE} {pos pos' : Pos} {f : Sl → Rs PyData} (hN : X.N.Nodup) (hi : X.N[i]? = some x) (hx : Loc X.env.scope x) (he : DX pD X W cl e te f) (hs : swapsWith e (some (.Name x pos')) pos.line X.env = pure false := by rfl)
    (hf : X.fn x = true ∨ X.env.scope.names.lookup x = some .local := by first | exact .inl rfl | exact .inr rfl | assumption) : DS X W cl (.Assign [.Name x pos'] e pos) (tAsg te (gName i)) (sSet i f) := ⟨ps_set hN hi hx he.pe hs hf, ev_set i he.ev⟩
def asL : PyData → Rs (List PyData)
  | .list ds => .ok ds
  | _ => .bad
def sSetO (i : Nat) (f : Sl → Rs PyData) : Sl → Ot := fun ρ => oBind ((f ρ).bind asL) ρ fun ds => .nx (ρ.set i (some (.own ds)))
theorem ev_setO {te : TE} {f : Sl → Rs PyData} (i : Nat) (he : EvG pF W cl te f) : EvS W cl (tAsg te (gName i)) (sSetO i f) := fun B O0 O σ H ρ D I ok => by
  refine he B O0 O σ H ρ _ I ?_
  unfold sSetO at ok
  cases e : f ρ with
  | bad => rw [e] at ok; exact ok
  | err c p => rw [e] at ok; exact fun d H' s eo => ok σ O H' d (I.mono s) (hid_same s) eo
  | ok d =>
    rw [e] at ok
    cases d with
    | list ds =>
      intro v H1 s p
      obtain ⟨q, vs, es, rfl, e2, hn, h', ha⟩ := p.2 ds rfl
      cases e2
      obtain ⟨J, sm⟩ := I.setOwn s (i := i) hn h' ha
      exact ok _ _ _ J sm
    | _ => exact False.elim ok
theorem ds_setO {i : Nat} {x : Str} {e : Expr} {te : TE} {pos pos' : Pos} {f : Sl → Rs PyData} (hN : X.N.Nodup) (hi : X.N[i]? = some x) (hx : Loc X.env.scope x) (he : DX pF X W cl e te f) (hs : swapsWith e (some (.Name x pos')) pos.line X.env = pure false := by rfl)
    (hf : X.fn x = true ∨ X.env.scope.names.lookup x = some .local := by first | exact .inl rfl | exact .inr rfl | assumption) : DS X W cl (.Assign [.Name x pos'] e pos) (tAsg te (gName i)) (sSetO i f) := ⟨ps_set hN hi hx he.pe hs hf, ev_setO i he.ev⟩
/-! #### targets -/
/-- a target by data -/
def OnlyAt (is : List Nat) (σ σ' : L2.St) : Prop := σ'.length = σ.length ∧ ∀ j, j ∉ is → σ'[j]? = σ[j]?
theorem OnlyAt.set {is : List Nat} {σ σ' : L2.St} (h : OnlyAt is σ σ') {i : Nat} (hi : i ∈ is) {v : Option V} : OnlyAt is σ (σ'.set i v) :=
  ⟨by rw [List.length_set]; exact h.1, fun j hj => by rw [List.getElem?_set_ne (fun (z : i = j) => hj (by rw [← z]; exact hi))]; exact h.2 j hj⟩
theorem OnlyAt.refl {is : List Nat} {σ : L2.St} : OnlyAt is σ σ := ⟨rfl, fun _ _ => rfl⟩
def EvT (R : List Addr → Hp → V → PyData → Prop) (is : List Nat) (g : TG) (set : PyData → Sl → Option Sl) : Prop := ∀ (B : Hp) (O0 O : List Addr) (σ : L2.St) (H : Hp) (ρ ρ' : Sl) (v : V) (d : PyData) (Q : L2.St → Hp → Prop), Rp B O0 O σ H ρ → R O H v d → set d ρ = some ρ' → (∀ σ', Rp B O0 O σ' H ρ' → OnlyAt is σ σ' → Q σ' H) → g v σ H Q
def tgN (i : Nat) : PyData → Sl → Option Sl := fun d ρ => some (ρ.set i (some (.d d)))
theorem et_name (i : Nat) : EvT Ds [i] (gName i) (tgN i) := fun B O0 O σ H ρ ρ' v d Q I hd e k => by
  cases e
  exact k _ (I.set hd) (OnlyAt.refl.set List.mem_cons_self)
def tg2 (i j : Nat) : PyData → Sl → Option Sl
  | .tuple [a, b] => fun ρ => some ((ρ.set i (some (.d a))).set j (some (.d b)))
  | _ => fun _ => none
def tg3 (i j k : Nat) : PyData → Sl → Option Sl
  | .tuple [a, b, c] => fun ρ => some (((ρ.set i (some (.d a))).set j (some (.d b))).set k (some (.d c)))
  | _ => fun _ => none
theorem et_2 {K : Frg} (i j : Nat) : EvT Dw [i, j] (L2.gTup K 2 (gCons (gName i) (gCons (gName j) gNil))) (tg2 i j) := fun B O0 O σ H ρ ρ' v d Q I hd e k => by
  unfold tg2 at e
  split at e
  · rename_i a b
    cases e
    obtain ⟨p, xs, ds, rfl, e2, hp, ha⟩ := hd
    cases e2
    cases ha with
    | cons h1 ha =>
      cases ha with
      | cons h2 ha =>
        cases ha
        refine ⟨_, _, rfl, sqT_rd (rd_mono hid_le hp), rfl, _, _, rfl, _, _, rfl, rfl, k _ ((I.set h1).set h2) ((OnlyAt.refl.set (by simp)).set (by simp))⟩
  · cases e
theorem et_3 {K : Frg} (i j l : Nat) : EvT Dw [i, j, l] (L2.gTup K 3 (gCons (gName i) (gCons (gName j) (gCons (gName l) gNil)))) (tg3 i j l) := fun B O0 O σ H ρ ρ' v d Q I hd e k => by
  unfold tg3 at e
  split at e
  · rename_i a b c
    cases e
    obtain ⟨p, xs, ds, rfl, e2, hp, ha⟩ := hd
    cases e2
    cases ha with
    | cons h1 ha =>
      cases ha with
      | cons h2 ha =>
        cases ha with
        | cons h3 ha =>
          cases ha
          refine ⟨_, _, rfl, sqT_rd (rd_mono hid_le hp), rfl, _, _, rfl, _, _, rfl, _, _, rfl, rfl, k _ (((I.set h1).set h2).set h3) (((OnlyAt.refl.set (by simp)).set (by simp)).set (by simp))⟩
  · cases e
theorem ds_dw {O : List Addr} {H : Hp} {v : V} {ds : List PyData} (h : Ds O H v (.tuple ds)) : Dw O H v (.tuple ds) := by
  cases h with
  | tup hp ha => exact ⟨_, _, _, rfl, rfl, tq_rd hp, ha⟩
theorem et_2s {K : Frg} (i j : Nat) : EvT Ds [i, j] (L2.gTup K 2 (gCons (gName i) (gCons (gName j) gNil))) (tg2 i j) := fun B O0 O σ H ρ ρ' v d Q I hd e k => by
  cases d with
  | tuple ds => exact et_2 i j B O0 O σ H ρ ρ' v _ Q I (ds_dw hd) e k
  | _ => cases e
theorem et_3s {K : Frg} (i j l : Nat) : EvT Ds [i, j, l] (L2.gTup K 3 (gCons (gName i) (gCons (gName j) (gCons (gName l) gNil)))) (tg3 i j l) := fun B O0 O σ H ρ ρ' v d Q I hd e k => by
  cases d with
  | tuple ds => exact et_3 i j l B O0 O σ H ρ ρ' v _ Q I (ds_dw hd) e k
  | _ => cases e
/-- a, b = e (one value, a tuple) -/
def sAsg (set : PyData → Sl → Option Sl) (f : Sl → Rs PyData) : Sl → Ot := fun ρ => oBind (f ρ) ρ fun d => match set d ρ with
  | some ρ' => .nx ρ'
  | none => .bad
theorem ev_asg {is : List Nat} {te : TE} {g : TG} {set : PyData → Sl → Option Sl} {f : Sl → Rs PyData} (hg : EvT Ds is g set) (he : EvG pD W cl te f) : EvS W cl (tAsg te g) (sAsg set f) := fun B O0 O σ H ρ D I ok =>
  he.goS I ok fun d v H1 _ s1 I1 p1 ok1 => by
    cases e : set d ρ with
    | none => rw [e] at ok1; exact False.elim ok1
    | some ρ' =>
      rw [e] at ok1
      exact hg B O0 O σ H1 ρ ρ' v d _ I1 p1 e fun σ' I' _ => ok1 σ' O H1 I' (Same.refl _)
theorem ds_asg {is : List Nat} {tg e : Expr} {pos : Pos} {te : TE} {g : TG} {set : PyData → Sl → Option Sl} {f : Sl → Rs PyData} (he : DX pD X W cl e te f) (hg : PG X tg g) (ht : EvT Ds is g set) (hs : swapsWithSole [tg] e pos.line X.env = pure false := by rfl) (hw : swappedStores [tg] e X.env = pure none := by rfl)
    (h1 : (assignEach [tg] X.env).map (·.2) = [assign tg X.env] := by rfl) : DS X W cl (.Assign [tg] e pos) (tAsg te g) (sAsg set f) := ⟨ps_asg he.pe hg hs hw h1, ev_asg ht he.ev⟩
end
end SB

namespace SB
open PySem PySem.Spec PyProof.Rows L2
section
variable {X : Cx} {W : L2.WX} {cl : Nat → Addr}
/-! ### a, b = x, y -/
def sPar (i j : Nat) (fa fb : Sl → Rs PyData) : Sl → Ot := fun ρ => oBind (fa ρ) ρ fun x => oBind (fb ρ) ρ fun y => .nx ((ρ.set i (some (.d x))).set j (some (.d y)))
theorem ev_par {ta tb : TE} {fa fb : Sl → Rs PyData} (i j : Nat) (ha : EvG pD W cl ta fa) (hb : EvG pD W cl tb fb) : EvS W cl (tPar i j (tCons ta (tCons tb tNil))) (sPar i j fa fb) := fun B O0 O σ H ρ D I ok =>
  ha.goS I ok fun x v H1 _ s1 I1 p1 ok1 => hb.goS I1 ok1 fun y u H2 _ s2 I2 p2 ok2 => ⟨v, u, rfl, ok2 _ O H2 ((I2.set (dp_mono (hid_same s2) p1)).set p2) (Same.refl _)⟩
theorem ds_par {i j : Nat} {x y : Str} {a b : Expr} {ta tb : TE} {px py pt pos : Pos} {kt k2 pt2} {fa fb : Sl → Rs PyData} (hc : X.calm = true) (hN : X.N.Nodup) (hi : X.N[i]? = some x) (hj : X.N[j]? = some y) (hij : i ≠ j)
    (hx : X.env.scope.names.lookup x = some .local) (hy : X.env.scope.names.lookup y = some .local) (ha : DX pD X W cl a ta fa) (hb : DX pD X W cl b tb fb)
    (hw : swappedStores [.Tuple [.Name x px, .Name y py] kt pt] (.Tuple [a, b] k2 pt2) X.env = pure (some [x, y]) := by rfl)
    (hs : swapsWithSole [.Tuple [.Name x px, .Name y py] kt pt] (.Tuple [a, b] k2 pt2) pos.line X.env = pure false := by rfl)
    (h1 : starEach [a, b] X.env = (false, eval a X.env) :: starEach [b] X.env := by rfl) (h2 : starEach [b] X.env = (false, eval b X.env) :: starEach [] X.env := by rfl) :
    DS X W cl (.Assign [.Tuple [.Name x px, .Name y py] kt pt] (.Tuple [a, b] k2 pt2) pos) (tPar i j (tCons ta (tCons tb tNil))) (sPar i j fa fb) :=
  ⟨ps_par hc hN hi hj hij hx hy (pa_cons ha.pe (pa_cons hb.pe pa_nil h2) h1) hw hs, ev_par i j ha.ev hb.ev⟩
/-- both of them new lists, owned -/
def sParO (i j : Nat) (fa fb : Sl → Rs PyData) : Sl → Ot := fun ρ => oBind ((fa ρ).bind asL) ρ fun x => oBind ((fb ρ).bind asL) ρ fun y => .nx ((ρ.set i (some (.own x))).set j (some (.own y)))
theorem Rp.more {B : Hp} {O0 O : List Addr} {σ : L2.St} {H H1 : Hp} {ρ : Sl} (I : Rp B O0 O σ H ρ) (s : Same H H1) {p : Addr} {o : HO} (hp : H p = none) (h1 : H1 p = some o) : Rp B O0 (p :: O) σ H1 ρ ∧ Same (hid O H) (hid (p :: O) H1) := by
  have hs : Same (hid O H) (hid (p :: O) H1) := fun a o e => by
    obtain ⟨n, e⟩ := hid_some e
    refine hid_mk (fun z => ?_) (s _ _ e)
    rcases List.mem_cons.mp z with rfl | z
    · rw [hp] at e; cases e
    · exact n z
  refine ⟨⟨(I.mono s).ex, fun q hq => List.mem_cons_of_mem _ (I.sub q hq), I.b0, fun q hq => ?_, I.len, fun i c e => ?_, I.dj⟩, hs⟩
  · rcases List.mem_cons.mp hq with rfl | hq
    · rw [h1]; exact fun z => nomatch z
    · exact (I.mono s).od q hq
  · obtain ⟨v, a, b⟩ := I.sl i c e
    refine ⟨v, a, ?_⟩
    cases c with
    | d x => exact dp_mono hs b
    | own ys =>
      obtain ⟨q, us, e, hq, hb, hh, ha⟩ := b
      exact ⟨q, us, e, List.mem_cons_of_mem _ hq, hb, s _ _ hh, dpAll_mono hs ha⟩
/-- an owned object stands at p: it is put into the slot i -/
theorem Rp.put {B : Hp} {O0 O : List Addr} {σ : L2.St} {H : Hp} {ρ : Sl} (I : Rp B O0 O σ H ρ) {i : Nat} {p : Addr} {vs : List V} {xs : List PyData} (hO : p ∈ O) (bp : B p = none) (hp : H p = some (.lst vs)) (ha : DqAll (hid O H) vs xs) (hn : ∀ (k : Nat) (c : Cl), ρ[k]? = some (some c) → c.isOwn = true → σ[k]? ≠ some (some (.ref p))) :
    Rp B O0 O (σ.set i (some (.ref p))) H (ρ.set i (some (.own xs))) := by
  refine ⟨I.ex, I.sub, I.b0, I.od, by rw [List.length_set, List.length_set]; exact I.len, fun j c e => ?_, fun j k c c' hjk hj hk o o' => ?_⟩
  · by_cases hij : i = j
    · subst hij
      by_cases hl : i < ρ.length
      · rw [List.getElem?_set_self hl] at e
        cases e
        exact ⟨.ref p, List.getElem?_set_self (by rw [I.len]; exact hl), p, vs, rfl, hO, bp, hp, ha⟩
      · rw [List.getElem?_eq_none (by rw [List.length_set]; omega)] at e; cases e
    · rw [List.getElem?_set_ne hij] at e
      obtain ⟨u, a, b⟩ := I.sl j c e
      exact ⟨u, by rw [List.getElem?_set_ne hij]; exact a, b⟩
  · by_cases nj : i = j
    · subst nj
      by_cases hl : i < ρ.length
      · rw [List.getElem?_set_ne hjk] at hk
        rw [List.getElem?_set_self (by rw [I.len]; exact hl), List.getElem?_set_ne hjk]
        exact fun z => hn k c' hk o' z.symm
      · rw [List.getElem?_eq_none (by rw [List.length_set]; omega)] at hj; cases hj
    · rw [List.getElem?_set_ne nj] at hj
      by_cases nk : i = k
      · subst nk
        by_cases hl : i < ρ.length
        · rw [List.getElem?_set_self (by rw [I.len]; exact hl), List.getElem?_set_ne nj]
          exact fun z => hn j c hj o z
        · rw [List.getElem?_eq_none (by rw [List.length_set]; omega)] at hk; cases hk
      · rw [List.getElem?_set_ne nk] at hk
        rw [List.getElem?_set_ne nj, List.getElem?_set_ne nk]
        exact I.dj j k c c' hjk hj hk o o'
theorem Rp.notAt {B : Hp} {O0 O : List Addr} {σ : L2.St} {H : Hp} {ρ : Sl} (I : Rp B O0 O σ H ρ) {p : Addr} (hp : H p = none) : ∀ (k : Nat) (c : Cl), ρ[k]? = some (some c) → c.isOwn = true → σ[k]? ≠ some (some (.ref p)) := fun k c e o z => by
  obtain ⟨v, a, b⟩ := I.sl k c e
  rw [a] at z; cases z
  cases c with
  | d x => cases o
  | own ys =>
    obtain ⟨q, us, e', hq, hb, hh, ha⟩ := b
    cases e'
    rw [hp] at hh; cases hh
theorem EvG.goO {W : L2.WX} {cl : Nat → Addr} {t : TE} {f : Sl → Rs PyData} (h : EvG pF W cl t f) {B : Hp} {O0 O : List Addr} {σ : L2.St} {H : Hp} {ρ : Sl} (I : Rp B O0 O σ H ρ) {k : List PyData → Ot} {D : Ends} (hok : OkS W cl B O0 O H (oBind ((f ρ).bind asL) ρ k) D)
    {Q1 : VK} (g : ∀ ds p vs H1, Same H H1 → H p = none → H1 p = some (.lst vs) → DqAll (hid (p :: O) H1) vs ds → OkS W cl B O0 O H (k ds) D → Q1 (.ref p) H1) : t σ H Q1 := by
  refine h B O0 O σ H ρ _ I ?_
  cases e : f ρ with
  | bad => rw [e] at hok; exact hok
  | err c p => rw [e] at hok; exact fun d H' s eo => hok σ O H' d (I.mono s) (hid_same s) eo
  | ok d =>
    rw [e] at hok
    cases d with
    | list ds =>
      intro v H1 s p
      obtain ⟨q, vs, es, rfl, e2, hn, h', ha⟩ := p.2 ds rfl
      cases e2
      exact g ds q vs H1 s hn h' ha hok
    | _ => exact False.elim hok
theorem ev_parO {ta tb : TE} {fa fb : Sl → Rs PyData} {i j : Nat} (hij : i ≠ j) (ha : EvG pF W cl ta fa) (hb : EvG pF W cl tb fb) : EvS W cl (tPar i j (tCons ta (tCons tb tNil))) (sParO i j fa fb) := fun B O0 O σ H ρ D I ok =>
  ha.goO I ok fun x p vs H1 s1 hp h1 a1 ok1 => by
    obtain ⟨I1, m1⟩ := I.more s1 hp h1
    refine hb.goO (O := p :: O) I1 (OkS.mono m1 ok1) fun y q us H2 s2 hq h2 a2 ok2 => ?_
    obtain ⟨I2, m2⟩ := I1.more s2 hq h2
    have bp : B p = none := I.ex.free hp
    have bq : B q = none := I1.ex.free hq
    have npq : p ≠ q := ne_of_none h1 hq
    have J1 := I2.put (i := i) (List.mem_cons_of_mem _ List.mem_cons_self) bp (s2 _ _ h1) (dpAll_mono m2 a1) (I.notAt hp)
    refine ⟨_, _, rfl, ok2 _ _ H2 (J1.put (i := j) List.mem_cons_self bq h2 a2 fun k c e o => ?_) m2⟩
    by_cases hk : i = k
    · subst hk
      by_cases hl : i < ρ.length
      · rw [List.getElem?_set_self (by rw [I.len]; exact hl)]
        exact fun z => by cases z; exact npq rfl
      · rw [List.getElem?_eq_none (by rw [List.length_set]; omega)] at e; cases e
    · rw [List.getElem?_set_ne hk] at e ⊢
      exact I1.notAt hq k c e o
theorem ds_parO {i j : Nat} {x y : Str} {a b : Expr} {ta tb : TE} {px py pt pos : Pos} {kt k2 pt2} {fa fb : Sl → Rs PyData} (hc : X.calm = true) (hN : X.N.Nodup) (hi : X.N[i]? = some x) (hj : X.N[j]? = some y) (hij : i ≠ j)
    (hx : X.env.scope.names.lookup x = some .local) (hy : X.env.scope.names.lookup y = some .local) (ha : DX pF X W cl a ta fa) (hb : DX pF X W cl b tb fb)
    (hw : swappedStores [.Tuple [.Name x px, .Name y py] kt pt] (.Tuple [a, b] k2 pt2) X.env = pure (some [x, y]) := by rfl)
    (hs : swapsWithSole [.Tuple [.Name x px, .Name y py] kt pt] (.Tuple [a, b] k2 pt2) pos.line X.env = pure false := by rfl)
    (h1 : starEach [a, b] X.env = (false, eval a X.env) :: starEach [b] X.env := by rfl) (h2 : starEach [b] X.env = (false, eval b X.env) :: starEach [] X.env := by rfl) :
    DS X W cl (.Assign [.Tuple [.Name x px, .Name y py] kt pt] (.Tuple [a, b] k2 pt2) pos) (tPar i j (tCons ta (tCons tb tNil))) (sParO i j fa fb) :=
  ⟨ps_par hc hN hi hj hij hx hy (pa_cons ha.pe (pa_cons hb.pe pa_nil h2) h1) hw hs, ev_parO hij ha.ev hb.ev⟩
/-! ### name += int -/
def asI : PyData → Rs Int
  | .int i => .ok i
  | _ => .bad
def sAug (i : Nat) (h : Int → Int → Int) (f : Sl → Rs PyData) : Sl → Ot := fun ρ => oBind ((gVar i ρ).bind asI) ρ fun x => oBind ((f ρ).bind asI) ρ fun y => .nx (ρ.set i (some (.d (.int (h x y)))))
theorem ev_aug {te : TE} {f : Sl → Rs PyData} {h : Int → Int → Int} (i : Nat) (he : EvG pR W cl te f) : EvS W cl (tAug i te (ipI h)) (sAug i h f) := fun B O0 O σ H ρ D I ok => by
  unfold sAug gVar at ok
  split at ok
  · rename_i x e
    obtain ⟨v, hv, hd⟩ := I.sl i _ e
    cases x with
    | int a =>
      cases hd
      refine ⟨.int a, hv, he B O0 O σ H ρ _ I ?_⟩
      revert ok
      cases e2 : f ρ with
      | bad => exact fun z => z
      | err c p => exact fun ok d H' s eo => ok σ O H' d (I.mono s) (hid_same s) eo
      | ok d =>
        cases d with
        | int b =>
          intro ok u H1 s1 p1
          exact ⟨a, b, rfl, rd_int p1, ok _ O H1 ((I.mono s1).set (.int _)) (hid_same s1)⟩
        | _ => exact fun z => False.elim z
    | _ => exact False.elim ok
  · exact False.elim ok
theorem ds_aug {i : Nat} {x : Str} {e : Expr} {te : TE} {op : Operator} {pos pos' : Pos} {h : Int → Int → Int} {f : Sl → Rs PyData} (hN : X.N.Nodup) (hi : X.N[i]? = some x) (hx : Loc X.env.scope x) (he : DX pR X W cl e te f) (ho : PIp X op (ipI h))
    (hf : X.fn x = true ∨ X.env.scope.names.lookup x = some .local := by first | exact .inl rfl | exact .inr rfl | assumption) : DS X W cl (.AugAssign (.Name x pos') op e pos) (tAug i te (ipI h)) (sAug i h f) := ⟨ps_aug hN hi hx he.pe ho hf, ev_aug i he.ev⟩
/-! ### raise -/
def sRaise (c : Nat) : Sl → Ot := fun ρ => .er c none ρ
theorem ds_raise {c : Nat} {e : Expr} {pos : Pos} (hc : X.calm = true) (tk : Takes X W) (he : PMk X e (fun _ H Q => Q (.ref (cl c)) none H)) : DS X W cl (.Raise (some e) none pos) (fun _ σ H => W (.ref (cl c)) none σ H) (sRaise c) :=
  ⟨ps_raise hc tk he, fun B O0 O σ H ρ D I ok => ok σ O H none I (Same.refl _) rfl⟩
/-! ### what is walked -/
structure ItD (R : List Addr → Hp → V → PyData → Prop) (G : List Addr → Hp → Prop) (J : It) (ds : List PyData) : Prop where
  go : ∀ i O H, G O H → (∀ p ∈ O, H p ≠ none) → i < ds.length → J.go i H
  yld : ∀ i O H x H', G O H → (∀ p ∈ O, H p ≠ none) → J.yld i H x H' → ∀ d, ds[i]? = some d → Same H H' ∧ R O H' x d
  stop : ∀ i O H, G O H → (∀ p ∈ O, H p ≠ none) → ds.length ≤ i → J.stop i H
def Gf (O : List Addr) (H : Hp) : List Addr → Hp → Prop := fun O' H' => Same (hid O H) (hid O' H')
def Gc (O : List Addr) (H : Hp) : List Addr → Hp → Prop := fun O' H' => Same H H' ∧ Same (hid O H) (hid O' H')
theorem ItD.imp {R : List Addr → Hp → V → PyData → Prop} {G G' : List Addr → Hp → Prop} {J : It} {ds : List PyData} (h : ItD R G J ds) (w : ∀ O H, G' O H → G O H) : ItD R G' J ds :=
  ⟨fun i O H g => h.go i O H (w _ _ g), fun i O H x H' g => h.yld i O H x H' (w _ _ g), fun i O H g => h.stop i O H (w _ _ g)⟩
theorem Gc_f {O : List Addr} {H : Hp} : ∀ O' H', Gc O H O' H' → Gf O H O' H' := fun _ _ g => g.2
abbrev RR := List Addr → Hp → V → PyData → Prop
def pIt (R : RR) : Po (List PyData) It := fun O _ H' J ds => ItD R (Gf O H') J ds
def pItC (R : RR) : Po (List PyData) It := fun O _ H' J ds => ItD R (Gc O H') J ds
theorem mIt {R : RR} : Mon (pIt R) := fun _ _ _ _ _ _ _ p => p
theorem mItC {R : RR} : Mon (pItC R) := fun _ _ _ _ _ _ _ p => p
structure DI (P : Po (List PyData) It) (X : Cx) (W : L2.WX) (cl : Nat → Addr) (tg iter : Expr) (w : TI) (f : Sl → Rs (List PyData)) : Prop where
  pi : PI X tg iter w
  ev : EvG P W cl w f
theorem DI.c {R : RR} {tg iter : Expr} {w : TI} {f : Sl → Rs (List PyData)} (h : DI (pIt R) X W cl tg iter w f) : DI (pItC R) X W cl tg iter w f := ⟨h.pi, h.ev.weak fun _ _ _ _ _ _ _ p => p.imp Gc_f⟩
theorem itl_d {K : Frg} {G : List Addr → Hp → Prop} {a : Addr} {vs : List V} {ds : List PyData} (h : ∀ O H, G O H → Rd H a (.lst vs) ∧ DqAll (hid O H) vs ds) : ItD Ds G (Itl K a) ds where
  go := fun i O H g od hi => by
    obtain ⟨r, q⟩ := h O H g
    obtain ⟨v, e, _⟩ := dpAll_get q (List.getElem?_eq_getElem hi)
    exact ⟨vs, v, sqL_rd r, e⟩
  yld := fun i O H x H' g od y d hd => by
    obtain ⟨rfl, y⟩ := y
    obtain ⟨r, q⟩ := h O H' g
    have e := y vs (sqL_rd r)
    obtain ⟨d', e', dq⟩ := dpAll_getV q e
    rw [hd] at e'; cases e'
    exact ⟨Same.refl _, dq⟩
  stop := fun i O H g od hi => by
    obtain ⟨r, q⟩ := h O H g
    exact ⟨vs, sqL_rd r, by rw [dpAll_len q]; exact hi⟩
theorem itt_d {K : Frg} {G : List Addr → Hp → Prop} {a : Addr} {vs : List V} {ds : List PyData} (h : ∀ O H, G O H → Rd H a (.tup vs) ∧ DqAll (hid O H) vs ds) : ItD Ds G (Itt K a) ds where
  go := fun i O H g od hi => by
    obtain ⟨r, q⟩ := h O H g
    obtain ⟨v, e, _⟩ := dpAll_get q (List.getElem?_eq_getElem hi)
    exact ⟨vs, v, sqT_rd r, e⟩
  yld := fun i O H x H' g od y d hd => by
    obtain ⟨rfl, y⟩ := y
    obtain ⟨r, q⟩ := h O H' g
    have e := y vs (sqT_rd r)
    obtain ⟨d', e', dq⟩ := dpAll_getV q e
    rw [hd] at e'; cases e'
    exact ⟨Same.refl _, dq⟩
  stop := fun i O H g od hi => by
    obtain ⟨r, q⟩ := h O H g
    exact ⟨vs, sqT_rd r, by rw [dpAll_len q]; exact hi⟩
def asSeq : PyData → Rs (List PyData)
  | .list ds => .ok ds
  | .tuple ds => .ok ds
  | _ => .bad
def gSeq (f : Sl → Rs PyData) : Sl → Rs (List PyData) := fun ρ => (f ρ).bind asSeq
def iSeq (K : Frg) (tl : TE) : TI := fun σ H R => iList K tl σ H R ∨ iTup K tl σ H R
theorem pi_seq {tg l : Expr} {tl : TE} (hl : PE X l tl) : PI X tg l (iSeq X.K tl) := ⟨fun pins s σ H R I h => by
  rcases h with h | h
  · exact (pi_list hl).run pins s σ H R I h
  · exact (pi_tup hl).run pins s σ H R I h⟩
theorem gf_tq {O O' : List Addr} {H H' : Hp} {a : Addr} {u : List V} (g : Same (hid O H) (hid O' H')) (h : Tq (hid O H) a u) : Rd H' a (.tup u) := tq_rd (tq_mono hid_le (tq_mono g h))
theorem gf_rd {O O' : List Addr} {H H' : Hp} {a : Addr} {u : HO} (g : Same (hid O H) (hid O' H')) (h : Rd (hid O H) a u) : Rd H' a u := rd_mono hid_le (rd_mono g h)
theorem ev_seqI {K : Frg} {tl : TE} {f : Sl → Rs PyData} (h : EvG pD W cl tl f) : EvG (pIt Ds) W cl (iSeq K tl) (gSeq f) := fun B O0 O σ H ρ R I ok => by
  cases e : f ρ with
  | bad => unfold gSeq at ok; rw [e] at ok; exact False.elim ok
  | err c p =>
    refine .inl (h B O0 O σ H ρ _ I ?_)
    unfold gSeq at ok; rw [e] at ok ⊢; exact ok
  | ok d =>
    cases d with
    | list ds =>
      refine .inl (h.go mIt I ok fun x v H1 e1 s1 I1 p1 ok1 => ?_)
      rw [e] at e1; cases e1
      cases p1 with
      | lst hp ha => exact ⟨_, rfl, ⟨_, sqL_rd (rd_mono hid_le hp)⟩, ok1 _ H1 (Same.refl _) (itl_d fun O' H' g => ⟨gf_rd g hp, dpAll_mono g ha⟩)⟩
    | tuple ds =>
      refine .inr (h.go mIt I ok fun x v H1 e1 s1 I1 p1 ok1 => ?_)
      rw [e] at e1; cases e1
      cases p1 with
      | tup hp ha => exact ⟨_, rfl, ⟨_, sqT_tq (tq_mono hid_le hp)⟩, ok1 _ H1 (Same.refl _) (itt_d fun O' H' g => ⟨gf_tq g hp, dpAll_mono g ha⟩)⟩
    | _ => unfold gSeq at ok; rw [e] at ok; exact False.elim ok
end
end SB

namespace SB
open PySem PySem.Spec PyProof.Rows L2 RZ
section
variable {X : Cx} {W : L2.WX} {cl : Nat → Addr}
/-! ### a list that is owned, or any sequence, in a comprehension -/
theorem ev_seqC {K : Frg} {tl : TE} {f : Sl → Rs PyData} (h : EvG pR W cl tl f) : EvG (pItC Ds) W cl (iSeq K tl) (gSeq f) := fun B O0 O σ H ρ R I ok => by
  cases e : f ρ with
  | bad => unfold gSeq at ok; rw [e] at ok; exact False.elim ok
  | err c p =>
    refine .inl (h B O0 O σ H ρ _ I ?_)
    unfold gSeq at ok; rw [e] at ok ⊢; exact ok
  | ok d =>
    cases d with
    | list ds =>
      refine .inl (h.go mItC I ok fun x v H1 e1 s1 I1 p1 ok1 => ?_)
      rw [e] at e1; cases e1
      obtain ⟨p, vs, rfl, hp, ha⟩ := rd_lst p1
      exact ⟨p, rfl, ⟨_, sqL_rd hp⟩, ok1 _ H1 (Same.refl _) (itl_d fun O' H' g => ⟨rd_mono g.1 hp, dpAll_mono g.2 ha⟩)⟩
    | tuple ds =>
      refine .inr (h.go mItC I ok fun x v H1 e1 s1 I1 p1 ok1 => ?_)
      rw [e] at e1; cases e1
      obtain ⟨p, vs, rfl, hp, ha⟩ := rd_tup p1
      exact ⟨p, rfl, ⟨_, sqT_tq (tq_mono hid_le hp)⟩, ok1 _ H1 (Same.refl _) (itt_d fun O' H' g => ⟨tq_rd (tq_mono g.1 (tq_mono hid_le hp)), dpAll_mono g.2 ha⟩)⟩
    | _ => unfold gSeq at ok; rw [e] at ok; exact False.elim ok
theorem di_seq {tg l : Expr} {tl : TE} {f : Sl → Rs PyData} (h : DX pD X W cl l tl f) : DI (pIt Ds) X W cl tg l (iSeq X.K tl) (gSeq f) := ⟨pi_seq h.pe, ev_seqI h.ev⟩
theorem di_seqC {tg l : Expr} {tl : TE} {f : Sl → Rs PyData} (h : DX pR X W cl l tl f) : DI (pItC Ds) X W cl tg l (iSeq X.K tl) (gSeq f) := ⟨pi_seq h.pe, ev_seqC h.ev⟩
/-! ### range -/
def rgD (lo : Int) (n : Nat) : List PyData := (List.range n).map fun i => PyData.int (lo + (i : Nat))
theorem rgD_len (lo : Int) (n : Nat) : (rgD lo n).length = n := by unfold rgD; rw [List.length_map, List.length_range]
theorem rgD_get {lo : Int} {n i : Nat} {d : PyData} (h : (rgD lo n)[i]? = some d) : d = .int (lo + (i : Nat)) := by
  unfold rgD at h
  rw [List.getElem?_map] at h
  obtain ⟨hi, e⟩ : ∃ k, (List.range n)[i]? = some k ∧ PyData.int (lo + (k : Nat)) = d := by
    cases q : (List.range n)[i]? with
    | none => rw [q] at h; cases h
    | some k => rw [q] at h; exact ⟨k, rfl, Option.some.inj h⟩
  obtain ⟨e, e2⟩ := e
  obtain ⟨hl, e⟩ := List.getElem?_eq_some_iff.mp e
  rw [List.getElem_range] at e
  rw [← e2, ← e]
theorem itr_d {G : List Addr → Hp → Prop} {lo : Int} {n : Nat} : ItD Ds G (Itr lo n) (rgD lo n) where
  go := fun i O H g od hi => by rw [rgD_len] at hi; exact hi
  yld := fun i O H x H' g od y d hd => by
    obtain ⟨rfl, rfl⟩ := y
    rw [rgD_get hd]
    exact ⟨Same.refl _, .int _⟩
  stop := fun i O H g od hi => by rw [rgD_len] at hi; exact hi
def big : Int := 1000000000
def rg1 : PyData → Rs (List PyData)
  | .int j => if -big ≤ j ∧ j ≤ big then .ok (rgD 0 j.toNat) else .bad
  | _ => .bad
def rg2 : PyData → PyData → Rs (List PyData)
  | .int i, .int j => if (-big ≤ i ∧ i ≤ big) ∧ (-big ≤ j ∧ j ≤ big) then .ok (rgD i (j - i).toNat) else .bad
  | _, _ => .bad
def gRg1 (f : Sl → Rs PyData) : Sl → Rs (List PyData) := fun ρ => (f ρ).bind rg1
def gRg2 (f g : Sl → Rs PyData) : Sl → Rs (List PyData) := fun ρ => (f ρ).bind fun x => (g ρ).bind fun y => rg2 x y
theorem ev_rg1 {te : TE} {f : Sl → Rs PyData} (h : EvG pR W cl te f) : EvG (pIt Ds) W cl (iRng1 (tCons te tNil)) (gRg1 f) := fun B O0 O σ H ρ R I ok =>
  h.go mIt I ok fun x v H1 _ s1 I1 p1 ok1 => by
    cases x with
    | int j =>
      obtain ⟨hb, ok1⟩ := okG_if ok1
      unfold big at hb
      exact ⟨j, by rw [rd_int p1], by omega, by omega, ok1 _ H1 (Same.refl _) itr_d⟩
    | _ => exact False.elim ok1
theorem ev_rg2 {te tf : TE} {f g : Sl → Rs PyData} (h : EvG pR W cl te f) (k : EvG pR W cl tf g) : EvG (pIt Ds) W cl (iRng2 (tCons te (tCons tf tNil))) (gRg2 f g) := fun B O0 O σ H ρ R I ok =>
  h.go mIt I ok fun x v H1 _ s1 I1 p1 ok1 => k.go mIt I1 ok1 fun y u H2 _ s2 I2 p2 ok2 => by
    cases x with
    | int i =>
      cases y with
      | int j =>
        obtain ⟨hb, ok2⟩ := okG_if ok2
        unfold big at hb
        exact ⟨i, j, by rw [rd_int p1, rd_int p2], ⟨by omega, by omega, by omega, by omega⟩, ok2 _ H2 (Same.refl _) itr_d⟩
      | _ => exact False.elim ok2
    | _ => exact False.elim ok2
theorem di_rg1 {tg a : Expr} {te : TE} {f : Sl → Rs PyData} {p pos : Pos} (hg : Gl X "range") (hm : X.mg "range" = none) (h : DX pR X W cl a te f) (hs : starEach [a] X.env = [(false, eval a X.env)] := by rfl) : DI (pIt Ds) X W cl tg (.Call (.Name "range" p) [a] [] pos) (iRng1 (tCons te tNil)) (gRg1 f) :=
  ⟨pi_range1 hg hm (pa_cons h.pe pa_nil hs) hs, ev_rg1 h.ev⟩
theorem di_rg2 {tg a b : Expr} {te tf : TE} {f g : Sl → Rs PyData} {p pos : Pos} (hg : Gl X "range") (hm : X.mg "range" = none) (h : DX pR X W cl a te f) (k : DX pR X W cl b tf g) (hs : starEach [a, b] X.env = [(false, eval a X.env), (false, eval b X.env)] := by rfl) (hs2 : starEach [b] X.env = [(false, eval b X.env)] := by rfl) :
    DI (pIt Ds) X W cl tg (.Call (.Name "range" p) [a, b] [] pos) (iRng2 (tCons te (tCons tf tNil))) (gRg2 f g) :=
  ⟨pi_range2 hg hm (pa_cons h.pe (pa_cons k.pe pa_nil hs2) (hs.trans (by rw [hs2]))) hs hs2, ev_rg2 h.ev k.ev⟩
/-! ### the signs of a text -/
def strD (x : Str) : List PyData := x.cps.toList.map fun c => PyData.str ⟨#[c]⟩
theorem its_d {G : List Addr → Hp → Prop} {x : Str} : ItD Ds G (Its x) (strD x) where
  go := fun i O H g od hi => by unfold strD at hi; rw [List.length_map, Array.length_toList] at hi; exact hi
  yld := fun i O H v H' g od y d hd => by
    obtain ⟨rfl, c, hc, rfl⟩ := y
    unfold strD at hd
    rw [List.getElem?_map, Array.getElem?_toList, hc] at hd
    cases hd
    exact ⟨Same.refl _, .str _⟩
  stop := fun i O H g od hi => by unfold strD at hi; rw [List.length_map, Array.length_toList] at hi; exact hi
def asS : PyData → Rs (List PyData)
  | .str x => .ok (strD x)
  | _ => .bad
def gStrI (f : Sl → Rs PyData) : Sl → Rs (List PyData) := fun ρ => (f ρ).bind asS
theorem di_str {tg e : Expr} {te : TE} {f : Sl → Rs PyData} (h : DX pR X W cl e te f) : DI (pIt Ds) X W cl tg e (iStr te) (gStrI f) := ⟨pi_str h.pe, fun B O0 O σ H ρ R I ok =>
  h.ev.go mIt I ok fun x v H1 _ s1 I1 p1 ok1 => by
    cases x with
    | str z => exact ⟨z, rd_str p1, ok1 _ H1 (Same.refl _) its_d⟩
    | _ => exact False.elim ok1⟩
/-! ### zip of two lists, of two tuples -/
def zipD (xs ys : List PyData) : List PyData := (xs.zip ys).map fun p => PyData.tuple [p.1, p.2]
theorem zipD_len (xs ys : List PyData) : (zipD xs ys).length = min xs.length ys.length := by unfold zipD; rw [List.length_map, List.length_zip]
theorem zipD_get {xs ys : List PyData} {i : Nat} {d : PyData} (h : (zipD xs ys)[i]? = some d) : ∃ x y, xs[i]? = some x ∧ ys[i]? = some y ∧ d = .tuple [x, y] := by
  unfold zipD at h
  rw [List.getElem?_map] at h
  cases q : (xs.zip ys)[i]? with
  | none => rw [q] at h; cases h
  | some p =>
    rw [q] at h
    obtain ⟨h1, h2⟩ := List.getElem?_zip_eq_some.mp q
    exact ⟨p.1, p.2, h1, h2, (Option.some.inj h).symm⟩
theorem itz_d {K : Frg} {G : List Addr → Hp → Prop} {a b : Addr} {vs us : List V} {ds es : List PyData} (h : ∀ O H, G O H → (Rd H a (.lst vs) ∧ DqAll (hid O H) vs ds) ∧ (Rd H b (.lst us) ∧ DqAll (hid O H) us es)) : ItD Dw G (Itz K a b) (zipD ds es) where
  go := fun i O H g od hi => by
    obtain ⟨⟨r, q⟩, r2, q2⟩ := h O H g
    obtain ⟨x, y, e1, e2, _⟩ := zipD_get (List.getElem?_eq_getElem hi)
    obtain ⟨v, f1, _⟩ := dpAll_get q e1
    obtain ⟨u, f2, _⟩ := dpAll_get q2 e2
    exact ⟨vs, us, v, u, sqL_rd r, sqL_rd r2, f1, f2⟩
  yld := fun i O H x H' g od y d hd => by
    obtain ⟨T, x1, x2, rfl, nT, rfl, f1, f2⟩ := y
    obtain ⟨⟨r, q⟩, r2, q2⟩ := h O H g
    obtain ⟨d1, d2, e1, e2, rfl⟩ := zipD_get hd
    obtain ⟨d1', e1', k1⟩ := dpAll_getV q (f1 _ (sqL_rd r))
    obtain ⟨d2', e2', k2⟩ := dpAll_getV q2 (f2 _ (sqL_rd r2))
    rw [e1] at e1'; cases e1'
    rw [e2] at e2'; cases e2'
    exact ⟨same_new nT, T, _, _, rfl, rfl, Rd.of (hid_mk (od_fresh od nT) upd_same), dpAll_mono (hid_same (same_new nT)) (.cons k1 (.cons k2 .nil))⟩
  stop := fun i O H g od hi => by
    obtain ⟨⟨r, q⟩, r2, q2⟩ := h O H g
    rw [zipD_len, ← dpAll_len q, ← dpAll_len q2] at hi
    exact ⟨vs, us, sqL_rd r, sqL_rd r2, by omega⟩
theorem itzT_d {K : Frg} {G : List Addr → Hp → Prop} {a b : Addr} {vs us : List V} {ds es : List PyData} (h : ∀ O H, G O H → (Rd H a (.tup vs) ∧ DqAll (hid O H) vs ds) ∧ (Rd H b (.tup us) ∧ DqAll (hid O H) us es)) : ItD Dw G (ItzT K a b) (zipD ds es) where
  go := fun i O H g od hi => by
    obtain ⟨⟨r, q⟩, r2, q2⟩ := h O H g
    obtain ⟨x, y, e1, e2, _⟩ := zipD_get (List.getElem?_eq_getElem hi)
    obtain ⟨v, f1, _⟩ := dpAll_get q e1
    obtain ⟨u, f2, _⟩ := dpAll_get q2 e2
    exact ⟨vs, us, v, u, sqT_rd r, sqT_rd r2, f1, f2⟩
  yld := fun i O H x H' g od y d hd => by
    obtain ⟨T, x1, x2, rfl, nT, rfl, f1, f2⟩ := y
    obtain ⟨⟨r, q⟩, r2, q2⟩ := h O H g
    obtain ⟨d1, d2, e1, e2, rfl⟩ := zipD_get hd
    obtain ⟨d1', e1', k1⟩ := dpAll_getV q (f1 _ (sqT_rd r))
    obtain ⟨d2', e2', k2⟩ := dpAll_getV q2 (f2 _ (sqT_rd r2))
    rw [e1] at e1'; cases e1'
    rw [e2] at e2'; cases e2'
    exact ⟨same_new nT, T, _, _, rfl, rfl, Rd.of (hid_mk (od_fresh od nT) upd_same), dpAll_mono (hid_same (same_new nT)) (.cons k1 (.cons k2 .nil))⟩
  stop := fun i O H g od hi => by
    obtain ⟨⟨r, q⟩, r2, q2⟩ := h O H g
    rw [zipD_len, ← dpAll_len q, ← dpAll_len q2] at hi
    exact ⟨vs, us, sqT_rd r, sqT_rd r2, by omega⟩
def zipS : PyData → PyData → Rs (List PyData)
  | .list xs, .list ys => .ok (zipD xs ys)
  | .tuple xs, .tuple ys => .ok (zipD xs ys)
  | _, _ => .bad
def gZip (f g : Sl → Rs PyData) : Sl → Rs (List PyData) := fun ρ => (f ρ).bind fun x => (g ρ).bind fun y => zipS x y
theorem ev_zip {K : Frg} {te tf : TE} {f g : Sl → Rs PyData} (h : EvG pD W cl te f) (k : EvG pD W cl tf g) : EvG (pIt Dw) W cl (iZipA K (tCons te (tCons tf tNil))) (gZip f g) := fun B O0 O σ H ρ R I ok =>
  h.go mIt I ok fun x v H1 _ s1 I1 p1 ok1 => k.go mIt I1 ok1 fun y u H2 _ s2 I2 p2 ok2 => by
    have p1 := dp_mono (hid_same s2) p1
    cases x with
    | list xs =>
      cases y with
      | list ys =>
        cases p1 with
        | lst hp ha =>
          cases p2 with
          | lst hq hb =>
            exact ⟨_, _, _, _, rfl, .inl ⟨sqL_rd (rd_mono hid_le hp), sqL_rd (rd_mono hid_le hq), ok2 _ H2 (Same.refl _) (itz_d fun O' H' g => ⟨⟨gf_rd g hp, dpAll_mono g ha⟩, gf_rd g hq, dpAll_mono g hb⟩)⟩⟩
      | _ => exact False.elim ok2
    | tuple xs =>
      cases y with
      | tuple ys =>
        cases p1 with
        | tup hp ha =>
          cases p2 with
          | tup hq hb =>
            exact ⟨_, _, _, _, rfl, .inr ⟨sqT_tq (tq_mono hid_le hp), sqT_tq (tq_mono hid_le hq), ok2 _ H2 (Same.refl _) (itzT_d fun O' H' g => ⟨⟨gf_tq g hp, dpAll_mono g ha⟩, gf_tq g hq, dpAll_mono g hb⟩)⟩⟩
      | _ => exact False.elim ok2
    | _ => exact False.elim ok2
theorem di_zip {e e2 : Expr} {te tf : TE} {p pos tpos : Pos} {elts : List Expr} {kk : Nat} {f g : Sl → Rs PyData} (hg : Gl X "zip") (hm : X.mg "zip" = none) (h : DX pD X W cl e te f) (k : DX pD X W cl e2 tf g)
    (hs : starEach [e, e2] X.env = (false, eval e X.env) :: starEach [e2] X.env := by rfl) (hs2 : starEach [e2] X.env = (false, eval e2 X.env) :: starEach [] X.env := by rfl) (hpl : (backTo pos (starEach [e2] X.env)).any (·.1) = false := by rfl) : DI (pIt Dw) X W cl (.Tuple elts kk tpos) (.Call (.Name "zip" p) [e, e2] [] pos) (iZipA X.K (tCons te (tCons tf tNil))) (gZip f g) :=
  ⟨pi_zipA hg hm (pa_cons h.pe (pa_cons k.pe pa_nil hs2) hs) hs hpl, ev_zip h.ev k.ev⟩
/-! ### for -/
def forLoop (set : PyData → Sl → Option Sl) (body : Sl → Ot) : List PyData → Sl → Ot
  | [], ρ => .nx ρ
  | d :: ds, ρ => match set d ρ with
    | none => .bad
    | some ρ1 => match body ρ1 with
      | .nx ρ2 => forLoop set body ds ρ2
      | o => o
def sFor (items : Sl → Rs (List PyData)) (set : PyData → Sl → Option Sl) (body : Sl → Ot) : Sl → Ot := fun ρ => oBind (items ρ) ρ fun ds => forLoop set body ds ρ
theorem ev_for {R : RR} {is : List Nat} {wi : TI} {g : TG} {tb : TS} {f : Sl → Rs (List PyData)} {set : PyData → Sl → Option Sl} {body : Sl → Ot} (hi : EvG (pIt R) W cl wi f) (hg : EvT R is g set) (hb : EvS W cl tb body) : EvS W cl (tFor wi g tb) (sFor f set body) := fun B O0 O σ H ρ D I ok =>
  hi.goS I ok fun ds J H1 _ s1 I1 it ok1 => by
    refine ⟨fun i m σ' H' => ∃ O' ρ', Rp B O0 O' σ' H' ρ' ∧ Same (hid O H1) (hid O' H') ∧ m = ds.length - i ∧ OkS W cl B O0 O' H' (forLoop set body (ds.drop i) ρ') D, ⟨_, O, ρ, I1, Same.refl _, rfl, ok1⟩, ?_⟩
    rintro i m σ' H' ⟨O', ρ', I', fs, rfl, ok'⟩
    by_cases hlt : i < ds.length
    · have hd : ds.drop i = ds[i] :: ds.drop (i + 1) := List.drop_eq_getElem_cons hlt
      rw [hd] at ok'
      refine .inr ⟨it.go i O' H' fs I'.od hlt, fun σ2 H2 => ∃ O2 ρ2, Rp B O0 O2 σ2 H2 ρ2 ∧ Same (hid O H1) (hid O2 H2) ∧ OkS W cl B O0 O2 H2 (forLoop set body (ds.drop (i + 1)) ρ2) D, fun σ2 H2 ⟨O2, ρ2, a, b, c⟩ => ⟨ds.length - (i + 1), by omega, O2, ρ2, a, b, rfl, c⟩, fun x H2 y => ?_⟩
      obtain ⟨s2, dq⟩ := it.yld i O' H' x H2 fs I'.od y ds[i] (List.getElem?_eq_getElem hlt)
      have I2 := I'.mono s2
      have ok2 : OkS W cl B O0 O' H2 (forLoop set body (ds[i] :: ds.drop (i + 1)) ρ') D := OkS.mono (hid_same s2) ok'
      unfold forLoop at ok2
      cases e : set ds[i] ρ' with
      | none => rw [e] at ok2; exact False.elim ok2
      | some ρ1 =>
        rw [e] at ok2
        refine hg B O0 O' σ' H2 ρ' ρ1 x ds[i] _ I2 dq e fun σ3 I3 _ => ?_
        refine hb B O0 O' σ3 H2 ρ1 _ I3 ?_
        dsimp only at ok2
        cases e3 : body ρ1 with
        | bad => rw [e3] at ok2; exact ok2
        | rt d => rw [e3] at ok2; exact ok2
        | er c p ρ4 => rw [e3] at ok2; exact ok2
        | nx ρ4 =>
          rw [e3] at ok2
          exact fun σ4 O4 H4 I4 s4 => ⟨O4, ρ4, I4, (fs.trans (hid_same s2)).trans s4, OkS.mono s4 ok2⟩
    · rw [List.drop_eq_nil_of_le (by omega)] at ok'
      exact .inl ⟨it.stop i O' H' fs I'.od (by omega), ok' σ' O' H' I' (Same.refl _)⟩
theorem ds_for {R : RR} {is : List Nat} {tg iter : Expr} {body : List Stmt} {wi : TI} {g : TG} {tb : TS} {pos : Pos} {f : Sl → Rs (List PyData)} {set : PyData → Sl → Option Sl} {h : Sl → Ot} (hp : PassesOwn (model X.prog X.w) X.A X.env X.xe) (hc : X.calm = true) (hi : DI (pIt R) X W cl tg iter wi f) (hg : PG X tg g) (ht : EvT R is g set) (hb : DSs X W cl body tb h)
    (hs : ∀ x, foldedSetIterable iter X.env x = pure x := by intro _; rfl) : DS X W cl (.For tg iter body [] pos) (tFor wi g tb) (sFor f set h) := ⟨ps_for hp hc hi.pi hg hb.pss hs, ev_for hi.ev ht hb.ev⟩
/-! ### while -/
def whLoop (c : Sl → Rs Bool) (body : Sl → Ot) : Nat → Sl → Ot
  | 0, _ => .bad
  | n + 1, ρ => oBind (c ρ) ρ fun b => if b = true then (match body ρ with
    | .nx ρ2 => whLoop c body n ρ2
    | o => o) else .nx ρ
theorem ev_while {tc : TT} {tb : TS} {c : Sl → Rs Bool} {body : Sl → Ot} (n : Nat) (hc : EvG pB W cl tc c) (hb : EvS W cl tb body) : EvS W cl (tWhile tc tb) (whLoop c body n) := fun B O0 O σ H ρ D I ok => by
  refine ⟨fun m σ' H' => ∃ O' ρ', Rp B O0 O' σ' H' ρ' ∧ Same (hid O H) (hid O' H') ∧ OkS W cl B O0 O' H' (whLoop c body m ρ') D, ⟨n, O, ρ, I, Same.refl _, ok⟩, ?_⟩
  rintro m σ' H' ⟨O', ρ', I', fs, ok'⟩
  cases m with
  | zero => exact False.elim ok'
  | succ m =>
    refine hc.goS I' ok' fun b v H1 _ s1 I1 p1 ok1 => ?_
    have e : v = b := p1
    subst e
    cases v with
    | false =>
      show D.nx σ' H1
      exact ok1 σ' O' H1 I1 (Same.refl _)
    | true =>
      refine ⟨fun σ2 H2 => ∃ O2 ρ2, Rp B O0 O2 σ2 H2 ρ2 ∧ Same (hid O H) (hid O2 H2) ∧ OkS W cl B O0 O2 H2 (whLoop c body m ρ2) D, fun σ2 H2 q => ⟨m, Nat.lt_succ_self m, q⟩, ?_⟩
      refine hb B O0 O' σ' H1 ρ' _ I1 ?_
      rw [if_pos rfl] at ok1
      cases e3 : body ρ' with
      | bad => rw [e3] at ok1; exact ok1
      | rt d => rw [e3] at ok1; exact ok1
      | er c p ρ4 => rw [e3] at ok1; exact ok1
      | nx ρ4 =>
        rw [e3] at ok1
        exact fun σ4 O4 H4 I4 s4 => ⟨O4, ρ4, I4, (fs.trans (hid_same s1)).trans s4, OkS.mono s4 ok1⟩
theorem ds_while {c : Expr} {body : List Stmt} {tc : TT} {tb : TS} {pos : Pos} {fc : Sl → Rs Bool} {h : Sl → Ot} (n : Nat) (hp : PassesOwn (model X.prog X.w) X.A X.env X.xe) (hc : DT X W cl c tc fc) (hb : DSs X W cl body tb h) : DS X W cl (.While c body [] pos) (tWhile tc tb) (whLoop fc h n) := ⟨ps_while hp hc.pt hb.pss, ev_while n hc.ev hb.ev⟩
end
end SB

namespace SB
open PySem PySem.Spec PyProof.Rows L2 RZ
/-! ### list comprehensions -/
def wipeS (ρ : Sl) : List Nat → Sl
  | [] => ρ
  | v :: vs => (wipeS ρ vs).set v none
theorem Rp.unset {B : Hp} {O0 O : List Addr} {σ : L2.St} {H : Hp} {ρ : Sl} (I : Rp B O0 O σ H ρ) (i : Nat) : Rp B O0 O (σ.set i none) H (ρ.set i none) := by
  have back : ∀ {k : Nat} {c : Cl}, (ρ.set i none)[k]? = some (some c) → i ≠ k ∧ ρ[k]? = some (some c) := fun {k c} e => by
    by_cases z : i = k
    · subst z
      by_cases hl : i < ρ.length
      · rw [List.getElem?_set_self hl] at e; cases e
      · rw [List.getElem?_eq_none (by rw [List.length_set]; omega)] at e; cases e
    · rw [List.getElem?_set_ne z] at e; exact ⟨z, e⟩
  refine ⟨I.ex, I.sub, I.b0, I.od, by rw [List.length_set, List.length_set]; exact I.len, fun j c e => ?_, fun j k c c' hjk hj hk o o' => ?_⟩
  · obtain ⟨n, e⟩ := back e
    obtain ⟨v, a, b⟩ := I.sl j c e
    exact ⟨v, by rw [List.getElem?_set_ne n]; exact a, b⟩
  · obtain ⟨n1, e1⟩ := back hj
    obtain ⟨n2, e2⟩ := back hk
    rw [List.getElem?_set_ne n1, List.getElem?_set_ne n2]
    exact I.dj j k c c' hjk e1 e2 o o'
theorem Rp.wipe {B : Hp} {O0 O : List Addr} {σ : L2.St} {H : Hp} {ρ : Sl} (I : Rp B O0 O σ H ρ) : ∀ vs : List Nat, Rp B O0 O (L2.wipe σ vs) H (wipeS ρ vs)
  | [] => I
  | v :: vs => (I.wipe vs).unset v
theorem wipe_get (σ : L2.St) : ∀ (vs : List Nat) (j : Nat), (L2.wipe σ vs)[j]? = if j ∈ vs then (if j < σ.length then some none else none) else σ[j]?
  | [], j => by simp [L2.wipe]
  | v :: vs, j => by
    unfold L2.wipe
    have ih := wipe_get σ vs j
    by_cases e : v = j
    · subst e
      rw [if_pos List.mem_cons_self]
      by_cases hl : v < σ.length
      · rw [if_pos hl, List.getElem?_set_self (by rw [wipe_length]; exact hl)]
      · rw [if_neg hl, List.getElem?_eq_none (by rw [List.length_set, wipe_length]; omega)]
    · rw [List.getElem?_set_ne e, ih]
      by_cases hm : j ∈ vs
      · rw [if_pos hm, if_pos (List.mem_cons_of_mem _ hm)]
      · rw [if_neg hm, if_neg (fun z => (List.mem_cons.mp z).elim (fun q => e q.symm) hm)]
theorem wipe_only {σ σ' : L2.St} {is vs : List Nat} (h : OnlyAt is (L2.wipe σ vs) σ') (hs : ∀ i ∈ is, i ∈ vs) : L2.wipe σ' vs = L2.wipe σ vs := by
  have hl : σ'.length = σ.length := by rw [h.1, wipe_length]
  refine List.ext_getElem? fun j => ?_
  rw [wipe_get, wipe_get, hl]
  by_cases hm : j ∈ vs
  · rw [if_pos hm, if_pos hm]
  · rw [if_neg hm, if_neg hm, h.2 j (fun z => hm (hs j z)), wipe_get, if_neg hm]
def noErr {α : Type} : Rs α → Rs α
  | .err _ _ => .bad
  | r => r
def lcLoop (set : PyData → Sl → Option Sl) (test : Sl → Rs Bool) (elt : Sl → Rs PyData) (ρ : Sl) : List PyData → Rs (List PyData)
  | [] => .ok []
  | d :: ds => match set d ρ with
    | none => .bad
    | some ρ1 => (noErr (test ρ1)).bind fun b => if b = true then (noErr (elt ρ1)).bind fun y => (lcLoop set test elt ρ ds).bind fun ys => .ok (y :: ys) else lcLoop set test elt ρ ds
def gLc (vs : List Nat) (items : Sl → Rs (List PyData)) (set : PyData → Sl → Option Sl) (test : Sl → Rs Bool) (elt : Sl → Rs PyData) : Sl → Rs PyData := fun ρ => (items ρ).bind fun ds => if ds.length ≤ sz then (lcLoop set test elt (wipeS ρ vs) ds).bind fun ys => .ok (.list ys) else .bad
def gYes : Sl → Rs Bool := fun _ => .ok true
theorem ev_yes {W : L2.WX} {cl : Nat → Addr} : EvG pB W cl tYes gYes := fun B O0 O σ H ρ Q I ok => ok true H (Same.refl _) rfl
abbrev W0 : L2.WX := fun _ _ _ _ => False
theorem lcLoop_no {set : PyData → Sl → Option Sl} {test : Sl → Rs Bool} {elt : Sl → Rs PyData} {ρ : Sl} : ∀ (ds : List PyData) (c : Nat) (p : Option PyData), lcLoop set test elt ρ ds ≠ .err c p
  | [], c, p => fun z => nomatch z
  | d :: ds, c, p => by
    have ih := lcLoop_no (set := set) (test := test) (elt := elt) (ρ := ρ) ds
    unfold lcLoop
    cases set d ρ with
    | none => exact fun z => nomatch z
    | some ρ1 =>
      show (noErr (test ρ1)).bind _ ≠ _
      cases test ρ1 with
      | bad => exact fun z => nomatch z
      | err _ _ => exact fun z => nomatch z
      | ok b =>
        show (if b = true then _ else _) ≠ _
        by_cases hb : b = true
        · rw [if_pos hb]
          cases elt ρ1 with
          | bad => exact fun z => nomatch z
          | err _ _ => exact fun z => nomatch z
          | ok y =>
            show (lcLoop set test elt ρ ds).bind _ ≠ _
            cases e : lcLoop set test elt ρ ds with
            | bad => exact fun z => nomatch z
            | err c' p' => exact absurd e (ih c' p')
            | ok ys => exact fun z => nomatch z
        · rw [if_neg hb]
          exact ih c p
theorem ev_lc {W : L2.WX} {cl : Nat → Addr} {R : RR} {vs is : List Nat} {wi : TI} {g : TG} {tt : TT} {te : TE} {f : Sl → Rs (List PyData)} {set : PyData → Sl → Option Sl} {test : Sl → Rs Bool} {elt : Sl → Rs PyData} (hs : ∀ i ∈ is, i ∈ vs)
    (hi : EvG (pItC R) W cl wi f) (hg : EvT R is g set) (ht : EvG pB W0 cl tt test) (he : EvG pD W0 cl te elt) : EvG pF W cl (tLc wi g tt te vs) (gLc vs f set test elt) := fun B O0 O σ H ρ Q I ok =>
  hi.go mF I ok fun ds J H1 _ s1 I1 it ok1 D hD => by
    have hl : ds.length ≤ sz := by
      by_cases z : ds.length ≤ sz
      · exact z
      · rw [if_neg z] at ok1; exact False.elim ok1
    rw [if_pos hl] at ok1
    have s0 : Same H1 (upd H1 D (.lst [])) := same_new hD
    obtain ⟨I2, m2⟩ := I1.more s0 hD upd_same
    refine ⟨fun i m H' => m = ds.length - i ∧ i ≤ ds.length ∧ Same H1 H' ∧ Same (hid O H1) (hid (D :: O) H') ∧ ∃ accV acc rest, H' D = some (.lst accV) ∧ DqAll (hid (D :: O) H') accV acc ∧ acc.length ≤ i ∧ lcLoop set test elt (wipeS ρ vs) (ds.drop i) = .ok rest ∧ OkG pF W cl O σ H1 (.ok (.list (acc ++ rest))) Q, ?_, ?_⟩
    · cases e : lcLoop set test elt (wipeS ρ vs) ds with
      | bad => rw [e] at ok1; exact False.elim ok1
      | err c p => exact absurd e (lcLoop_no ds c p)
      | ok rest =>
        rw [e] at ok1
        exact ⟨ds.length, rfl, Nat.zero_le _, s0, m2, [], [], rest, upd_same, .nil, Nat.le_refl _, e, ok1⟩
    rintro i m H' ⟨rfl, hi, sH, fs, accV, acc, rest, hDl, ha, hacc, hr, okr⟩
    have I' : Rp B O0 (D :: O) σ H' ρ := by
      refine ⟨I1.ex.trans sH, I2.sub, I2.b0, fun p hp => ?_, I1.len, fun j c e => ?_, I1.dj⟩
      · rcases List.mem_cons.mp hp with rfl | hp
        · rw [hDl]; exact fun z => nomatch z
        · exact od_same sH I1.od p hp
      · obtain ⟨v, a, b⟩ := I1.sl j c e
        refine ⟨v, a, ?_⟩
        cases c with
        | d x => exact dp_mono fs b
        | own ys =>
          obtain ⟨q, us, e, hq, hb, hh, ha⟩ := b
          exact ⟨q, us, e, List.mem_cons_of_mem _ hq, hb, sH _ _ hh, dpAll_mono fs ha⟩
    have gc : Gc O H1 (D :: O) H' := ⟨sH, fs⟩
    by_cases hlt : i < ds.length
    · have hd : ds.drop i = ds[i] :: ds.drop (i + 1) := List.drop_eq_getElem_cons hlt
      rw [hd] at hr
      refine .inr ⟨it.go i _ H' gc I'.od hlt, _, fun H'' q => ⟨ds.length - (i + 1), by omega, q⟩, fun x H2 y => ?_⟩
      obtain ⟨s2, dq⟩ := it.yld i _ H' x H2 gc I'.od y ds[i] (List.getElem?_eq_getElem hlt)
      have J2 := (I'.mono s2).wipe vs
      unfold lcLoop at hr
      cases e : set ds[i] (wipeS ρ vs) with
      | none => rw [e] at hr; cases hr
      | some ρ1 =>
        rw [e] at hr
        refine hg B O0 (D :: O) (L2.wipe σ vs) H2 _ ρ1 x ds[i] _ J2 dq e fun σ3 I3 oa => ⟨wipe_only oa hs, ?_⟩
        have hr : (noErr (test ρ1)).bind (fun b => if b = true then (noErr (elt ρ1)).bind fun y => (lcLoop set test elt (wipeS ρ vs) (ds.drop (i + 1))).bind fun ys => .ok (y :: ys) else lcLoop set test elt (wipeS ρ vs) (ds.drop (i + 1))) = .ok rest := hr
        refine ht B O0 (D :: O) σ3 H2 ρ1 _ I3 ?_
        cases e3 : test ρ1 with
        | bad => rw [e3] at hr; cases hr
        | err _ _ => rw [e3] at hr; cases hr
        | ok b =>
          rw [e3] at hr
          intro b' H3 s3 eb
          have eb : b' = b := eb
          subst eb
          have hr : (if b' = true then (noErr (elt ρ1)).bind fun y => (lcLoop set test elt (wipeS ρ vs) (ds.drop (i + 1))).bind fun ys => .ok (y :: ys) else lcLoop set test elt (wipeS ρ vs) (ds.drop (i + 1))) = .ok rest := hr
          cases b' with
          | false =>
            show _ ∧ _
            have s4 := s2.trans s3
            exact ⟨rfl, hlt, sH.trans s4, fs.trans (hid_same s4), accV, acc, rest, s4 _ _ hDl, dpAll_mono (hid_same s4) ha, by omega, hr, okr⟩
          | true =>
            show te σ3 H3 _
            refine he B O0 (D :: O) σ3 H3 ρ1 _ (I3.mono s3) ?_
            rw [if_pos rfl] at hr
            cases e4 : elt ρ1 with
            | bad => rw [e4] at hr; cases hr
            | err _ _ => rw [e4] at hr; cases hr
            | ok y =>
              rw [e4] at hr
              intro v H4 s4 dv
              have s5 := (s2.trans s3).trans s4
              have hD4 := s5 _ _ hDl
              have hr : (lcLoop set test elt (wipeS ρ vs) (ds.drop (i + 1))).bind (fun ys => .ok (y :: ys)) = .ok rest := hr
              cases e5 : lcLoop set test elt (wipeS ρ vs) (ds.drop (i + 1)) with
              | bad => rw [e5] at hr; cases hr
              | err c p => exact absurd e5 (lcLoop_no _ c p)
              | ok ys =>
                rw [e5] at hr
                cases hr
                have hmut : Same (hid (D :: O) H4) (hid (D :: O) (upd H4 D (.lst (accV ++ [v])))) := hid_mut List.mem_cons_self
                refine ⟨accV, hD4, ?_, rfl, hlt, fun a o q => ?_, ((fs.trans (hid_same s5)).trans hmut), accV ++ [v], acc ++ [y], ys, upd_same, dpAll_app (dpAll_mono ((hid_same s5).trans hmut) ha) (.cons (dp_mono hmut dv) .nil), ?_, e5, ?_⟩
                · rw [dpAll_len ha]; exact sz_lt (by omega)
                · rw [upd_ne (ne_of_none q hD)]; exact s5 _ _ (sH _ _ q)
                · rw [List.length_append, List.length_singleton]; omega
                · rw [List.append_assoc]; exact okr
    · have e : i = ds.length := by omega
      subst e
      rw [List.drop_length] at hr
      cases hr
      rw [List.append_nil] at okr
      exact .inl ⟨it.stop _ _ H' gc I'.od (Nat.le_refl _), okr _ H' sH (pL_pF I1.od ⟨D, accV, acc, rfl, rfl, hD, hDl, ha⟩)⟩
section
variable {X : Cx} {W : L2.WX} {cl : Nat → Addr}
theorem d_lc {elt tg iter : Expr} {ifs : List Expr} {scope : Scope} {own : List (Str × Nat)} {pos : Pos} {R : RR} {is : List Nat} {wi : TI} {g : TG} {tt : TT} {te : TE} {f : Sl → Rs (List PyData)} {set : PyData → Sl → Option Sl} {test : Sl → Rs Bool} {fe : Sl → Rs PyData} (hc : X.calm = true) (hN : X.N.Nodup) (hi : DI (pItC R) X W cl tg iter wi f) (ok : BlkOk X.N X.env.scope scope own)
    (hg : ∀ (s : Shared) (H : Hp) (C : Addr) (cl' : List (Str × Addr)) (fp : List Addr), PG (X.blk s H scope (compEnvC scope cl' C X.env) fp) tg g) (hs : EvT R is g set) (hsub : ∀ i ∈ is, i ∈ own.map (·.2))
    (ht : ∀ (s : Shared) (H : Hp) (C : Addr) (cl' : List (Str × Addr)) (fp : List Addr), PTs (X.blk s H scope (compEnvC scope cl' C X.env) fp) ifs tt) (het : EvG pB W0 cl tt test)
    (he : ∀ (s : Shared) (H : Hp) (C : Addr) (cl' : List (Str × Addr)) (fp : List Addr), DX pD (X.blk s H scope (compEnvC scope cl' C X.env) fp) W0 cl elt te fe) (hf : ∀ x, foldedSetIterable iter X.env x = pure x := by intro _; rfl) :
    DX pF X W cl (.ListComp elt [⟨tg, iter, ifs, 0⟩] scope pos) (tLc wi g tt te (own.map (·.2))) (gLc (own.map (·.2)) f set test fe) :=
  ⟨pe_lc hc hN hi.pi ok hg ht (fun s H C c fp => (he s H C c fp).pe) hf, ev_lc hsub hi.ev hs het (he X.s_0 X.H_0 0 [] []).ev⟩
/-- with a test -/
theorem d_lcIf {elt tg iter c : Expr} {scope : Scope} {own : List (Str × Nat)} {pos : Pos} {R : RR} {is : List Nat} {wi : TI} {g : TG} {tt : TT} {te : TE} {f : Sl → Rs (List PyData)} {set : PyData → Sl → Option Sl} {test : Sl → Rs Bool} {fe : Sl → Rs PyData} (hc : X.calm = true) (hN : X.N.Nodup) (hi : DI (pItC R) X W cl tg iter wi f) (ok : BlkOk X.N X.env.scope scope own)
    (hg : ∀ (s : Shared) (H : Hp) (C : Addr) (cl' : List (Str × Addr)) (fp : List Addr), PG (X.blk s H scope (compEnvC scope cl' C X.env) fp) tg g) (hs : EvT R is g set) (hsub : ∀ i ∈ is, i ∈ own.map (·.2))
    (ht : ∀ (s : Shared) (H : Hp) (C : Addr) (cl' : List (Str × Addr)) (fp : List Addr), DT (X.blk s H scope (compEnvC scope cl' C X.env) fp) W0 cl c tt test)
    (he : ∀ (s : Shared) (H : Hp) (C : Addr) (cl' : List (Str × Addr)) (fp : List Addr), DX pD (X.blk s H scope (compEnvC scope cl' C X.env) fp) W0 cl elt te fe) (hf : ∀ x, foldedSetIterable iter X.env x = pure x := by intro _; rfl) :
    DX pF X W cl (.ListComp elt [⟨tg, iter, [c], 0⟩] scope pos) (tLc wi g tt te (own.map (·.2))) (gLc (own.map (·.2)) f set test fe) :=
  d_lc hc hN hi ok hg hs hsub (fun s H C c' fp => pts_one (ht s H C c' fp).pt) (ht X.s_0 X.H_0 0 [] []).ev he hf
theorem d_lcAll {elt tg iter : Expr} {scope : Scope} {own : List (Str × Nat)} {pos : Pos} {R : RR} {is : List Nat} {wi : TI} {g : TG} {te : TE} {f : Sl → Rs (List PyData)} {set : PyData → Sl → Option Sl} {fe : Sl → Rs PyData} (hc : X.calm = true) (hN : X.N.Nodup) (hi : DI (pItC R) X W cl tg iter wi f) (ok : BlkOk X.N X.env.scope scope own)
    (hg : ∀ (s : Shared) (H : Hp) (C : Addr) (cl' : List (Str × Addr)) (fp : List Addr), PG (X.blk s H scope (compEnvC scope cl' C X.env) fp) tg g) (hs : EvT R is g set) (hsub : ∀ i ∈ is, i ∈ own.map (·.2))
    (he : ∀ (s : Shared) (H : Hp) (C : Addr) (cl' : List (Str × Addr)) (fp : List Addr), DX pD (X.blk s H scope (compEnvC scope cl' C X.env) fp) W0 cl elt te fe) (hf : ∀ x, foldedSetIterable iter X.env x = pure x := by intro _; rfl) :
    DX pF X W cl (.ListComp elt [⟨tg, iter, [], 0⟩] scope pos) (tLc wi g tYes te (own.map (·.2))) (gLc (own.map (·.2)) f set gYes fe) :=
  d_lc hc hN hi ok hg hs hsub (fun _ _ _ _ _ => pts_nil) ev_yes he hf
/-- name = [..] on one line: the comprehension as a value, told by the statement's own rule -/
theorem ds_setLc {i : Nat} {y : Str} {py : Pos} {elt tg iter : Expr} {ifs : List Expr} {scope : Scope} {own : List (Str × Nat)} {pos spos : Pos} {R : RR} {is : List Nat} {wi : TI} {g : TG} {tt : TT} {te : TE} {f : Sl → Rs (List PyData)} {set : PyData → Sl → Option Sl} {test : Sl → Rs Bool} {fe : Sl → Rs PyData} (hc : X.calm = true) (hN : X.N.Nodup) (hy : X.N[i]? = some y) (hyl : X.env.scope.names.lookup y = some .local)
    (hsw : swapsWith (.ListComp elt [⟨tg, iter, ifs, 0⟩] scope pos) (some (.Name y py)) spos.line X.env = pure true) (hi : DI (pItC R) X W cl tg iter wi f) (ok : BlkOk X.N X.env.scope scope own)
    (hg : ∀ (s : Shared) (H : Hp) (C : Addr) (cl' : List (Str × Addr)) (fp : List Addr), PG (X.blk s H scope (compEnvC scope cl' C X.env) fp) tg g) (hs : EvT R is g set) (hsub : ∀ i ∈ is, i ∈ own.map (·.2))
    (ht : ∀ (s : Shared) (H : Hp) (C : Addr) (cl' : List (Str × Addr)) (fp : List Addr), PTs (X.blk s H scope (compEnvC scope cl' C X.env) fp) ifs tt) (het : EvG pB W0 cl tt test)
    (he : ∀ (s : Shared) (H : Hp) (C : Addr) (cl' : List (Str × Addr)) (fp : List Addr), DX pD (X.blk s H scope (compEnvC scope cl' C X.env) fp) W0 cl elt te fe) (hf : ∀ x, foldedSetIterable iter X.env x = pure x := by intro _; rfl) :
    DS X W cl (.Assign [.Name y py] (.ListComp elt [⟨tg, iter, ifs, 0⟩] scope pos) spos) (tAsg (tLc wi g tt te (own.map (·.2))) (gName i)) (sSet i (gLc (own.map (·.2)) f set test fe)) :=
  ⟨ps_setLc hc hN hy hyl hsw hi.pi ok hg ht (fun s H C c fp => (he s H C c fp).pe) hf, ev_set i ((ev_lc hsub hi.ev hs het (he X.s_0 X.H_0 0 [] []).ev).weak fun _ _ _ _ _ _ _ p => p.1)⟩
end
/-! ### a def -/
def Ot.rs : Ot → Rs PyData
  | .bad => .bad
  | .nx _ => .ok .none
  | .rt d => .ok d
  | .er c p _ => .err c p
def stD (N : Nat) (ds : List PyData) : Sl := ds.map (fun d => some (.d d)) ++ List.replicate (N - ds.length) none
def fnM (n N : Nat) (h : Sl → Ot) : List PyData → Rs PyData := fun ds => if ds.length = n then (h (stD N ds)).rs else .bad
theorem Rp.start {O : List Addr} {H : Hp} {N : List Str} {vs : List V} {ds : List PyData} (od : ∀ p ∈ O, H p ≠ none) (ha : DqAll (hid O H) vs ds) : Rp H O O (L2.start N vs) H (stD N.length ds) := by
  have hl := dpAll_len ha
  have noown : ∀ {k : Nat} {c : Cl}, (stD N.length ds)[k]? = some (some c) → ∃ d, ds[k]? = some d ∧ c = .d d := fun {k c} e => by
    unfold stD at e
    by_cases hk : k < ds.length
    · rw [List.getElem?_append_left (by rw [List.length_map]; exact hk), List.getElem?_map, List.getElem?_eq_getElem hk] at e
      exact ⟨_, List.getElem?_eq_getElem hk, (Option.some.inj (Option.some.inj e)).symm⟩
    · rw [List.getElem?_append_right (by rw [List.length_map]; omega), List.getElem?_replicate] at e
      split at e <;> cases e
  refine ⟨Same.refl _, fun _ h => h, od, od, ?_, fun i c e => ?_, fun j k c c' hjk hj hk o o' => ?_⟩
  · unfold L2.start stD
    rw [List.length_append, List.length_append, List.length_map, List.length_map, List.length_replicate, List.length_replicate, hl]
  · obtain ⟨d, e', rfl⟩ := noown e
    obtain ⟨v, hv, q⟩ := dpAll_get ha e'
    refine ⟨v, ?_, q⟩
    unfold L2.start
    obtain ⟨hi, _⟩ := List.getElem?_eq_some_iff.mp hv
    rw [List.getElem?_append_left (by rw [List.length_map]; exact hi), List.getElem?_map, hv]
    rfl
  · obtain ⟨d, _, rfl⟩ := noown hj
    cases o
section
variable {P : Program} {w : World} {K : Frg} {mg : Str → Option Value} {base : Heap} {cl : Nat → Addr}
theorem fn_body {N ps : List Str} {h : Sl → Ot} {t : TS} {vs : List V} {H : Hp} {Q : VK} {E : XK} (hsp : FnSp cl (fnM ps.length N.length h) vs H Q E) (ev : EvS (fun cls d _ H' => E cls d H') cl t h) : t { nx := fun _ H' => Q .non H', rt := Q } (L2.start N vs) H := by
  obtain ⟨O, ds, od, ha, ok⟩ := hsp
  have I := Rp.start (N := N) od ha
  refine ev H O O _ H _ _ I ?_
  unfold fnM at ok
  by_cases hn : ds.length = ps.length
  · rw [if_pos hn] at ok
    revert ok
    cases h (stD N.length ds) with
    | bad => exact fun z => z
    | nx ρ' => exact fun ok σ' O' H' I' s => ok .non H' I'.ex ⟨.non, fun _ e => nomatch e⟩
    | rt d => exact fun ok v H' s p => ok v H' s p
    | er c p ρ' => exact fun ok σ' O' H' d I' _ eo => ok d H' I'.ex (EO.sub I'.sub eo)
  · rw [if_neg hn] at ok; exact False.elim ok
theorem fn_len {N ps : List Str} {h : Sl → Ot} {vs : List V} {H : Hp} {Q : VK} {E : XK} (hsp : FnSp cl (fnM ps.length N.length h) vs H Q E) : vs.length = ps.length := by
  obtain ⟨O, ds, od, ha, ok⟩ := hsp
  rw [dpAll_len ha]
  unfold fnM at ok
  by_cases hn : ds.length = ps.length
  · exact hn
  · rw [if_neg hn] at ok; exact False.elim ok
end
end SB

namespace SB
open PySem PySem.Spec PyProof.Rows L2 RZ
/-! ### lists that may be read -/
section
variable {X : Cx}
theorem Inv.rdL {pins : List (Addr × Obj)} {σ : L2.St} {H : Hp} {s : Shared} {l : Addr} {xs : List V} (I : Inv X pins σ H s) (h : Rd H l (.lst xs)) : xs.length ≤ sizeLine ∧ ∃ (its : List Value) (n : Nat), Vals xs its ∧ xs.length = its.length ∧ s.heap.get? l = some { cls := .type "list", data := .seq its.toArray n } := by
  obtain ⟨z, its, n, r, e⟩ := h.ok I.hok
  exact ⟨z, its, n, r, r.length, e⟩
def rCatR : R2 := fun x y H Q => ∃ l b xs zs, x = .ref l ∧ y = .ref b ∧ Rd H l (.lst xs) ∧ Rd H b (.lst zs) ∧ xs.length + zs.length ≤ sizeLine ∧ ∀ p, H p = none → Q (.ref p) (upd H p (.lst (xs ++ zs)))
theorem op_catR : OpR X (binaryOp .Add) rCatR := by
  intro pins s σ H x y v u Q I rx ry h
  obtain ⟨l, b, xs, zs, rfl, rfl, hH, hB, hz, q⟩ := h
  cases rx
  cases ry
  obtain ⟨z, its, n, r, hl, e⟩ := Inv.rdL I hH
  obtain ⟨z2, its2, n2, r2, hl2, e2⟩ := Inv.rdL I hB
  refine PySem.P.add_list e e2 ?_ (by rw [List.size_toArray, List.size_toArray]; omega)
  have ea : its.toArray ++ its2.toArray = (its ++ its2).toArray := by simp
  rw [ea]
  exact ⟨.ref _, _, I.lnew (t' := s.toks) (r.append r2) (by rw [List.length_append]; omega), rfl, q _ I.fresh⟩
/-- t + u: a new tuple whose object is known -/
def rCatF (K : Frg) : R2 := fun x y H Q => ∃ a b xs ys, x = .ref a ∧ y = .ref b ∧ SqT K H a xs ∧ SqT K H b ys ∧ xs.length + ys.length ≤ sizeLine ∧
  (xs = [] → Q (.ref b) H) ∧ (xs ≠ [] → ys = [] → Q (.ref a) H) ∧ (xs ≠ [] → ys ≠ [] → ∀ (p : Addr) (o : Obj), H p = none → o.dict = none → Q (.ref p) (upd H p (.frz o (.tup (xs ++ ys)))))
theorem op_catF : OpR X (binaryOp .Add) (rCatF X.K) := by
  intro pins s σ H x y v u Q I rx ry h
  obtain ⟨a, b, xs, ys, rfl, rfl, ha, hb, hz, q0, q1, q2⟩ := h
  cases rx
  cases ry
  obtain ⟨its, r1, p1, _⟩ := I.tuple ha
  obtain ⟨its2, r2, p2, _⟩ := I.tuple hb
  by_cases hx : xs = []
  · subst hx
    cases r1
    exact cat_tup0 p1 p2 ⟨.ref b, H, I, rfl, q0 rfl⟩
  · refine HT.cat_tup p1 p2 (fun z => hx (r1.nil_iff.mp z)) (fun z => ⟨.ref a, H, I, rfl, q1 hx (r2.nil_iff.mp z)⟩) (fun z => ?_) (by rw [← r1.length, ← r2.length]; exact hz)
    refine ⟨.ref s.heap.objs.size, _, I.laid (t' := s.toks) (o := .frz { cls := .type "tuple", data := .seq (its ++ its2).toArray } (.tup (xs ++ ys))) (fun b ob q => Heap.get?_push_of_some _ q) (Nat.le_refl _) ?_, rfl, q2 hx (fun w => z (r2.nil_iff.mpr w)) _ _ (I.hok.fresh (Nat.le_refl _)) rfl⟩
    exact ⟨Heap.get?_push_size _ rfl, by rw [List.length_append]; exact hz, _, r1.append r2, IsTup.new _ _⟩
/-! ### + -/
def pAdd : PyData → PyData → Rs PyData
  | .int i, .int j => .ok (.int (i + j))
  | .tuple a, .tuple b => if a.length + b.length ≤ sz then .ok (.tuple (a ++ b)) else .bad
  | .list a, .list b => if a.length + b.length ≤ sz then .ok (.list (a ++ b)) else .bad
  | .str a, .str b => if a.length + b.length ≤ sz then .ok (.str (a ++ b)) else .bad
  | _, _ => .bad
def rAddS : R2 := fun x y H Q => ∃ i j, x = .str i ∧ y = .str j ∧ i.length + j.length ≤ sizeLine ∧ Q (.str (i ++ j)) H
def rAdd (K : Frg) : R2 := fun x y H Q => rI0 (fun i j => .int (i + j)) x y H Q ∨ rCatF K x y H Q ∨ rCatR x y H Q ∨ rAddS x y H Q
theorem op_addA : OpR X (binaryOp .Add) (rAdd X.K) := op_add.or (op_catF.or (op_catR.or op_add_str))
theorem od_add {K : Frg} : OpD pF (rAdd K) pAdd := fun W cl O σ H v u x y Q od hx hy ok => by
  unfold pAdd at ok
  split at ok
  · rename_i i j
    exact .inl ⟨i, j, rd_int hx, rd_int hy, ok _ H (Same.refl H) ⟨.int _, fun _ e => nomatch e⟩⟩
  · rename_i a b
    obtain ⟨hl, ok⟩ := okG_if ok
    obtain ⟨p, vs, rfl, hp, ha⟩ := rd_tup hx
    obtain ⟨q, us, rfl, hq, hb⟩ := rd_tup hy
    refine .inr (.inl ⟨p, q, vs, us, rfl, rfl, sqT_tq (tq_mono hid_le hp), sqT_tq (tq_mono hid_le hq), by rw [dpAll_len ha, dpAll_len hb]; exact sz_le hl, fun e => ?_, fun _ e => ?_, fun _ _ z ob hz hd => ?_⟩)
    · subst e
      cases ha
      exact ok _ H (Same.refl H) ⟨.tup hq hb, fun _ e => nomatch e⟩
    · subst e
      cases hb
      rw [List.append_nil] at ok
      exact ok _ H (Same.refl H) ⟨.tup hp ha, fun _ e => nomatch e⟩
    · exact ok _ _ (same_new hz) (newF_tup od hz hd (dpAll_app ha hb))
  · rename_i a b
    obtain ⟨hl, ok⟩ := okG_if ok
    obtain ⟨p, vs, rfl, hp, ha⟩ := rd_lst hx
    obtain ⟨q, us, rfl, hq, hb⟩ := rd_lst hy
    exact .inr (.inr (.inl ⟨p, q, vs, us, rfl, rfl, hp, hq, by rw [dpAll_len ha, dpAll_len hb]; exact sz_le hl, fun z hz => ok _ _ (same_new hz) (newF od hz (dpAll_app ha hb))⟩))
  · rename_i a b
    obtain ⟨hl, ok⟩ := okG_if ok
    exact .inr (.inr (.inr ⟨a, b, rd_str hx, rd_str hy, sz_le hl, ok _ H (Same.refl H) ⟨.str _, fun _ e => nomatch e⟩⟩))
  · exact False.elim ok
/-! ### * -/
def mulOk (i j : Int) : Prop := (-(2 ^ 64) < i ∧ i < 2 ^ 64) ∨ (-(2 ^ 64) < j ∧ j < 2 ^ 64)
instance (i j : Int) : Decidable (mulOk i j) := by unfold mulOk; infer_instance
def repD (k : Nat) (a : List PyData) : List PyData := (List.replicate k a).flatten
def pMul : PyData → PyData → Rs PyData
  | .int i, .int j => if mulOk i j then .ok (.int (i * j)) else .bad
  | .tuple a, .int k => if a ≠ [] ∧ 1 ≤ k ∧ k ≤ 1000 ∧ a.length ≤ 1000 then .ok (.tuple (repD k.toNat a)) else .bad
  | .list a, .int k => if (-(1000000000 : Int) ≤ k ∧ k ≤ 1000000000) ∧ a.length * k.toNat ≤ sz then .ok (.list (repD k.toNat a)) else .bad
  | _, _ => .bad
def rRepR : R2 := fun x y H Q => ∃ l k xs, x = .ref l ∧ y = .int k ∧ Rd H l (.lst xs) ∧ -(2 ^ 63) ≤ k ∧ k < 2 ^ 63 ∧ xs.length * k.toNat ≤ sizeLine ∧ ∀ p, H p = none → Q (.ref p) (upd H p (.lst (List.replicate k.toNat xs).flatten))
theorem op_repR : OpR X (binaryOp .Mult) rRepR := by
  intro pins s σ H x y v u Q I rx ry h
  obtain ⟨l, k, xs, rfl, rfl, hH, h1, h2, hz, q⟩ := h
  cases rx
  obtain ⟨t, rfl⟩ := ry
  obtain ⟨z, its, n, r, hl, e⟩ := Inv.rdL I hH
  have hlen : its.toArray.size * k.toNat ≤ sizeLine := by rw [List.size_toArray, ← hl]; exact hz
  have hcap : ¬ its.toArray.size * k.toNat > (2 ^ 63 - 1) / 8 := by
    have : (sizeLine : Nat) ≤ (2 ^ 63 - 1) / 8 := by decide
    omega
  have hfit : ¬ (!Builtin.List.listFitsIndex k) = true := by
    rw [fitsIndex_both h1 h2]
    exact Bool.false_ne_true
  have hlong : ¬ Builtin.List.listTooLong (its.toArray.size * k.toNat) = true := by
    rw [notLongL hlen]
    exact Bool.false_ne_true
  have hnew : List.foldl (fun x1 x2 => x1 ++ x2) #[] (List.replicate (if its.toArray.isEmpty = true then 0 else k.toNat) its.toArray) = (List.replicate k.toNat its).flatten.toArray := by
    have f0 : ∀ m : Nat, List.foldl (fun x1 x2 => x1 ++ x2) #[] (List.replicate m its.toArray) = (List.replicate m its).flatten.toArray := fun m => by
      have := foldl_rep its m []
      rw [List.nil_append] at this
      exact this
    rw [f0]
    cases its with
    | nil => simp
    | cons a r' => rw [if_neg (by simp)]
  refine wpAny_binaryOp_repeat_ref (T := "list") (U := "int") (by decide) ⟨_, e, rfl⟩ (fun s' => typeIs_int s' k t) noFill_list_mul F.fills_int_mul F.slot_int_rmul repeat_list F.slot_int_index.lookup
    (call_meets F.slot_int_rmul (typeIs_int s k t) F.entry_int_rmul (F.args_int_rmul_2 _ _) (int___rmul___int_list k t l its.toArray n)
      ⟨e, rfl, ⟨_, e, rfl⟩, call_meets F.slot_list_mul ⟨_, e, rfl⟩ F.entry_list_mul (F.args_list_mul_2 _ _) (AutoListH.list___mul___list_int_3 l its.toArray n k t hfit hcap hlong) ⟨e, ?_⟩⟩)
  rw [hnew]
  exact ⟨.ref _, _, I.lnew (t' := s.toks) (r.rep k.toNat) (by rw [PyProof.Rows.lm_len_rep_flat, Nat.mul_comm]; exact hz), rfl, q _ I.fresh⟩
theorem dpAll_rep {H : Hp} {vs : List V} {ds : List PyData} (h : DqAll H vs ds) : ∀ k : Nat, DqAll H (List.replicate k vs).flatten (List.replicate k ds).flatten
  | 0 => .nil
  | k + 1 => by
    rw [List.replicate_succ, List.replicate_succ, List.flatten_cons, List.flatten_cons]
    exact dpAll_app h (dpAll_rep h k)
theorem tuple_mul1 (l : Addr) (items : Array Value) (n : Nat) (dd : Option Addr) (sl : Array (Option Value)) (u : Tok) :
    Meets (Builtin.«tuple.__mul__» ⟨[.ref l, .int 1 u], []⟩) (fun _ R s => s.heap.get? l = some { cls := .type "tuple", dict := dd, data := .seq items n, slots := sl } ∧ R (.ok (.ret (Value.ref l))) s) :=
  .of_wp fun prog w A R s h => by
    obtain ⟨hp, g, d, tk, os⟩ := s
    obtain ⟨hl, h⟩ := h
    have f1 := AutoSeq1.idx_int
    have c0 : (decide ((1 : Int) < -(2 ^ 63)) || decide ((1 : Int) ≥ 2 ^ 63)) = false := by decide
    have c1 : (items.isEmpty || (1 : Int) == 1) = true := by rw [show ((1 : Int) == 1) = true from rfl, Bool.or_true]
    wp_walk using wpAny_loadPart' hl
    repeat (first
      | (refine wpAny_ite_false (decide_eq_false (by rw [c0]; exact Bool.false_ne_true)) ?_; wp_walk using wpAny_loadPart' hl)
      | (refine wpAny_ite_true (decide_eq_true c1) ?_; wp_walk using wpAny_loadPart' hl))
    exact ⟨_, rfl, h⟩
def rRepF (K : Frg) : R2 := fun x y H Q => ∃ l k xs, x = .ref l ∧ y = .int k ∧ SqT K H l xs ∧ xs ≠ [] ∧ 2 ≤ k ∧ k ≤ 1000 ∧ xs.length ≤ 1000 ∧ ∀ (p : Addr) (o : Obj), H p = none → o.dict = none → Q (.ref p) (upd H p (.frz o (.tup (List.replicate k.toNat xs).flatten)))
theorem op_repF : OpR X (binaryOp .Mult) (rRepF X.K) := by
  intro pins s σ H x y v u Q I rx ry h
  obtain ⟨l, k, xs, rfl, rfl, hT, hne, h1, h2, hz, q⟩ := h
  cases rx
  obtain ⟨t, rfl⟩ := ry
  obtain ⟨its, r, ⟨⟨cls, dd, data, sl⟩, ho, hc, n, hd⟩, hs⟩ := I.tuple hT
  simp only at hc hd
  subst hc hd
  have hle : its.length = xs.length := r.length.symm
  have hn : its ≠ [] := fun e => hne (by
    rw [e] at hle
    exact List.eq_nil_of_length_eq_zero hle.symm)
  have hi : its.toArray.isEmpty = false := by
    cases its with
    | nil => exact absurd rfl hn
    | cons a b => rfl
  have hsz0 : its.toArray.size = xs.length := by rw [List.size_toArray, hle]
  have hm : ((its.toArray.size : Nat) : Int) * k ≤ 1000000 := by
    rw [hsz0]
    have a1 : ((xs.length : Nat) : Int) * k ≤ 1000 * k := Int.mul_le_mul_of_nonneg_right (by omega) (by omega)
    omega
  have flen : (List.replicate k.toNat its).flatten.length ≤ sizeLine := by
    rw [PyProof.Rows.lm_len_rep_flat, hle, sizeLine_eq]
    have a1 : k.toNat * xs.length ≤ 1000 * 1000 := Nat.mul_le_mul (by omega) hz
    omega
  have c0 : (decide (k < -(2 ^ 63)) || decide (k ≥ 2 ^ 63)) = false := by
    rw [decide_eq_false (by omega), decide_eq_false (by omega)] <;> rfl
  have c1 : (its.toArray.isEmpty || k == 1) = false := by
    rw [hi, Bool.false_or]
    exact beq_eq_false_iff_ne.mpr (by omega)
  have c2 : (decide (k ≤ 0) || its.toArray.isEmpty) = false := by
    rw [hi, Bool.or_false]
    exact decide_eq_false (by omega)
  have c4 : Builtin.Tuple.tupleTooMany (((its.toArray.size : Nat) : Int) * k) = false := by
    unfold Builtin.Tuple.tupleTooMany
    rw [sizeLine_eq]
    exact decide_eq_false (by omega)
  refine wpAny_binaryOp_repeat_ref (T := "tuple") (U := "int") (by decide) ⟨_, ho, rfl⟩ (fun s' => typeIs_int s' k t) noFill_tuple_mul F.fills_int_mul F.slot_int_rmul repeat_tuple F.slot_int_index.lookup
    (call_meets F.slot_int_rmul (typeIs_int s k t) F.entry_int_rmul (F.args_int_rmul_2 _ _) (int_rmul_tuple k t l its.toArray n dd sl)
      ⟨ho, rfl, ⟨_, ho, rfl⟩, call_meets F.slot_tuple_mul ⟨_, ho, rfl⟩ F.entry_tuple_mul (F.args_tuple_mul_2 _ _) (tuple_mulW l its.toArray n dd sl k t c0 c1 c2 (by omega) c4 (by rw [size_rep, List.size_toArray]; exact flen)) ⟨ho, ?_⟩⟩)
  rw [size_rep]
  refine ⟨.ref s.heap.objs.size, _, I.laid (t' := s.toks) (o := .frz { cls := .type "tuple", data := .seq (List.replicate k.toNat its).flatten.toArray } (.tup (List.replicate k.toNat xs).flatten)) (fun b ob q => Heap.get?_push_of_some _ q) (Nat.le_refl _) ?_, rfl, q _ _ (I.hok.fresh (Nat.le_refl _)) rfl⟩
  exact ⟨Heap.get?_push_size _ rfl, by rw [PyProof.Rows.lm_len_rep_flat, sizeLine_eq]; have a1 : k.toNat * xs.length ≤ 1000 * 1000 := Nat.mul_le_mul (by omega) hz; omega, _, r.rep k.toNat, IsTup.new _ _⟩
def rRep1 (K : Frg) : R2 := fun x y H Q => ∃ l xs, x = .ref l ∧ y = .int 1 ∧ SqT K H l xs ∧ Q (.ref l) H
theorem op_rep1 : OpR X (binaryOp .Mult) (rRep1 X.K) := by
  intro pins s σ H x y v u Q I rx ry h
  obtain ⟨l, xs, rfl, rfl, hT, q⟩ := h
  cases rx
  obtain ⟨t, rfl⟩ := ry
  obtain ⟨its, r, ⟨⟨cls, dd, data, sl⟩, ho, hc, n, hd⟩, hs⟩ := I.tuple hT
  simp only at hc hd
  subst hc hd
  refine wpAny_binaryOp_repeat_ref (T := "tuple") (U := "int") (by decide) ⟨_, ho, rfl⟩ (fun s' => typeIs_int s' 1 t) noFill_tuple_mul F.fills_int_mul F.slot_int_rmul repeat_tuple F.slot_int_index.lookup
    (call_meets F.slot_int_rmul (typeIs_int s 1 t) F.entry_int_rmul (F.args_int_rmul_2 _ _) (int_rmul_tuple 1 t l its.toArray n dd sl)
      ⟨ho, rfl, ⟨_, ho, rfl⟩, call_meets F.slot_tuple_mul ⟨_, ho, rfl⟩ F.entry_tuple_mul (F.args_tuple_mul_2 _ _) (tuple_mul1 l its.toArray n dd sl t) ⟨ho, ?_⟩⟩)
  exact ⟨.ref l, H, I, rfl, q⟩
def rMul (K : Frg) : R2 := fun x y H Q => rI CMul (fun i j => .int (i * j)) x y H Q ∨ rRepF K x y H Q ∨ rRepR x y H Q ∨ rRep1 K x y H Q
theorem op_mulA : OpR X (binaryOp .Mult) (rMul X.K) := op_mul.or (op_repF.or (op_repR.or op_rep1))
theorem rep1 (a : List PyData) : repD 1 a = a := by unfold repD; simp
theorem od_mul {K : Frg} : OpD pF (rMul K) pMul := fun W cl O σ H v u x y Q od hx hy ok => by
  unfold pMul at ok
  split at ok
  · rename_i i j
    obtain ⟨hc, ok⟩ := okG_if ok
    exact .inl ⟨i, j, rd_int hx, rd_int hy, hc, ok _ H (Same.refl H) ⟨.int _, fun _ e => nomatch e⟩⟩
  · rename_i a k
    obtain ⟨⟨hne, h2, h3, h4⟩, ok⟩ := okG_if ok
    obtain ⟨p, vs, rfl, hp, ha⟩ := rd_tup hx
    have hl := dpAll_len ha
    by_cases h1 : k = 1
    · subst h1
      have e : repD (1 : Int).toNat a = a := rep1 a
      rw [e] at ok
      exact .inr (.inr (.inr ⟨p, vs, rfl, rd_int hy, sqT_tq (tq_mono hid_le hp), ok _ H (Same.refl H) ⟨.tup hp ha, fun _ e => nomatch e⟩⟩))
    · refine .inr (.inl ⟨p, k, vs, rfl, rd_int hy, sqT_tq (tq_mono hid_le hp), fun e => hne ?_, by omega, h3, by omega, fun q ob hq hd => ok _ _ (same_new hq) (newF_tup od hq hd (dpAll_rep ha _))⟩)
      subst e
      cases ha
      rfl
  · rename_i a k
    obtain ⟨⟨⟨h1, h2⟩, h3⟩, ok⟩ := okG_if ok
    obtain ⟨p, vs, rfl, hp, ha⟩ := rd_lst hx
    exact .inr (.inr (.inl ⟨p, k, vs, rfl, rd_int hy, hp, by omega, by omega, by rw [dpAll_len ha]; exact sz_le h3, fun q hq => ok _ _ (same_new hq) (newF od hq (dpAll_rep ha _))⟩))
  · exact False.elim ok
/-! ### the rest of arithmetic -/
def divOk (i j : Int) : Prop := 0 < j ∧ j < 1073741824
instance (i j : Int) : Decidable (divOk i j) := by unfold divOk; infer_instance
instance (i j : Int) : Decidable (CDiv i j) := by unfold CDiv; infer_instance
instance (i j : Int) : Decidable (CPow i j) := by unfold CPow; infer_instance
def pSub : PyData → PyData → Rs PyData := iOp fun i j => .ok (.int (i - j))
def pMod : PyData → PyData → Rs PyData := iOp fun i j => if 0 < j then .ok (.int (i % j)) else .bad
def pDiv : PyData → PyData → Rs PyData := iOp fun i j => if CDiv i j then .ok (.int (i / j)) else .bad
def pPow : PyData → PyData → Rs PyData := iOp fun i j => if CPow i j then .ok (.int (i ^ j.toNat)) else .bad
theorem od_sub : OpD pF (rI0 fun i j => V.int (i - j)) pSub := op_I0
theorem od_mod : OpD pF (rI (fun _ j => 0 < j) fun i j => V.int (i % j)) pMod := op_IC (C := fun _ j => 0 < j)
theorem od_div : OpD pF (rI CDiv fun i j => V.int (i / j)) pDiv := op_IC
theorem od_pow : OpD pF (rI CPow fun i j => V.int (i ^ j.toNat)) pPow := op_IC
def pLt : PyData → PyData → Rs PyData := iOp fun i j => .ok (.bool (decide (i < j)))
def pLe : PyData → PyData → Rs PyData := iOp fun i j => .ok (.bool (decide (i ≤ j)))
def pGt : PyData → PyData → Rs PyData := iOp fun i j => .ok (.bool (decide (j < i)))
def pGe : PyData → PyData → Rs PyData := iOp fun i j => .ok (.bool (decide (j ≤ i)))
theorem od_lt : OpD pF (rI0 fun i j => V.bl (decide (i < j))) pLt := op_IB
theorem od_le : OpD pF (rI0 fun i j => V.bl (decide (i ≤ j))) pLe := op_IB
theorem od_gt : OpD pF (rI0 fun i j => V.bl (decide (j < i))) pGt := op_IB
theorem od_ge : OpD pF (rI0 fun i j => V.bl (decide (j ≤ i))) pGe := op_IB
/-! ### ==, != of data -/
def pEq (x y : PyData) : Rs PyData := if SeqAt.shaped x = true ∧ SeqAt.shaped y = true then .ok (.bool (PyData.eqv x y)) else .bad
def pNe (x y : PyData) : Rs PyData := if SeqAt.shaped x = true ∧ SeqAt.shaped y = true then .ok (.bool (!PyData.eqv x y)) else .bad
theorem od_eq {K : Frg} : OpD pF (rEqD K) pEq := fun W cl O σ H v u x y Q od hx hy ok => by
  obtain ⟨⟨h1, h2⟩, ok⟩ := okG_if ok
  exact ⟨x, y, dq_dp hx.dq, dq_dp hy.dq, h1, h2, ok _ H (Same.refl H) ⟨.bl _, fun _ e => nomatch e⟩⟩
theorem od_ne {K : Frg} : OpD pF (rNeD K) pNe := fun W cl O σ H v u x y Q od hx hy ok => by
  obtain ⟨⟨h1, h2⟩, ok⟩ := okG_if ok
  exact ⟨x, y, dq_dp hx.dq, dq_dp hy.dq, h1, h2, ok _ H (Same.refl H) ⟨.bl _, fun _ e => nomatch e⟩⟩
def rIsN : R2 := fun x y H Q => y = .non ∧ Q (.bl (decide (x = .non))) H
def rNotN : R2 := fun x y H Q => y = .non ∧ Q (.bl (!decide (x = .non))) H
theorem op_isN1 : OpR X (compareOp .Is) rIsN := op_isN
theorem op_notN1 : OpR X (compareOp .IsNot) rNotN := op_notN
def isNoneD : PyData → Bool
  | .none => true
  | _ => false
def pIs (x y : PyData) : Rs PyData := match y with
  | .none => .ok (.bool (isNoneD x))
  | _ => .bad
def pIsNot (x y : PyData) : Rs PyData := match y with
  | .none => .ok (.bool (!isNoneD x))
  | _ => .bad
theorem rd_isNone {O : List Addr} {H : Hp} {v : V} {x : PyData} (h : RdV O H v x) : decide (v = .non) = isNoneD x := by
  cases x with
  | none => rw [rd_non h]; rfl
  | bool b => rw [rd_bl h]; rfl
  | int i => rw [rd_int h]; rfl
  | str z => rw [rd_str h]; rfl
  | list ds => obtain ⟨p, vs, rfl, _⟩ := rd_lst h; rfl
  | tuple ds => obtain ⟨p, vs, rfl, _⟩ := rd_tup h; rfl
  | dict kv => exact (rd_dict h).elim
theorem od_is : OpD pF rIsN pIs := fun W cl O σ H v u x y Q od hx hy ok => by
  cases y with
  | none => exact ⟨rd_non hy, ok _ H (Same.refl H) ⟨by rw [rd_isNone hx]; exact .bl _, fun _ e => nomatch e⟩⟩
  | _ => exact False.elim ok
theorem od_isNot : OpD pF rNotN pIsNot := fun W cl O σ H v u x y Q od hx hy ok => by
  cases y with
  | none => exact ⟨rd_non hy, ok _ H (Same.refl H) ⟨by rw [rd_isNone hx]; exact .bl _, fun _ e => nomatch e⟩⟩
  | _ => exact False.elim ok
end
end SB

namespace SB
open PySem PySem.Spec PyProof.Rows L2 RZ
section
variable {X : Cx} {W : L2.WX} {cl : Nat → Addr}
/-! ### subscripts -/
def ixD (ds : List PyData) (i : Int) : Rs PyData := match atI ds i with
  | some d => .ok d
  | none => .bad
def pIx : PyData → PyData → Rs PyData
  | .list ds, .int i => ixD ds i
  | .tuple ds, .int i => ixD ds i
  | .str z, .int i => if z.length ≤ sz then (match atI z.cps.toList i with
    | some c => .ok (.str ⟨#[c]⟩)
    | none => .bad) else .bad
  | _, _ => .bad
theorem atI_dq {H : Hp} {vs : List V} {ds : List PyData} (h : DqAll H vs ds) {i : Int} {d : PyData} (e : atI ds i = some d) : ∃ v, atI vs i = some v ∧ Dq H v d := by
  unfold atI at e ⊢
  rw [dpAll_len h]
  cases k : ixN ds.length i with
  | none => rw [k] at e; cases e
  | some j =>
    rw [k] at e
    exact dpAll_get h e
theorem ixD_ok {P : Po PyData V} {W : L2.WX} {cl : Nat → Addr} {O : List Addr} {σ : L2.St} {H : Hp} {ds : List PyData} {i : Int} {Q : VK} (h : OkG P W cl O σ H (ixD ds i) Q) : ∃ d, atI ds i = some d ∧ ∀ v H', Same H H' → P O H H' v d → Q v H' := by
  unfold ixD at h
  cases e : atI ds i with
  | none => rw [e] at h; exact False.elim h
  | some d => rw [e] at h; exact ⟨d, rfl, h⟩
theorem od_ix {K : Frg} : OpD pD (rIx K) pIx := fun W cl O σ H v u x y Q od hx hy ok => by
  unfold pIx at ok
  split at ok
  · rename_i ds i
    obtain ⟨d, e, ok⟩ := ixD_ok ok
    obtain ⟨p, vs, rfl, hp, ha⟩ := rd_lst hx
    obtain ⟨v, ev, dq⟩ := atI_dq ha e
    exact .inl ⟨p, vs, i, v, rfl, rd_int hy, sqL_rd hp, ev, ok _ H (Same.refl H) dq⟩
  · rename_i ds i
    obtain ⟨d, e, ok⟩ := ixD_ok ok
    obtain ⟨p, vs, rfl, hp, ha⟩ := rd_tup hx
    obtain ⟨v, ev, dq⟩ := atI_dq ha e
    exact .inr (.inl ⟨p, vs, i, v, rfl, rd_int hy, sqT_tq (tq_mono hid_le hp), ev, ok _ H (Same.refl H) dq⟩)
  · rename_i z i
    by_cases hl : z.length ≤ sz
    · rw [if_pos hl] at ok
      cases e : atI z.cps.toList i with
      | none => rw [e] at ok; exact False.elim ok
      | some c =>
        rw [e] at ok
        exact .inr (.inr ⟨z, i, c, rd_str hx, rd_int hy, sz_le hl, e, ok _ H (Same.refl H) (.str _)⟩)
    · rw [if_neg hl] at ok; exact False.elim ok
  · exact False.elim ok
theorem d_ix {a b : Expr} {pos : Pos} {ta tb : TE} {fa fb : Sl → Rs PyData} (ha : DX pR X W cl a ta fa) (hb : DX pR X W cl b tb fb) (hs : PlainIx b := by intro _ _; rfl) : DX pD X W cl (.Subscript a b pos) (tOp (rIx X.K) ta tb) (gBin pIx fa fb) :=
  ⟨pe_ix ix_seq ha.pe hb.pe hs, ev_op mD od_ix ha.ev hb.ev⟩
/-! ### slices -/
def rSlF (K : Frg) : V → Option Int → Option Int → Hp → VK → Prop := fun x lo hi H Q => ∃ a xs, x = .ref a ∧ SqT K H a xs ∧
  (HT.sIx xs.length 0 lo = 0 ∧ HT.sIx xs.length xs.length hi = xs.length → Q (.ref a) H) ∧ (¬ (HT.sIx xs.length 0 lo = 0 ∧ HT.sIx xs.length xs.length hi = xs.length) → ∀ (p : Addr) (o : Obj), H p = none → o.dict = none → Q (.ref p) (upd H p (.frz o (.tup (cutV xs lo hi)))))
theorem sl_tupF : SlR X (rSlF X.K) := by
  intro pins s σ H x v vl vu lo hi sl Q I rx hs pl pu h
  obtain ⟨a, xs, rfl, hx, q1, q2⟩ := h
  cases rx
  obtain ⟨its, r, ht, hz⟩ := I.tuple hx
  have hlen : its.toArray.size = xs.length := by rw [List.size_toArray]; exact r.length.symm
  refine ⟨"tuple", _, PyProof.Rows.slot_tuple_getitem.lookup, ht.typeIs, ?_⟩
  by_cases hw : HT.sIx xs.length 0 lo = 0 ∧ HT.sIx xs.length xs.length hi = xs.length
  · exact getItem_tuple_whole ht hs pl pu (by rw [hlen]; exact hw) ⟨.ref a, H, I, rfl, q1 hw⟩
  · refine HT.getItem_tuple_cut ht hs pl pu (by rw [hlen]; exact hw) ?_ (by rw [hlen]; exact hz)
    rw [hlen]
    refine ⟨.ref s.heap.objs.size, _, I.laid (t' := s.toks) (o := .frz { cls := .type "tuple", data := .seq ((its.toArray.toList.drop (HT.sIx xs.length 0 lo)).take (HT.sIx xs.length xs.length hi - HT.sIx xs.length 0 lo)).toArray } (.tup (cutV xs lo hi))) (fun b ob q => Heap.get?_push_of_some _ q) (Nat.le_refl _) ?_, rfl, q2 hw _ _ (I.hok.fresh (Nat.le_refl _)) rfl⟩
    exact ⟨Heap.get?_push_size _ rfl, Nat.le_trans (cutV_length xs lo hi) hz, _, (r.drop (HT.sIx xs.length 0 lo)).take (HT.sIx xs.length xs.length hi - HT.sIx xs.length 0 lo), IsTup.new _ _⟩
structure DO (X : Cx) (W : L2.WX) (cl : Nat → Addr) (e : Option Expr) (t : TO) (f : Sl → Rs (Option Int)) : Prop where
  po : PO X e t
  ev : EvG pI W cl t f
def oNo : Sl → Rs (Option Int) := fun _ => .ok none
def oSo (f : Sl → Rs PyData) : Sl → Rs (Option Int) := fun ρ => ((f ρ).bind asI).bind fun i => .ok (some i)
theorem do_no : DO X W cl none tNoPart oNo := ⟨po_none, fun B O0 O σ H ρ Q I ok => ok none H (Same.refl H) rfl⟩
theorem do_so {e : Expr} {te : TE} {f : Sl → Rs PyData} (h : DX pR X W cl e te f) : DO X W cl (some e) (tPart te) (oSo f) := ⟨po_some h.pe, fun B O0 O σ H ρ Q I ok => by
  refine h.ev B O0 O σ H ρ _ I ?_
  unfold oSo at ok
  revert ok
  cases f ρ with
  | bad => exact fun z => z
  | err c p => exact fun z => z
  | ok x =>
    cases x with
    | int i => exact fun ok v H1 s1 p1 => ⟨i, rd_int p1, ok _ H1 s1 rfl⟩
    | _ => exact fun z => False.elim z⟩
def cutD {α : Type} (xs : List α) (lo hi : Option Int) : List α := (xs.drop (HT.sIx xs.length 0 lo)).take (HT.sIx xs.length xs.length hi - HT.sIx xs.length 0 lo)
theorem dpAll_cut {H : Hp} {vs : List V} {ds : List PyData} (h : DqAll H vs ds) (lo hi : Option Int) : DqAll H (cutV vs lo hi) (cutD ds lo hi) := by
  unfold cutV cutD
  rw [dpAll_len h]
  exact dpAll_take _ (dpAll_drop _ h)
def pSl (x : PyData) (lo hi : Option Int) : Rs PyData := match x with
  | .list ds => .ok (.list (cutD ds lo hi))
  | .tuple ds => .ok (.tuple (cutD ds lo hi))
  | _ => .bad
def gSl (f : Sl → Rs PyData) (l h : Sl → Rs (Option Int)) : Sl → Rs PyData := fun ρ => (f ρ).bind fun x => (l ρ).bind fun lo => (h ρ).bind fun hi => pSl x lo hi
def rSlD (K : Frg) : V → Option Int → Option Int → Hp → VK → Prop := fun x lo hi H Q => rSlL K x lo hi H Q ∨ rSlF K x lo hi H Q
theorem cutD_whole {α : Type} {xs : List α} {lo hi : Option Int} (h : HT.sIx xs.length 0 lo = 0 ∧ HT.sIx xs.length xs.length hi = xs.length) : cutD xs lo hi = xs := by
  unfold cutD
  rw [h.1, h.2, List.drop_zero, Nat.sub_zero, List.take_length]
theorem ev_sl {K : Frg} {te : TE} {tl th : TO} {f : Sl → Rs PyData} {l h : Sl → Rs (Option Int)} (h1 : EvG pR W cl te f) (h2 : EvG pI W cl tl l) (h3 : EvG pI W cl th h) : EvG pF W cl (tSl (rSlD K) te tl th) (gSl f l h) := fun B O0 O σ H ρ Q I ok =>
  h1.go mF I ok fun x v H1 _ s1 I1 p1 ok1 => h2.go mF I1 ok1 fun lo lo' H2 _ s2 I2 p2 ok2 => h3.go mF I2 ok2 fun hi hi' H3 _ s3 I3 p3 ok3 => by
    have e2 : lo' = lo := p2
    have e3 : hi' = hi := p3
    subst e2 e3
    have p1 := RdV.up (s2.trans s3) p1
    cases x with
    | list ds =>
      obtain ⟨p, vs, rfl, hp, ha⟩ := rd_lst p1
      exact .inl ⟨p, vs, rfl, sqL_rd hp, fun q hq => ok3 _ _ (same_new hq) (newF I3.od hq (dpAll_cut ha _ _))⟩
    | tuple ds =>
      obtain ⟨p, vs, rfl, hp, ha⟩ := rd_tup p1
      refine .inr ⟨p, vs, rfl, sqT_tq (tq_mono hid_le hp), fun hw => ?_, fun _ q ob hq hd => ok3 _ _ (same_new hq) (newF_tup I3.od hq hd (dpAll_cut ha _ _))⟩
      rw [dpAll_len ha] at hw
      have ok3 : OkG pF W cl O σ H3 (.ok (.tuple (cutD ds lo' hi'))) Q := ok3
      rw [cutD_whole hw] at ok3
      exact ok3 _ H3 (Same.refl _) ⟨.tup hp ha, fun _ e => nomatch e⟩
    | _ => exact False.elim ok3
theorem d_sl {e : Expr} {lo hi : Option Expr} {p2 pos : Pos} {te : TE} {tl th : TO} {f : Sl → Rs PyData} {l h : Sl → Rs (Option Int)} (he : DX pR X W cl e te f) (hl : DO X W cl lo tl l) (hh : DO X W cl hi th h) : DX pF X W cl (.Subscript e (.Slice lo hi none p2) pos) (tSl (rSlD X.K) te tl th) (gSl f l h) :=
  ⟨pe_slice (sl_list.or sl_tupF) he.pe hl.po hh.po, ev_sl he.ev hl.ev hh.ev⟩
/-! ### calls of built-ins with one argument, with two -/
def Call1 (P : Po PyData V) (r : List V → Hp → VK → Prop) (g : PyData → Rs PyData) : Prop := ∀ (W : L2.WX) (cl : Nat → Addr) (O : List Addr) (σ : L2.St) (H : Hp) (v : V) (x : PyData) (Q : VK), (∀ p ∈ O, H p ≠ none) → RdV O H v x → OkG P W cl O σ H (g x) Q → r [v] H Q
def Call2 (P : Po PyData V) (r : List V → Hp → VK → Prop) (g : PyData → PyData → Rs PyData) : Prop := ∀ (W : L2.WX) (cl : Nat → Addr) (O : List Addr) (σ : L2.St) (H : Hp) (v u : V) (x y : PyData) (Q : VK), (∀ p ∈ O, H p ≠ none) → RdV O H v x → RdV O H u y → OkG P W cl O σ H (g x y) Q → r [v, u] H Q
def gUn (g : PyData → Rs PyData) (f : Sl → Rs PyData) : Sl → Rs PyData := fun ρ => (f ρ).bind g
theorem ev_c1 {P : Po PyData V} {r : List V → Hp → VK → Prop} {g : PyData → Rs PyData} {ta : TE} {fa : Sl → Rs PyData} (m : Mon P) (hr : Call1 P r g) (ha : EvG pR W cl ta fa) : EvG P W cl (tCB r (tCons ta tNil)) (gUn g fa) := fun B O0 O σ H ρ Q I ok =>
  ha.go m I ok fun x v H1 _ s1 I1 p1 ok1 => hr W cl O σ H1 v x Q I1.od p1 ok1
theorem ev_c2 {P : Po PyData V} {r : List V → Hp → VK → Prop} {g : PyData → PyData → Rs PyData} {ta tb : TE} {fa fb : Sl → Rs PyData} (m : Mon P) (hr : Call2 P r g) (ha : EvG pR W cl ta fa) (hb : EvG pR W cl tb fb) : EvG P W cl (tCB r (tCons ta (tCons tb tNil))) (gBin g fa fb) := fun B O0 O σ H ρ Q I ok =>
  ha.go m I ok fun x v H1 _ s1 I1 p1 ok1 => hb.go m I1 ok1 fun y u H2 _ s2 I2 p2 ok2 => hr W cl O σ H2 v u x y Q I2.od (RdV.up s2 p1) p2 ok2
theorem d_b1 {P : Po PyData V} {x : Str} {id : String} {r : List V → Hp → VK → Prop} {g : PyData → Rs PyData} {a : Expr} {p pos : Pos} {ta : TE} {fa : Sl → Rs PyData} (m : Mon P) (hc : CallR X (.builtin id) r) (hr : Call1 P r g) (hg : Gl X x) (hm : X.mg x = none) (hv : bootBuiltins x = some (.builtin id)) (ha : DX pR X W cl a ta fa)
    (hn : x ≠ "__name__" := by decide) (hdb : (x == ("__debug__" : Str)) = false := by decide) (h1 : starEach [a] X.env = (false, eval a X.env) :: starEach [] X.env := by rfl) : DX P X W cl (.Call (.Name x p) [a] [] pos) (tCB r (tCons ta tNil)) (gUn g fa) :=
  ⟨pe_callB hc hg hm hv (pa_cons ha.pe pa_nil h1) hn hdb h1, ev_c1 m hr ha.ev⟩
theorem d_t1 {P : Po PyData V} {x : Str} {T : String} {r : List V → Hp → VK → Prop} {g : PyData → Rs PyData} {a : Expr} {p pos : Pos} {ta : TE} {fa : Sl → Rs PyData} (m : Mon P) (hc : CallR X (.type T) r) (hr : Call1 P r g) (hg : Gl X x) (hm : X.mg x = none) (hv : bootBuiltins x = some (.type T)) (ha : DX pR X W cl a ta fa)
    (hn : x ≠ "__name__" := by decide) (hdb : (x == ("__debug__" : Str)) = false := by decide) (h1 : starEach [a] X.env = (false, eval a X.env) :: starEach [] X.env := by rfl) : DX P X W cl (.Call (.Name x p) [a] [] pos) (tCB r (tCons ta tNil)) (gUn g fa) :=
  ⟨pe_callTy hc hg hm hv (pa_cons ha.pe pa_nil h1) hn hdb h1, ev_c1 m hr ha.ev⟩
theorem d_b2 {P : Po PyData V} {x : Str} {id : String} {r : List V → Hp → VK → Prop} {g : PyData → PyData → Rs PyData} {a b : Expr} {p pos : Pos} {ta tb : TE} {fa fb : Sl → Rs PyData} (m : Mon P) (hc : CallR X (.builtin id) r) (hr : Call2 P r g) (hg : Gl X x) (hm : X.mg x = none) (hv : bootBuiltins x = some (.builtin id)) (ha : DX pR X W cl a ta fa) (hb : DX pR X W cl b tb fb)
    (hn : x ≠ "__name__" := by decide) (hdb : (x == ("__debug__" : Str)) = false := by decide) (h1 : starEach [a, b] X.env = (false, eval a X.env) :: starEach [b] X.env := by rfl) (h2 : starEach [b] X.env = (false, eval b X.env) :: starEach [] X.env := by rfl) (h3 : (backTo pos (starEach [b] X.env)).any (·.1) = false := by rfl) : DX P X W cl (.Call (.Name x p) [a, b] [] pos) (tCB r (tCons ta (tCons tb tNil))) (gBin g fa fb) :=
  ⟨pe_callB hc hg hm hv (pa_cons ha.pe (pa_cons hb.pe pa_nil h2) h1) hn hdb h1 h3, ev_c2 m hr ha.ev hb.ev⟩
/-! #### len -/
def pLen : PyData → Rs PyData
  | .list ds => .ok (.int ds.length)
  | .tuple ds => .ok (.int ds.length)
  | .str z => if z.length ≤ sz then .ok (.int z.length) else .bad
  | _ => .bad
def rLen (K : Frg) : List V → Hp → VK → Prop := fun xs H Q => ∃ x n, xs = [x] ∧ LenV K x H n ∧ Q (.int n) H
theorem cr_len : CallR X (.builtin "len") (rLen X.K) := call_len
theorem c1_len {K : Frg} : Call1 pF (rLen K) pLen := fun W cl O σ H v x Q od hx ok => by
  cases x with
  | list ds =>
    obtain ⟨p, vs, rfl, hp, ha⟩ := rd_lst hx
    exact ⟨_, vs.length, rfl, .inl ⟨vs, sqL_rd hp, rfl⟩, by rw [dpAll_len ha]; exact ok _ H (Same.refl H) ⟨.int _, fun _ e => nomatch e⟩⟩
  | tuple ds =>
    obtain ⟨p, vs, rfl, hp, ha⟩ := rd_tup hx
    exact ⟨_, vs.length, rfl, .inr ⟨vs, sqT_tq (tq_mono hid_le hp), rfl⟩, by rw [dpAll_len ha]; exact ok _ H (Same.refl H) ⟨.int _, fun _ e => nomatch e⟩⟩
  | str z =>
    obtain ⟨hl, ok⟩ := okG_if ok
    exact ⟨.str z, z.length, by rw [rd_str hx], ⟨sz_le hl, rfl⟩, ok _ H (Same.refl H) ⟨.int _, fun _ e => nomatch e⟩⟩
  | _ => exact False.elim ok
/-! #### data that are ints -/
def asInts : List PyData → Option (List Int)
  | [] => some []
  | .int i :: ds => (asInts ds).map (i :: ·)
  | _ :: _ => none
theorem asInts_eq : ∀ {ds : List PyData} {ns : List Int}, asInts ds = some ns → ds = ns.map PyData.int
  | [], ns, h => by cases h; rfl
  | d :: ds, ns, h => by
    cases d with
    | int i =>
      have h : (asInts ds).map (i :: ·) = some ns := h
      cases e : asInts ds with
      | none => rw [e] at h; cases h
      | some ms =>
        rw [e] at h
        cases h
        rw [asInts_eq e]
        rfl
    | _ => cases h
theorem asInts_map (ns : List Int) : asInts (ns.map PyData.int) = some ns := by
  induction ns with
  | nil => rfl
  | cons n ns ih => show (asInts (ns.map PyData.int)).map (n :: ·) = _; rw [ih]; rfl
/-! #### sum -/
def pSum : PyData → Rs PyData
  | .list ds => (match asInts ds with
    | some ns => .ok (.int ns.sum)
    | none => .bad)
  | .tuple ds => (match asInts ds with
    | some ns => .ok (.int ns.sum)
    | none => .bad)
  | _ => .bad
theorem sum_tup {prog : Program} {w : World} {A : Around} {E : Value → Shared → Prop} {s : Shared} {l : Addr} {its : List Value} {ns : List Int} {Q : Value → Shared → Prop} (hh : A.handled = none) (hl : s.heap.IsTuple l its.toArray) (hi : IntsAre its ns)
    (h : ∀ h' tk t', (∀ b o, s.heap.get? b = some o → h'.get? b = some o) → Q (.int ns.sum t') { s with heap := h', toks := tk }) : wpAny (model prog w) A (call (.builtin "sum") [.ref l]) Q E s := by
  obtain ⟨xs, e⟩ := hi.allInts.items
  have hn : numsOf (intItems xs).toList = ns := by rw [← e]; exact hi.numsOf
  rw [nums_intItems] at hn
  rw [e] at hl
  have hlt : l < s.heap.objs.size := by obtain ⟨_, e, _⟩ := hl; exact Heap.lt_size e
  refine call_sum_walkG (PySem.wpAny_pyIter_tuple hl ?_)
  refine ⟨_, _, _, _, _, _, numAt xs, rfl, Walks.tuple (A := A.in1) hh _ l (Nat.ne_of_lt hlt) (intItems xs), ⟨⟨_, Heap.get?_push_size _ rfl, rfl, rfl⟩, hl.push _⟩, fun b hb => ?_, (fun _ _ => intItems_at), fun h' tk t' hk => ?_⟩
  · show b < (s.heap.push _).objs.size
    rw [Heap.size_push]
    rcases List.mem_cons.mp hb with rfl | hb
    · exact Nat.lt_succ_self _
    · rcases List.mem_cons.mp hb with rfl | hb
      · exact Nat.lt_succ_of_lt hlt
      · cases hb
  · have := h h' tk t' fun b o e => hk b o (fun hm => absurd (Heap.lt_size e) ((List.mem_singleton.mp hm) ▸ Nat.lt_irrefl _)) (Heap.get?_push_of_some _ e)
    rw [show (intItems xs).size = xs.size by simp [intItems], preSum_eq, List.take_of_length_le (by simp), hn]
    exact this
def rSumT (K : Frg) : List V → Hp → VK → Prop := fun vs H Q => ∃ (a : Addr) (ns : List Int), vs = [V.ref a] ∧ SqT K H a (ns.map V.int) ∧ Q (.int ns.sum) H
theorem cr_sumT (hc : X.calm = true) : CallR X (.builtin "sum") (rSumT X.K) := by
  intro pins s σ H vs us Q I r h
  obtain ⟨a, ns, rfl, hs, q⟩ := h
  obtain ⟨its, rv, hl, _⟩ := I.tuple hs
  rw [Vals.ref1 r]
  exact sum_tup (I.ok.hd hc) hl rv.ints fun h' tk t' hk => ⟨.int _, H, I.kept hk, ⟨_, rfl⟩, q⟩
def rSumA (K : Frg) : List V → Hp → VK → Prop := fun xs H Q => rSum K xs H Q ∨ rSumT K xs H Q
theorem cr_sumA (hc : X.calm = true) : CallR X (.builtin "sum") (rSumA X.K) := (cr_sum hc).or (cr_sumT hc)
theorem c1_sum {K : Frg} : Call1 pF (rSumA K) pSum := fun W cl O σ H v x Q od hx ok => by
  cases x with
  | list ds =>
    obtain ⟨p, vs, rfl, hp, ha⟩ := rd_lst hx
    unfold pSum at ok
    dsimp only at ok
    cases e : asInts ds with
    | none => rw [e] at ok; exact False.elim ok
    | some ns =>
      rw [e] at ok
      rw [asInts_eq e] at ha
      rw [dpAll_ints_inv ha] at hp
      exact .inl ⟨p, ns, rfl, sqL_rd hp, ok _ H (Same.refl H) ⟨.int _, fun _ e => nomatch e⟩⟩
  | tuple ds =>
    obtain ⟨p, vs, rfl, hp, ha⟩ := rd_tup hx
    unfold pSum at ok
    dsimp only at ok
    cases e : asInts ds with
    | none => rw [e] at ok; exact False.elim ok
    | some ns =>
      rw [e] at ok
      rw [asInts_eq e] at ha
      rw [dpAll_ints_inv ha] at hp
      exact .inr ⟨p, ns, rfl, sqT_tq (tq_mono hid_le hp), ok _ H (Same.refl H) ⟨.int _, fun _ e => nomatch e⟩⟩
  | _ => exact False.elim ok
/-! #### tuple(x), list(x) -/
def pTuple : PyData → Rs PyData
  | .list ds => .ok (.tuple ds)
  | .tuple ds => .ok (.tuple ds)
  | _ => .bad
def pList : PyData → Rs PyData
  | .list ds => .ok (.list ds)
  | .tuple ds => .ok (.list ds)
  | _ => .bad
def rTuple (K : Frg) : List V → Hp → VK → Prop := fun xs H Q => ∃ p ys, xs = [.ref p] ∧ ((SqL K H p ys ∧ ∀ (l : Addr) (o : Obj), H l = none → o.dict = none → Q (.ref l) (upd H l (.frz o (.tup ys)))) ∨ (SqT K H p ys ∧ Q (.ref p) H))
theorem cr_tuple : CallR X (.type "tuple") (rTuple X.K) := by
  intro pins s σ H xs us Q I r h
  obtain ⟨p, ys, rfl, h⟩ := h
  obtain ⟨u, rfl, rx⟩ := vals1 r
  cases rx
  rcases h with ⟨hq, q⟩ | ⟨hq, q⟩
  · obtain ⟨its, r', pl, hz⟩ := I.list hq
    have hlen := r'.length
    refine call_tuple_list pl.isList (fun h' kp => ?_) (by simp only [List.size_toArray] <;> omega)
    have I1 : Inv X pins σ H { s with heap := h' } := I.kept (t' := s.toks) kp
    have I2 : Inv X pins σ (upd H h'.objs.size (.frz { cls := .type "tuple", data := .seq its.toArray } (.tup ys))) { s with heap := h'.push { cls := .type "tuple", data := .seq its.toArray } } :=
      I1.laid (t' := s.toks) (fun b o e => Heap.get?_push_of_some _ e) (Nat.le_refl _) (show ObjOk X.prog X.w _ _ _ (.frz { cls := .type "tuple", data := .seq its.toArray } (.tup ys)) from ⟨Heap.get?_push_size _ rfl, hz, its, r', IsTup.new _ _⟩)
    exact ⟨.ref h'.objs.size, _, I2, rfl, q _ _ (I1.hok.fresh (Nat.le_refl _)) rfl⟩
  · obtain ⟨its, r', pl, hz⟩ := I.tuple hq
    exact call_tuple_same pl ⟨.ref p, H, I, rfl, q⟩
def rList (K : Frg) : List V → Hp → VK → Prop := fun xs H Q => ∃ p ys, xs = [.ref p] ∧ (SqL K H p ys ∨ SqT K H p ys) ∧ ∀ l, H l = none → Q (.ref l) (upd H l (.lst ys))
theorem cr_list : CallR X (.type "list") (rList X.K) := call_list_of
theorem c1_tuple {K : Frg} : Call1 pF (rTuple K) pTuple := fun W cl O σ H v x Q od hx ok => by
  cases x with
  | list ds =>
    obtain ⟨p, vs, rfl, hp, ha⟩ := rd_lst hx
    exact ⟨p, vs, rfl, .inl ⟨sqL_rd hp, fun l ob hl hd => ok _ _ (same_new hl) (newF_tup od hl hd ha)⟩⟩
  | tuple ds =>
    obtain ⟨p, vs, rfl, hp, ha⟩ := rd_tup hx
    exact ⟨p, vs, rfl, .inr ⟨sqT_tq (tq_mono hid_le hp), ok _ H (Same.refl H) ⟨.tup hp ha, fun _ e => nomatch e⟩⟩⟩
  | _ => exact False.elim ok
theorem c1_list {K : Frg} : Call1 pF (rList K) pList := fun W cl O σ H v x Q od hx ok => by
  cases x with
  | list ds =>
    obtain ⟨p, vs, rfl, hp, ha⟩ := rd_lst hx
    exact ⟨p, vs, rfl, .inl (sqL_rd hp), fun l hl => ok _ _ (same_new hl) (newF od hl ha)⟩
  | tuple ds =>
    obtain ⟨p, vs, rfl, hp, ha⟩ := rd_tup hx
    exact ⟨p, vs, rfl, .inr (sqT_tq (tq_mono hid_le hp)), fun l hl => ok _ _ (same_new hl) (newF od hl ha)⟩
  | _ => exact False.elim ok
/-! #### min, max of two ints; abs; int of a truth value -/
def pMin : PyData → PyData → Rs PyData := iOp fun i j => .ok (.int (if j < i then j else i))
def pMax : PyData → PyData → Rs PyData := iOp fun i j => .ok (.int (if j > i then j else i))
def rMin2 : List V → Hp → VK → Prop := fun xs H Q => ∃ i j, xs = [.int i, .int j] ∧ Q (.int (if j < i then j else i)) H
def rMax2 : List V → Hp → VK → Prop := fun xs H Q => ∃ i j, xs = [.int i, .int j] ∧ Q (.int (if j > i then j else i)) H
theorem cr_min2 (hc : X.calm = true) : CallR X (.builtin "min") rMin2 := call_min2 hc
theorem cr_max2 (hc : X.calm = true) : CallR X (.builtin "max") rMax2 := call_max2 hc
theorem c2_min : Call2 pF rMin2 pMin := fun W cl O σ H v u x y Q od hx hy ok => by
  cases x with
  | int i =>
    cases y with
    | int j => exact ⟨i, j, by rw [rd_int hx, rd_int hy], ok _ H (Same.refl H) ⟨.int _, fun _ e => nomatch e⟩⟩
    | _ => exact False.elim ok
  | _ => exact False.elim ok
theorem c2_max : Call2 pF rMax2 pMax := fun W cl O σ H v u x y Q od hx hy ok => by
  cases x with
  | int i =>
    cases y with
    | int j => exact ⟨i, j, by rw [rd_int hx, rd_int hy], ok _ H (Same.refl H) ⟨.int _, fun _ e => nomatch e⟩⟩
    | _ => exact False.elim ok
  | _ => exact False.elim ok
/-! #### isinstance(x, T), T a built-in class -/
def isiD (T : String) : PyData → Rs Bool
  | .none => .ok false
  | .bool _ => .ok (T == "bool" || T == "int")
  | .int _ => .ok (T == "int")
  | .str _ => .ok (T == "str")
  | .list _ => .ok (T == "list")
  | .tuple _ => .ok (T == "tuple")
  | .dict _ => .bad
def tIsi (K : Frg) (T : String) (ta : TE) : TE := tCB (rIsi K) (tCons ta (tCons (tC (.ty T)) tNil))
def isiTypes : List String := ["int", "bool", "str", "list", "tuple"]
theorem kit5 {T : String} (h : T ∈ isiTypes) : kitB "NoneType" T = some false ∧ kitB "bool" T = some (T == "bool" || T == "int") ∧ kitB "int" T = some (T == "int") ∧ kitB "str" T = some (T == "str") ∧ kitB "list" T = some (T == "list") ∧ kitB "tuple" T = some (T == "tuple") := by
  unfold isiTypes at h
  simp only [List.mem_cons, List.not_mem_nil, or_false] at h
  rcases h with rfl | rfl | rfl | rfl | rfl <;> decide +kernel
theorem tyx_lst {K : Frg} {H : Hp} {p : Addr} {vs : List V} (h : Rd H p (.lst vs)) : TyX K H (.ref p) (.type "list") := by
  rcases h with h | ⟨o, h⟩
  · exact .base (.lst h)
  · exact .base (.frz h)
theorem tyx_tup {K : Frg} {H : Hp} {p : Addr} {vs : List V} (h : Rd H p (.tup vs)) : TyX K H (.ref p) (.type "tuple") := by
  rcases h with h | ⟨o, h⟩
  · exact .base (.tup h)
  · exact .fTuple h
def gIsi (T : String) (f : Sl → Rs PyData) : Sl → Rs Bool := fun ρ => (f ρ).bind (isiD T)
theorem ev_isi {K : Frg} {T : String} (hT : T ∈ isiTypes) {ta : TE} {f : Sl → Rs PyData} (h : EvG pR W cl ta f) : EvG pF W cl (tIsi K T ta) (gB (gIsi T f)) := fun B O0 O σ H ρ Q I ok => by
  have k := kit5 hT
  refine h B O0 O σ H ρ _ I ?_
  unfold gB gIsi at ok
  revert ok
  cases f ρ with
  | bad => exact fun z => z
  | err c p => exact fun z => z
  | ok x =>
    intro ok v H1 s1 p1
    cases x with
    | none => exact ⟨v, .ty T, .type "NoneType", .type T, _, rfl, .ty T, by rw [rd_non p1]; exact .base .non, kit_ty k.1, ok _ H1 s1 ⟨.bl _, fun _ e => nomatch e⟩⟩
    | bool b => exact ⟨v, .ty T, .type "bool", .type T, _, rfl, .ty T, by rw [rd_bl p1]; exact .base (.bl b), kit_ty k.2.1, ok _ H1 s1 ⟨.bl _, fun _ e => nomatch e⟩⟩
    | int i => exact ⟨v, .ty T, .type "int", .type T, _, rfl, .ty T, by rw [rd_int p1]; exact .base (.int i), kit_ty k.2.2.1, ok _ H1 s1 ⟨.bl _, fun _ e => nomatch e⟩⟩
    | str z => exact ⟨v, .ty T, .type "str", .type T, _, rfl, .ty T, by rw [rd_str p1]; exact .base (.str z), kit_ty k.2.2.2.1, ok _ H1 s1 ⟨.bl _, fun _ e => nomatch e⟩⟩
    | list ds =>
      obtain ⟨p, vs, rfl, hp, ha⟩ := rd_lst p1
      exact ⟨_, .ty T, .type "list", .type T, _, rfl, .ty T, tyx_lst hp, kit_ty k.2.2.2.2.1, ok _ H1 s1 ⟨.bl _, fun _ e => nomatch e⟩⟩
    | tuple ds =>
      obtain ⟨p, vs, rfl, hp, ha⟩ := rd_tup p1
      exact ⟨_, .ty T, .type "tuple", .type T, _, rfl, .ty T, tyx_tup (tq_rd (tq_mono hid_le hp)), kit_ty k.2.2.2.2.2, ok _ H1 s1 ⟨.bl _, fun _ e => nomatch e⟩⟩
    | dict kv => exact (rd_dict p1).elim
end
end SB

namespace SB
open PySem PySem.Spec PyProof.Rows L2 RZ
section
variable {X : Cx} {W : L2.WX} {cl : Nat → Addr}
theorem d_isi {T : String} {x : Str} {a : Expr} {p q pos : Pos} {ta : TE} {f : Sl → Rs PyData} (hT : T ∈ isiTypes) (hg : Gl X "isinstance") (hm : X.mg "isinstance" = none) (hgT : Gl X x) (hmT : X.mg x = none) (hvT : bootBuiltins x = some (.type T)) (ha : DX pR X W cl a ta f)
    (hn : x ≠ "__name__" := by decide) (hdb : (x == ("__debug__" : Str)) = false := by decide)
    (h1 : starEach [a, .Name x q] X.env = (false, eval a X.env) :: starEach [.Name x q] X.env := by rfl) (h2 : starEach [.Name x q] X.env = (false, eval (.Name x q) X.env) :: starEach [] X.env := by rfl) (h3 : (backTo pos (starEach [.Name x q] X.env)).any (·.1) = false := by rfl) :
    DX pF X W cl (.Call (.Name "isinstance" p) [a, .Name x q] [] pos) (tIsi X.K T ta) (gB (gIsi T f)) :=
  ⟨pe_callB call_isi hg hm (by decide +kernel) (pa_cons ha.pe (pa_cons (pe_bltn hgT hmT hvT rfl hn hdb) pa_nil h2) h1) (by decide) (by decide) h1 h3, ev_isi hT ha.ev⟩
/-! ### x in t, x not in t -/
def flatD : PyData → Bool
  | .none => true
  | .bool _ => true
  | .int _ => true
  | .str _ => true
  | _ => false
def pIn (neg : Bool) (x y : PyData) : Rs PyData := match y with
  | .tuple ds => if flatD x = true ∧ ds.all flatD = true then .ok (.bool (if neg then !ds.any (fun z => PyData.eqv z x) else ds.any (fun z => PyData.eqv z x))) else .bad
  | .list ds => if SeqAt.shaped x = true ∧ SeqAt.shaped (.list ds) = true then .ok (.bool (if neg then !ds.any (fun z => PyData.eqv z x) else ds.any (fun z => PyData.eqv z x))) else .bad
  | _ => .bad
theorem flat_dq {H : Hp} {v : V} {d : PyData} (h : Dq H v d) (f : flatD d = true) : flatV v = true := by
  cases h with
  | non => rfl
  | bl b => rfl
  | int i => rfl
  | str z => rfl
  | lst _ _ => cases f
  | tup _ _ => cases f
theorem eqV_dq {H : Hp} {v u : V} {d e : PyData} (h : Dq H v d) (k : Dq H u e) (f : flatD d = true) (g : flatD e = true) : eqV v u = PyData.eqv d e := by
  cases h <;> cases k <;> first | (cases f; done) | (cases g; done) | (simp only [eqV, PyData.eqv]; done) | (simp [eqV, PyData.eqv]; done) | skip
  all_goals (simp only [eqV, PyData.eqv] <;> rfl)
theorem inV_dq {H : Hp} {u : V} {e : PyData} (k : Dq H u e) (g : flatD e = true) : ∀ {vs : List V} {ds : List PyData}, DqAll H vs ds → ds.all flatD = true → vs.all flatV = true ∧ inV u vs = ds.any (fun z => PyData.eqv z e)
  | _, _, .nil, _ => ⟨rfl, rfl⟩
  | v :: vs, d :: ds, .cons h t, f => by
    rw [List.all_cons, Bool.and_eq_true] at f
    obtain ⟨a, b⟩ := inV_dq k g t f.2
    refine ⟨by rw [List.all_cons, flat_dq h f.1, a]; rfl, ?_⟩
    unfold inV at b ⊢
    rw [List.any_cons, List.any_cons, b, eqV_dq h k f.1 g]
def rInA (K : Frg) (neg : Bool) : R2 := fun x y H Q => rIn K neg x y H Q ∨ (if neg = true then rNotInD K x y H Q else rInD K x y H Q)
theorem op_inA (hu : X.A.units + 65 < cLine) : OpR X (compareOp .In) (rInA X.K false) := op_in_seq.or (op_inD hu)
theorem op_notInA (hu : X.A.units + 65 < cLine) : OpR X (compareOp .NotIn) (rInA X.K true) := op_notIn_seq.or (op_notInD hu)
theorem od_in {K : Frg} (neg : Bool) : OpD pF (rInA K neg) (pIn neg) := fun W cl O σ H v u x y Q od hx hy ok => by
  cases y with
  | tuple ds =>
    obtain ⟨⟨h1, h2⟩, ok⟩ := okG_if ok
    obtain ⟨p, vs, rfl, hp, ha⟩ := rd_tup hy
    obtain ⟨a, b⟩ := inV_dq (dp_mono (Same.refl _) hx.dq) h1 (dpAll_mono hid_le ha) h2
    refine .inl ⟨p, vs, rfl, .inr (sqT_tq (tq_mono hid_le hp)), flat_dq hx.dq h1, a, ?_⟩
    rw [b]
    exact ok _ H (Same.refl H) ⟨.bl _, fun _ e => nomatch e⟩
  | list ds =>
    obtain ⟨⟨h1, h2⟩, ok⟩ := okG_if ok
    refine .inr ?_
    cases neg with
    | true => exact ⟨x, ds, dq_dp hx.dq, dq_dp hy.dq, h1, h2, ok _ H (Same.refl H) ⟨.bl _, fun _ e => nomatch e⟩⟩
    | false => exact ⟨x, ds, dq_dp hx.dq, dq_dp hy.dq, h1, h2, ok _ H (Same.refl H) ⟨.bl _, fun _ e => nomatch e⟩⟩
  | _ => exact False.elim ok
end
/-! ### sorted of ints -/
def insI (x : Int) : List Int → List Int
  | [] => [x]
  | y :: ys => if x ≤ y then x :: y :: ys else y :: insI x ys
def sortI : List Int → List Int
  | [] => []
  | x :: xs => insI x (sortI xs)
theorem insI_perm (x : Int) : ∀ ys : List Int, (insI x ys).Perm (x :: ys)
  | [] => List.Perm.refl _
  | y :: ys => by
    unfold insI
    split
    · exact List.Perm.refl _
    · exact ((insI_perm x ys).cons y).trans (List.Perm.swap x y ys)
theorem sortI_perm : ∀ xs : List Int, (sortI xs).Perm xs
  | [] => List.Perm.refl _
  | x :: xs => (insI_perm x (sortI xs)).trans ((sortI_perm xs).cons x)
theorem insI_sorted (x : Int) : ∀ {ys : List Int}, ys.Pairwise (· ≤ ·) → (insI x ys).Pairwise (· ≤ ·)
  | [], _ => List.pairwise_cons.mpr ⟨(fun _ h => nomatch h), List.Pairwise.nil⟩
  | y :: ys, h => by
    obtain ⟨h1, h2⟩ := List.pairwise_cons.mp h
    unfold insI
    by_cases e : x ≤ y
    · rw [if_pos e]
      refine List.pairwise_cons.mpr ⟨fun z hz => ?_, h⟩
      rcases List.mem_cons.mp hz with rfl | hz
      · exact e
      · exact Int.le_trans e (h1 z hz)
    · rw [if_neg e]
      refine List.pairwise_cons.mpr ⟨fun z hz => ?_, insI_sorted x h2⟩
      rcases List.mem_cons.mp ((insI_perm x ys).mem_iff.mp hz) with rfl | hz
      · omega
      · exact h1 z hz
theorem sortI_sorted : ∀ xs : List Int, (sortI xs).Pairwise (· ≤ ·)
  | [] => List.Pairwise.nil
  | x :: xs => insI_sorted x (sortI_sorted xs)
theorem sorted_unique : ∀ {xs ys : List Int}, xs.Perm ys → xs.Pairwise (· ≤ ·) → ys.Pairwise (· ≤ ·) → xs = ys
  | [], ys, p, _, _ => (List.Perm.nil_eq p)
  | x :: xs, [], p, _, _ => absurd p.length_eq (by simp)
  | x :: xs, y :: ys, p, h, k => by
    obtain ⟨h1, h2⟩ := List.pairwise_cons.mp h
    obtain ⟨k1, k2⟩ := List.pairwise_cons.mp k
    have e : x = y := by
      have a : x ∈ y :: ys := p.mem_iff.mp List.mem_cons_self
      have b : y ∈ x :: xs := p.mem_iff.mpr List.mem_cons_self
      rcases List.mem_cons.mp a with e | a
      · exact e
      · rcases List.mem_cons.mp b with e | b
        · exact e.symm
        · have := k1 x a
          have := h1 y b
          omega
    subst e
    rw [sorted_unique ((List.perm_cons x).mp p) h2 k2]
theorem sortI_of {xs ys : List Int} (p : ys.Perm xs) (h : ys.Pairwise (· ≤ ·)) : ys = sortI xs := sorted_unique (p.trans (sortI_perm xs).symm) h (sortI_sorted xs)
theorem sortI_len (xs : List Int) : (sortI xs).length = xs.length := (sortI_perm xs).length_eq
def pSorted : PyData → Rs PyData
  | .list ds => (match asInts ds with
    | some ns => .ok (.list ((sortI ns).map PyData.int))
    | none => .bad)
  | .tuple ds => (match asInts ds with
    | some ns => .ok (.list ((sortI ns).map PyData.int))
    | none => .bad)
  | _ => .bad
section
variable {prog : Program} {w : World} {A : Around} {E : Value → Shared → Prop} {s : Shared}
/-- sorted of a list or a tuple -/
theorem sorted_seq {l : Addr} {T : String} {o : Obj} {n : Nat} {vs : List Value} {ltv : Value → Value → Bool} {Q : Value → Shared → Prop} (O : SrtO.Swo ltv) (hT : T = "list" ∨ T = "tuple") (ho : s.heap.get? l = some o) (hc : o.cls = .type T) (hd : o.data = .seq vs.toArray n) (hz : vs.length ≤ sizeLine)
    (hS : 2 ≤ vs.length → ∀ (h₁ : Heap) (a : Addr), h₁.get? a = some (seqObj "list" vs.toArray 0) → (∀ b o, s.heap.get? b = some o → b ≠ a ∧ h₁.get? b = some o) → SrtO.SortableO prog w A.in1.in1 { s with heap := h₁ } a vs ltv)
    (h : ∀ (out : List Value) (h1 h2 : Heap) (p : Addr) (ep : Nat), SrtO.Srtd ltv out → SrtO.Stb ltv out vs → (∀ b o, s.heap.get? b = some o → h1.get? b = some o) → (∀ b o, h1.get? b = some o → h2.get? b = some o) → h1.objs.size ≤ p → h2.get? p = some { cls := .type "list", data := .seq out.toArray ep } → Q (.ref p) { s with heap := h2 }) :
    wpAny (model prog w) A (call (.builtin "sorted") [.ref l]) Q E s := by
  refine Calls.call_function_entry kind_sorted plain_sorted entry_sorted (args_sorted1 _) ?_
  unfold Builtin.«sorted»
  refine wpAny_bind (m := checkCount "sorted" 1 1 _) (wpAny_pure ?_)
  refine wpAny_bind (wpAny_collect_seq l hT ho hc hd (fun h' hk => ?_) (by rw [List.size_toArray]; exact hz))
  refine wpAny_bind (wpAny_newList ?_ (by simpa using hz))
  have hoL : (h'.push (seqObj "list" vs.toArray 0)).get? h'.objs.size = some (seqObj "list" vs.toArray 0) := Heap.get?_push_size _ rfl
  have keep : ∀ b o, s.heap.get? b = some o → b ≠ h'.objs.size ∧ (h'.push (seqObj "list" vs.toArray 0)).get? b = some o := fun b o q =>
    ⟨Nat.ne_of_lt (Heap.lt_size (hk _ _ q)), Heap.get?_push_of_some _ (hk _ _ q)⟩
  show wpAny _ _ _ _ _ { s with heap := h'.push (seqObj "list" vs.toArray 0) }
  refine wpAny_bind (wpAny_holding (wpAny_call_entry slot_list_sort ⟨_, hoL, rfl⟩ entry_list_sort (SrtO.list_sort_ord O hoL hz (fun h2 => hS h2 _ _ hoL keep) fun out hs hb => ⟨_, rfl, ?_⟩) (args_list_sort _)))
  obtain ⟨ep, he'⟩ := PyProof.Rows.sortedHeap_at (vs := vs) (out := out.toArray) hoL
  refine wpAny_pure ⟨_, rfl, h out h' _ h'.objs.size ep hs hb hk (fun b o q => ?_) (Nat.le_refl _) he'⟩
  have q1 : (h'.push (seqObj "list" vs.toArray 0)).get? b = some o := Heap.get?_push_of_some _ q
  rw [PyProof.Rows.sortedHeap_old (Nat.ne_of_lt (Heap.lt_size q)) (Heap.lt_size q1)]
  exact q1
end
section
variable {X : Cx} {W : L2.WX} {cl : Nat → Addr}
def rSortA (K : Frg) : List V → Hp → VK → Prop := fun vs H Q => ∃ (a : Addr) (ns : List Int), vs = [V.ref a] ∧ (SqL K H a (ns.map V.int) ∨ SqT K H a (ns.map V.int)) ∧ ∀ p, H p = none → Q (.ref p) (upd H p (.lst ((sortI ns).map V.int)))
theorem cr_sortA : CallR X (.builtin "sorted") (rSortA X.K) := by
  intro pins s σ H vs us Q I r h
  obtain ⟨a, ns, rfl, hs, q⟩ := h
  rw [Vals.ref1 r]
  obtain ⟨its, T, o, n, hT, rv, ho, hc, hd, hz⟩ : ∃ (its : List Value) (T : String) (o : Obj) (n : Nat), (T = "list" ∨ T = "tuple") ∧ Vals (ns.map V.int) its ∧ s.heap.get? a = some o ∧ o.cls = .type T ∧ o.data = .seq its.toArray n ∧ (ns.map V.int).length ≤ sizeLine := by
    rcases hs with hs | hs
    · obtain ⟨its, rv, ⟨o, n, ho, hc, _, hd⟩, hz⟩ := I.list hs
      exact ⟨its, "list", o, n, .inl rfl, rv, ho, hc, hd, hz⟩
    · obtain ⟨its, rv, ⟨o, ho, hc, n, hd⟩, hz⟩ := I.tuple hs
      exact ⟨its, "tuple", o, n, .inr rfl, rv, ho, hc, hd, hz⟩
  have hi := rv.ints
  refine sorted_seq SrtO.swo_int hT ho hc hd (by rw [← rv.length]; exact hz) (fun h2 h₁ a' _ _ => SrtO.ints_sortable hi h2) fun out g1 h2 p ep h1 hb hk hk2 hp he => ?_
  obtain ⟨k1, k2, k3⟩ := SrtO.ints_out hi h1 hb
  have es : out.map SrtO.iv = sortI ns := sortI_of k2 k3
  rw [es] at k1
  have hlen : ((sortI ns).map V.int).length ≤ sizeLine := by
    rw [List.length_map, sortI_len]
    rw [List.length_map] at hz
    exact hz
  exact ⟨.ref p, upd H p (.lst ((sortI ns).map V.int)), (I.kept (t' := s.toks) hk).laid (t' := s.toks) hk2 hp ⟨hlen, out, ep, vals_of_ints k1, he⟩, rfl, q p ((I.kept (t' := s.toks) hk).hok.fresh hp)⟩
theorem c1_sorted {K : Frg} : Call1 pF (rSortA K) pSorted := fun W cl O σ H v x Q od hx ok => by
  cases x with
  | list ds =>
    obtain ⟨p, vs, rfl, hp, ha⟩ := rd_lst hx
    unfold pSorted at ok
    dsimp only at ok
    cases e : asInts ds with
    | none => rw [e] at ok; exact False.elim ok
    | some ns =>
      rw [e] at ok
      rw [asInts_eq e] at ha
      rw [dpAll_ints_inv ha] at hp
      exact ⟨p, ns, rfl, .inl (sqL_rd hp), fun q hq => ok _ _ (same_new hq) (newF od hq (dpAll_ints _))⟩
  | tuple ds =>
    obtain ⟨p, vs, rfl, hp, ha⟩ := rd_tup hx
    unfold pSorted at ok
    dsimp only at ok
    cases e : asInts ds with
    | none => rw [e] at ok; exact False.elim ok
    | some ns =>
      rw [e] at ok
      rw [asInts_eq e] at ha
      rw [dpAll_ints_inv ha] at hp
      exact ⟨p, ns, rfl, .inr (sqT_tq (tq_mono hid_le hp)), fun q hq => ok _ _ (same_new hq) (newF od hq (dpAll_ints _))⟩
  | _ => exact False.elim ok
end
end SB

namespace SB
open PySem PySem.Spec PyProof.Rows L2 RZ
section
variable {X : Cx} {W : L2.WX} {cl : Nat → Addr}
theorem Rp.ownAt {B : Hp} {O0 O : List Addr} {σ : L2.St} {H : Hp} {ρ : Sl} (I : Rp B O0 O σ H ρ) {i : Nat} {xs : List PyData} (h : ρ[i]? = some (some (.own xs))) : ∃ p vs, σ[i]? = some (some (.ref p)) ∧ p ∈ O ∧ H p = some (.lst vs) ∧ DqAll (hid O H) vs xs := by
  obtain ⟨v, hv, p, vs, rfl, hO, bp, hp, ha⟩ := I.sl i _ h
  exact ⟨p, vs, hv, hO, hp, ha⟩
theorem tyL {K : Frg} {H : Hp} {p : Addr} {vs : List V} (h : H p = some (.lst vs)) : tyV K "list" (.ref p) H := .inl ⟨rfl, _, SqL.of h⟩
/-! ### x.append(e) -/
def sApp (i : Nat) (f : Sl → Rs PyData) : Sl → Ot := fun ρ => match ρ[i]? with
  | some (some (.own xs)) => oBind (f ρ) ρ fun d => if xs.length < sz then .nx (ρ.set i (some (.own (xs ++ [d])))) else .bad
  | _ => .bad
theorem okS_if {W : L2.WX} {cl : Nat → Addr} {B : Hp} {O0 O : List Addr} {H : Hp} {c : Prop} [Decidable c] {a : Ot} {D : Ends} (h : OkS W cl B O0 O H (if c then a else .bad) D) : c ∧ OkS W cl B O0 O H a D := by
  by_cases e : c
  · rw [if_pos e] at h; exact ⟨e, h⟩
  · rw [if_neg e] at h; exact False.elim h
theorem ev_app {K : Frg} {te : TE} {f : Sl → Rs PyData} (i : Nat) (he : EvG pD W cl te f) : EvS W cl (tDrop (tBM K "list" rAppend (tVar i) (tCons te tNil))) (sApp i f) := fun B O0 O σ H ρ D I ok => by
  unfold sApp at ok
  split at ok
  · rename_i xs e
    obtain ⟨p, vs, hv, hO, hp, ha⟩ := I.ownAt e
    refine ⟨.ref p, hv, tyL hp, ?_⟩
    refine he.goS I ok fun d v H1 _ s1 I1 p1 ok1 => ?_
    obtain ⟨hl, ok1⟩ := okS_if ok1
    obtain ⟨q, us, hv', hO', hq, ha'⟩ := I1.ownAt e
    rw [hv] at hv'; cases hv'
    obtain ⟨J, sm⟩ := I1.mut e hv hq hO (dpAll_app ha' (.cons p1 .nil))
    exact ⟨p, us, v, rfl, rfl, hq, by rw [dpAll_len ha']; exact sz_lt hl, ok1 _ _ _ J sm⟩
  · exact False.elim ok
theorem ds_app {i : Nat} {x : Str} {e : Expr} {te : TE} {f : Sl → Rs PyData} {p apos cpos pos : Pos} (he : DX pD X W cl e te f) (hN : X.N[i]? = some x := by rfl) (hv : Vis X.env.scope x := by first | exact Or.inl rfl | exact Or.inr (Or.inl rfl) | exact Or.inr (Or.inr rfl)) (hd : (x == ("__debug__" : Str)) = false := by decide)
    (hcd : (x == ("__classdict__" : Str)) = false := by decide) (hbase : attributeBase (.Name x p) "append" X.env (eval (.Name x p) X.env) = eval (.Name x p) X.env := by rfl)
    (hfew : ((backTo cpos (starEach [e] X.env)).all (fun x => !x.1) && (backToKw cpos (keywordEach [] X.env)).all (fun x => x.1.isSome) && decide ([e].length + ([] : List Keyword).length + (if ([] : List Keyword).isEmpty then 0 else 1) < 30)) = true := by rfl)
    (hline : (apos.endLine == cpos.line) = true := by rfl) (h1 : starEach [e] X.env = (false, eval e X.env) :: starEach [] X.env := by rfl) (hpl : (backTo cpos (starEach [] X.env)).any (·.1) = false := by rfl)
    (hs : swapsWith (.Call (.Attribute (.Name x p) "append" apos) [e] [] cpos) none pos.line X.env = pure false := by rfl) :
    DS X W cl (.Expr (.Call (.Attribute (.Name x p) "append" apos) [e] [] cpos) pos) (tDrop (tBM X.K "list" rAppend (tVar i) (tCons te tNil))) (sApp i f) :=
  ⟨ps_expr (pe_bm PySem.F.plainAttrs_list PySem.F.slot_list_append PySem.F.type_list_append mt_append (pe_var hN hv hd hcd) (pa_cons he.pe pa_nil h1) hbase hfew hline h1 hpl) hs, ev_app i he.ev⟩
/-! ### x.extend(e) -/
theorem list_extend_tupW (l : Addr) (items : Array Value) (n : Nat) (b : Addr) (items2 : Array Value) (n2 : Nat) (dd : Option Addr) (sl : Array (Option Value)) (hs0 : ¬(!items.isEmpty && Builtin.List.listTooLong (items.size + items2.size)) = true) (hs1 : items.size ≤ sizeLine) (hs2 : items.size + items2.size ≤ sizeLine + 1) :
    Meets (Builtin.«list.extend» ⟨[.ref l, .ref b], []⟩) (fun _ R s => s.heap.get? l = some { cls := .type "list", dict := none, data := .seq items n, slots := #[] } ∧ s.heap.get? b = some { cls := .type "tuple", dict := dd, data := .seq items2 n2, slots := sl } ∧ R (.ok (.ret Value.none)) { s with heap := s.heap.update l (Obj.mapSeq fun x => x ++ items2), toks := s.toks }) :=
  .of_wp fun prog w A R s h => by
    obtain ⟨hp, g, d, tk, os⟩ := s; obtain ⟨hl, hb, h⟩ := h; have f1 := AutoSeq1.idx_int; have f2 := AutoSeq1.sub_tuple_tuple; have f3 := AutoSeq1.sub_list_list; have f4 := AutoSeq1.sub_tuple_list; have f5 := AutoSeq1.sub_list_tuple;
    have hz' : (items ++ items2).size ≤ sizeLine + 1 := by rw [Array.size_append]; exact hs2
    wp_walk using (wpAny_updateSeq hl rfl (hz := hs1) (_hz' := hz')), wpAny_loadPart' hl, wpAny_loadPart' hb; exact ⟨_, rfl, h⟩
def rExtA (K : Frg) : V → List V → Hp → VK → Prop := fun x vs H Q => ∃ l b xs zs, x = .ref l ∧ vs = [.ref b] ∧ H l = some (.lst xs) ∧ (Rd H b (.lst zs) ∨ SqT K H b zs) ∧ xs.length + zs.length ≤ sizeLine ∧ Q .non (upd H l (.lst (xs ++ zs)))
theorem mt_extA : MtM X "list.extend" (rExtA X.K) := by
  intro pins s σ H x vs v us Q I rx rv h
  obtain ⟨l, b, xs, zs, rfl, rfl, hH, hB, hz, q⟩ := h
  cases rx
  obtain ⟨u, rfl, ru⟩ := rv.one
  cases ru
  obtain ⟨z, its, n, r, hl, e⟩ := I.lstM hH
  rcases hB with hB | hB
  · obtain ⟨z2, its2, n2, r2, hl2, e2⟩ := Inv.rdL I hB
    have hsz : its.toArray.size + its2.toArray.size ≤ sizeLine := by rw [List.size_toArray, List.size_toArray]; omega
    have hlong : ¬ (!its.toArray.isEmpty && Builtin.List.listTooLong (its.toArray.size + its2.toArray.size)) = true := by
      rw [notLongL hsz, Bool.and_false]
      exact Bool.false_ne_true
    refine call_meets F.slot_list_extend ⟨_, e, rfl⟩ F.entry_list_extend (F.args_list_extend_2 _ _)
      (AutoSeq1.list_extend_list_list_0 l its.toArray n b its2.toArray n2 hlong (by rw [List.size_toArray]; omega) (by omega)) ⟨e, e2, ?_⟩
    refine ⟨.non, _, I.lset (its' := its ++ its2) hH e (by simp) (r.append r2) ?_, rfl, q⟩
    rw [List.length_append]
    omega
  · obtain ⟨its2, r2, ⟨⟨cls2, dd2, data2, sl2⟩, e2, hc2, n2, hd2⟩, hz2⟩ := I.tuple hB
    simp only at hc2 hd2
    subst hc2 hd2
    have hl2 := r2.length
    have hsz : its.toArray.size + its2.toArray.size ≤ sizeLine := by rw [List.size_toArray, List.size_toArray]; omega
    have hlong : ¬ (!its.toArray.isEmpty && Builtin.List.listTooLong (its.toArray.size + its2.toArray.size)) = true := by
      rw [notLongL hsz, Bool.and_false]
      exact Bool.false_ne_true
    refine call_meets F.slot_list_extend ⟨_, e, rfl⟩ F.entry_list_extend (F.args_list_extend_2 _ _)
      (list_extend_tupW l its.toArray n b its2.toArray n2 dd2 sl2 hlong (by rw [List.size_toArray]; omega) (by omega)) ⟨e, e2, ?_⟩
    refine ⟨.non, _, I.lset (its' := its ++ its2) hH e (by simp) (r.append r2) ?_, rfl, q⟩
    rw [List.length_append]
    omega
def sExt (i : Nat) (f : Sl → Rs PyData) : Sl → Ot := fun ρ => match ρ[i]? with
  | some (some (.own xs)) => oBind ((f ρ).bind asSeq) ρ fun ds => if xs.length + ds.length ≤ sz then .nx (ρ.set i (some (.own (xs ++ ds)))) else .bad
  | _ => .bad
theorem ev_ext {K : Frg} {te : TE} {f : Sl → Rs PyData} (i : Nat) (he : EvG pR W cl te f) : EvS W cl (tDrop (tBM K "list" (rExtA K) (tVar i) (tCons te tNil))) (sExt i f) := fun B O0 O σ H ρ D I ok => by
  unfold sExt at ok
  split at ok
  · rename_i xs e
    obtain ⟨p, vs, hv, hO, hp, ha⟩ := I.ownAt e
    refine ⟨.ref p, hv, tyL hp, ?_⟩
    refine he B O0 O σ H ρ _ I ?_
    revert ok
    cases f ρ with
    | bad => exact fun z => z
    | err c p => exact fun ok d H' s eo => ok σ O H' d (I.mono s) (hid_same s) eo
    | ok x =>
      intro ok v H1 s1 p1
      have I1 := I.mono s1
      obtain ⟨q, us, hv', hO', hq, ha'⟩ := I1.ownAt e
      rw [hv] at hv'; cases hv'
      cases x with
      | list ds =>
        obtain ⟨hl, ok⟩ := okS_if ok
        obtain ⟨b, ws, rfl, hb, hw⟩ := rd_lst p1
        obtain ⟨J, sm⟩ := I1.mut e hv hq hO (dpAll_app ha' hw)
        exact ⟨p, b, us, ws, rfl, rfl, hq, .inl hb, by rw [dpAll_len ha', dpAll_len hw]; exact sz_le hl, ok _ _ _ J ((hid_same s1).trans sm)⟩
      | tuple ds =>
        obtain ⟨hl, ok⟩ := okS_if ok
        obtain ⟨b, ws, rfl, hb, hw⟩ := rd_tup p1
        obtain ⟨J, sm⟩ := I1.mut e hv hq hO (dpAll_app ha' hw)
        exact ⟨p, b, us, ws, rfl, rfl, hq, .inr (sqT_tq (tq_mono hid_le hb)), by rw [dpAll_len ha', dpAll_len hw]; exact sz_le hl, ok _ _ _ J ((hid_same s1).trans sm)⟩
      | _ => exact False.elim ok
  · exact False.elim ok
theorem ds_ext {i : Nat} {x : Str} {e : Expr} {te : TE} {f : Sl → Rs PyData} {p apos cpos pos : Pos} (he : DX pR X W cl e te f) (hN : X.N[i]? = some x := by rfl) (hv : Vis X.env.scope x := by first | exact Or.inl rfl | exact Or.inr (Or.inl rfl) | exact Or.inr (Or.inr rfl)) (hd : (x == ("__debug__" : Str)) = false := by decide)
    (hcd : (x == ("__classdict__" : Str)) = false := by decide) (hbase : attributeBase (.Name x p) "extend" X.env (eval (.Name x p) X.env) = eval (.Name x p) X.env := by rfl)
    (hfew : ((backTo cpos (starEach [e] X.env)).all (fun x => !x.1) && (backToKw cpos (keywordEach [] X.env)).all (fun x => x.1.isSome) && decide ([e].length + ([] : List Keyword).length + (if ([] : List Keyword).isEmpty then 0 else 1) < 30)) = true := by rfl)
    (hline : (apos.endLine == cpos.line) = true := by rfl) (h1 : starEach [e] X.env = (false, eval e X.env) :: starEach [] X.env := by rfl) (hpl : (backTo cpos (starEach [] X.env)).any (·.1) = false := by rfl)
    (hs : swapsWith (.Call (.Attribute (.Name x p) "extend" apos) [e] [] cpos) none pos.line X.env = pure false := by rfl) :
    DS X W cl (.Expr (.Call (.Attribute (.Name x p) "extend" apos) [e] [] cpos) pos) (tDrop (tBM X.K "list" (rExtA X.K) (tVar i) (tCons te tNil))) (sExt i f) :=
  ⟨ps_expr (pe_bm PySem.F.plainAttrs_list PySem.F.slot_list_extend PySem.F.type_list_extend mt_extA (pe_var hN hv hd hcd) (pa_cons he.pe pa_nil h1) hbase hfew hline h1 hpl) hs, ev_ext i he.ev⟩
/-! ### x.remove(e), ints -/
def sRem (i : Nat) (f : Sl → Rs PyData) : Sl → Ot := fun ρ => match ρ[i]? with
  | some (some (.own xs)) => oBind ((f ρ).bind asI) ρ fun k => (match asInts xs with
    | some ns => if k ∈ ns then .nx (ρ.set i (some (.own ((ns.erase k).map PyData.int)))) else .bad
    | none => .bad)
  | _ => .bad
theorem ev_rem {K : Frg} {te : TE} {f : Sl → Rs PyData} (i : Nat) (he : EvG pR W cl te f) : EvS W cl (tDrop (tBM K "list" rRemI (tVar i) (tCons te tNil))) (sRem i f) := fun B O0 O σ H ρ D I ok => by
  unfold sRem at ok
  split at ok
  · rename_i xs e
    obtain ⟨p, vs, hv, hO, hp, ha⟩ := I.ownAt e
    refine ⟨.ref p, hv, tyL hp, ?_⟩
    refine he B O0 O σ H ρ _ I ?_
    revert ok
    cases f ρ with
    | bad => exact fun z => z
    | err c p => exact fun ok d H' s eo => ok σ O H' d (I.mono s) (hid_same s) eo
    | ok x =>
      intro ok v H1 s1 p1
      have I1 := I.mono s1
      obtain ⟨q, us, hv', hO', hq, ha'⟩ := I1.ownAt e
      rw [hv] at hv'; cases hv'
      cases x with
      | int k =>
        have ok : OkS W cl B O0 O H (match asInts xs with
          | some ns => if k ∈ ns then .nx (ρ.set i (some (.own ((ns.erase k).map PyData.int)))) else .bad
          | none => .bad) D := ok
        cases ei : asInts xs with
        | none => rw [ei] at ok; exact False.elim ok
        | some ns =>
          rw [ei] at ok
          obtain ⟨hm, ok⟩ := okS_if ok
          rw [asInts_eq ei] at ha'
          have eu := dpAll_ints_inv ha'
          subst eu
          obtain ⟨j, hj, h1, h2, h3⟩ := first_at hm
          obtain ⟨J, sm⟩ := I1.mut e hv hq hO (dpAll_ints (ns.erase k))
          refine ⟨p, ns, k, j, rfl, by rw [rd_int p1], hq, h1, fun m hmj => h2 m hmj, ?_⟩
          rw [h3]
          exact ok _ _ _ J ((hid_same s1).trans sm)
      | _ => exact False.elim ok
  · exact False.elim ok
theorem ds_rem {i : Nat} {x : Str} {e : Expr} {te : TE} {f : Sl → Rs PyData} {p apos cpos pos : Pos} (he : DX pR X W cl e te f) (hN : X.N[i]? = some x := by rfl) (hv : Vis X.env.scope x := by first | exact Or.inl rfl | exact Or.inr (Or.inl rfl) | exact Or.inr (Or.inr rfl)) (hd : (x == ("__debug__" : Str)) = false := by decide)
    (hcd : (x == ("__classdict__" : Str)) = false := by decide) (hbase : attributeBase (.Name x p) "remove" X.env (eval (.Name x p) X.env) = eval (.Name x p) X.env := by rfl)
    (hfew : ((backTo cpos (starEach [e] X.env)).all (fun x => !x.1) && (backToKw cpos (keywordEach [] X.env)).all (fun x => x.1.isSome) && decide ([e].length + ([] : List Keyword).length + (if ([] : List Keyword).isEmpty then 0 else 1) < 30)) = true := by rfl)
    (hline : (apos.endLine == cpos.line) = true := by rfl) (h1 : starEach [e] X.env = (false, eval e X.env) :: starEach [] X.env := by rfl) (hpl : (backTo cpos (starEach [] X.env)).any (·.1) = false := by rfl)
    (hs : swapsWith (.Call (.Attribute (.Name x p) "remove" apos) [e] [] cpos) none pos.line X.env = pure false := by rfl) :
    DS X W cl (.Expr (.Call (.Attribute (.Name x p) "remove" apos) [e] [] cpos) pos) (tDrop (tBM X.K "list" rRemI (tVar i) (tCons te tNil))) (sRem i f) :=
  ⟨ps_expr (pe_bm PySem.F.plainAttrs_list PySem.F.slot_list_remove PySem.F.type_list_remove mt_remove (pe_var hN hv hd hcd) (pa_cons he.pe pa_nil h1) hbase hfew hline h1 hpl) hs, ev_rem i he.ev⟩
/-! ### x[k] = e -/
def sItem (i : Nat) (fk f : Sl → Rs PyData) : Sl → Ot := fun ρ => match ρ[i]? with
  | some (some (.own xs)) => oBind (f ρ) ρ fun d => oBind ((fk ρ).bind asI) ρ fun k => (match ixN xs.length k with
    | some j => .nx (ρ.set i (some (.own (xs.set j d))))
    | none => .bad)
  | _ => .bad
theorem ev_item {te tk : TE} {f fk : Sl → Rs PyData} (i : Nat) (he : EvG pD W cl te f) (hk : EvG pR W cl tk fk) : EvS W cl (tAsg te (gSub (tVar i) tk rSetL)) (sItem i fk f) := fun B O0 O σ H ρ D I ok => by
  unfold sItem at ok
  split at ok
  · rename_i xs e
    refine he.goS I ok fun d v H1 _ s1 I1 p1 ok1 => ?_
    obtain ⟨p, vs, hv, hO, hp, ha⟩ := I1.ownAt e
    refine ⟨.ref p, hv, ?_⟩
    refine hk B O0 O σ H1 ρ _ I1 ?_
    revert ok1
    cases fk ρ with
    | bad => exact fun z => z
    | err c p => exact fun ok d H' s eo => ok σ O H' d (I1.mono s) (hid_same s) eo
    | ok x =>
      intro ok u H2 s2 p2
      have I2 := I1.mono s2
      cases x with
      | int k =>
        have ok : OkS W cl B O0 O H1 (match ixN xs.length k with
          | some j => .nx (ρ.set i (some (.own (xs.set j d))))
          | none => .bad) D := ok
        cases ej : ixN xs.length k with
        | none => rw [ej] at ok; exact False.elim ok
        | some j =>
          rw [ej] at ok
          obtain ⟨q, us, hv', hO', hq, ha'⟩ := I2.ownAt e
          rw [hv] at hv'; cases hv'
          obtain ⟨J, sm⟩ := I2.mut e hv hq hO (dpAll_set (dp_mono (hid_same s2) p1) j ha')
          exact ⟨p, us, k, j, rfl, rd_int p2, hq, by rw [dpAll_len ha']; exact ej, ok _ _ _ J ((hid_same s2).trans sm)⟩
      | _ => exact False.elim ok
  · exact False.elim ok
theorem ds_item {i : Nat} {x : Str} {e k : Expr} {te tk : TE} {f fk : Sl → Rs PyData} {p spos pos : Pos} (he : DX pD X W cl e te f) (hk : DX pR X W cl k tk fk) (hN : X.N[i]? = some x := by rfl) (hv : Vis X.env.scope x := by first | exact Or.inl rfl | exact Or.inr (Or.inl rfl) | exact Or.inr (Or.inr rfl)) (hd : (x == ("__debug__" : Str)) = false := by decide)
    (hcd : (x == ("__classdict__" : Str)) = false := by decide) (hg : PG X (.Subscript (.Name x p) k spos) (gSub (tVar i) tk rSetL))
    (hs : swapsWithSole [.Subscript (.Name x p) k spos] e pos.line X.env = pure false := by rfl) (hw : swappedStores [.Subscript (.Name x p) k spos] e X.env = pure none := by rfl)
    (h1 : (assignEach [.Subscript (.Name x p) k spos] X.env).map (·.2) = [assign (.Subscript (.Name x p) k spos) X.env] := by rfl) : DS X W cl (.Assign [.Subscript (.Name x p) k spos] e pos) (tAsg te (gSub (tVar i) tk rSetL)) (sItem i fk f) :=
  ⟨ps_asg he.pe hg hs hw h1, ev_item i he.ev hk.ev⟩
/-! ### targets = x.pop(), x.pop(k) -/
def sPop (i : Nat) (set : PyData → Sl → Option Sl) : Sl → Ot := fun ρ => match ρ[i]? with
  | some (some (.own xs)) => (match xs[xs.length - 1]? with
    | some d => (match set d (ρ.set i (some (.own xs.dropLast))) with
      | some ρ' => .nx ρ'
      | none => .bad)
    | none => .bad)
  | _ => .bad
theorem dpAll_dropLast {H : Hp} {vs : List V} {ds : List PyData} (h : DqAll H vs ds) : DqAll H vs.dropLast ds.dropLast := by
  rw [List.dropLast_eq_take, List.dropLast_eq_take, dpAll_len h]
  exact dpAll_take _ h
theorem ev_pop {K : Frg} {is : List Nat} {g : TG} {set : PyData → Sl → Option Sl} (i : Nat) (hg : EvT Ds is g set) : EvS W cl (tAsg (tBM0 K "list" rPop (tVar i)) g) (sPop i set) := fun B O0 O σ H ρ D I ok => by
  unfold sPop at ok
  split at ok
  · rename_i xs e
    obtain ⟨p, vs, hv, hO, hp, ha⟩ := I.ownAt e
    cases el : xs[xs.length - 1]? with
    | none => rw [el] at ok; exact False.elim ok
    | some d =>
      rw [el] at ok
      dsimp only at ok
      cases es : set d (ρ.set i (some (.own xs.dropLast))) with
      | none => rw [es] at ok; exact False.elim ok
      | some ρ' =>
        rw [es] at ok
        obtain ⟨v, hv2, dv⟩ := dpAll_get ha el
        obtain ⟨J, sm⟩ := I.mut e hv hp hO (dpAll_dropLast ha)
        refine ⟨.ref p, hv, tyL hp, p, vs, v, rfl, rfl, hp, by rw [dpAll_len ha]; exact hv2, ?_⟩
        exact hg B O0 O σ _ _ ρ' v d _ J (dp_mono sm dv) es fun σ' I' _ => ok σ' O _ I' sm
  · exact False.elim ok
theorem ds_pop {i : Nat} {is : List Nat} {x : Str} {tg : Expr} {g : TG} {set : PyData → Sl → Option Sl} {p apos cpos pos : Pos} (hg : PG X tg g) (ht : EvT Ds is g set) (hN : X.N[i]? = some x := by rfl) (hv : Vis X.env.scope x := by first | exact Or.inl rfl | exact Or.inr (Or.inl rfl) | exact Or.inr (Or.inr rfl)) (hd : (x == ("__debug__" : Str)) = false := by decide)
    (hcd : (x == ("__classdict__" : Str)) = false := by decide) (hbase : attributeBase (.Name x p) "pop" X.env (eval (.Name x p) X.env) = eval (.Name x p) X.env := by rfl) (hline : (apos.endLine == cpos.line) = true := by rfl)
    (hs : swapsWithSole [tg] (.Call (.Attribute (.Name x p) "pop" apos) [] [] cpos) pos.line X.env = pure false := by rfl) (hw : swappedStores [tg] (.Call (.Attribute (.Name x p) "pop" apos) [] [] cpos) X.env = pure none := by rfl)
    (h1 : (assignEach [tg] X.env).map (·.2) = [assign tg X.env] := by rfl) :
    DS X W cl (.Assign [tg] (.Call (.Attribute (.Name x p) "pop" apos) [] [] cpos) pos) (tAsg (tBM0 X.K "list" rPop (tVar i)) g) (sPop i set) :=
  ⟨ps_asg (pe_bm0 PySem.F.plainAttrs_list PySem.F.slot_list_pop PySem.F.type_list_pop mt_pop (pe_var hN hv hd hcd) hbase hline) hg hs hw h1, ev_pop i ht⟩
def sPopAt (i : Nat) (set : PyData → Sl → Option Sl) (fk : Sl → Rs PyData) : Sl → Ot := fun ρ => match ρ[i]? with
  | some (some (.own xs)) => oBind ((fk ρ).bind asI) ρ fun k => (match (if 0 ≤ k ∧ k < 1000000 then xs[k.toNat]? else none) with
    | some d => (match set d (ρ.set i (some (.own (xs.eraseIdx k.toNat)))) with
      | some ρ' => .nx ρ'
      | none => .bad)
    | none => .bad)
  | _ => .bad
theorem ev_popAt {K : Frg} {is : List Nat} {g : TG} {set : PyData → Sl → Option Sl} {tk : TE} {fk : Sl → Rs PyData} (i : Nat) (hg : EvT Ds is g set) (hk : EvG pR W cl tk fk) : EvS W cl (tAsg (tBM K "list" rPopAt (tVar i) (tCons tk tNil)) g) (sPopAt i set fk) := fun B O0 O σ H ρ D I ok => by
  unfold sPopAt at ok
  split at ok
  · rename_i xs e
    obtain ⟨p, vs, hv, hO, hp, ha⟩ := I.ownAt e
    refine ⟨.ref p, hv, tyL hp, ?_⟩
    refine hk B O0 O σ H ρ _ I ?_
    revert ok
    cases fk ρ with
    | bad => exact fun z => z
    | err c p => exact fun ok d H' s eo => ok σ O H' d (I.mono s) (hid_same s) eo
    | ok x =>
      intro ok u H2 s2 p2
      have I2 := I.mono s2
      cases x with
      | int k =>
        have ok : OkS W cl B O0 O H (match (if 0 ≤ k ∧ k < 1000000 then xs[k.toNat]? else none) with
          | some d => (match set d (ρ.set i (some (.own (xs.eraseIdx k.toNat)))) with
            | some ρ' => .nx ρ'
            | none => .bad)
          | none => .bad) D := ok
        by_cases hk0 : 0 ≤ k ∧ k < 1000000
        · rw [if_pos hk0] at ok
          cases el : xs[k.toNat]? with
          | none => rw [el] at ok; exact False.elim ok
          | some d =>
            rw [el] at ok
            dsimp only at ok
            cases es : set d (ρ.set i (some (.own (xs.eraseIdx k.toNat)))) with
            | none => rw [es] at ok; exact False.elim ok
            | some ρ' =>
              rw [es] at ok
              obtain ⟨q, us, hv', hO', hq, ha'⟩ := I2.ownAt e
              rw [hv] at hv'; cases hv'
              obtain ⟨v, hv2, dv⟩ := dpAll_get ha' el
              have hlt := (List.getElem?_eq_some_iff.mp hv2).1
              have hix : ixN us.length k = some k.toNat := by
                unfold ixN
                rw [if_pos hk0.1, if_pos (by omega)]
              obtain ⟨J, sm⟩ := I2.mut e hv hq hO (dpAll_erase k.toNat ha')
              refine ⟨p, us, k, k.toNat, v, rfl, by rw [rd_int p2], hq, by omega, by omega, (ixN_seq hix).1, hv2, ?_⟩
              exact hg B O0 O σ _ _ ρ' v d _ J (dp_mono sm dv) es fun σ' I' _ => ok σ' O _ I' ((hid_same s2).trans sm)
        · rw [if_neg hk0] at ok; exact False.elim ok
      | _ => exact False.elim ok
  · exact False.elim ok
theorem ds_popAt {i : Nat} {is : List Nat} {x : Str} {tg k : Expr} {g : TG} {set : PyData → Sl → Option Sl} {tk : TE} {fk : Sl → Rs PyData} {p apos cpos pos : Pos} (hk : DX pR X W cl k tk fk) (hg : PG X tg g) (ht : EvT Ds is g set) (hN : X.N[i]? = some x := by rfl) (hv : Vis X.env.scope x := by first | exact Or.inl rfl | exact Or.inr (Or.inl rfl) | exact Or.inr (Or.inr rfl)) (hd : (x == ("__debug__" : Str)) = false := by decide)
    (hcd : (x == ("__classdict__" : Str)) = false := by decide) (hbase : attributeBase (.Name x p) "pop" X.env (eval (.Name x p) X.env) = eval (.Name x p) X.env := by rfl)
    (hfew : ((backTo cpos (starEach [k] X.env)).all (fun x => !x.1) && (backToKw cpos (keywordEach [] X.env)).all (fun x => x.1.isSome) && decide ([k].length + ([] : List Keyword).length + (if ([] : List Keyword).isEmpty then 0 else 1) < 30)) = true := by rfl)
    (hline : (apos.endLine == cpos.line) = true := by rfl) (h2 : starEach [k] X.env = (false, eval k X.env) :: starEach [] X.env := by rfl) (hpl : (backTo cpos (starEach [] X.env)).any (·.1) = false := by rfl)
    (hs : swapsWithSole [tg] (.Call (.Attribute (.Name x p) "pop" apos) [k] [] cpos) pos.line X.env = pure false := by rfl) (hw : swappedStores [tg] (.Call (.Attribute (.Name x p) "pop" apos) [k] [] cpos) X.env = pure none := by rfl)
    (h1 : (assignEach [tg] X.env).map (·.2) = [assign tg X.env] := by rfl) :
    DS X W cl (.Assign [tg] (.Call (.Attribute (.Name x p) "pop" apos) [k] [] cpos) pos) (tAsg (tBM X.K "list" rPopAt (tVar i) (tCons tk tNil)) g) (sPopAt i set fk) :=
  ⟨ps_asg (pe_bm PySem.F.plainAttrs_list PySem.F.slot_list_pop PySem.F.type_list_pop mt_popAt (pe_var hN hv hd hcd) (pa_cons hk.pe pa_nil h2) hbase hfew hline h2 hpl) hg hs hw h1, ev_popAt i ht hk.ev⟩
/-! ### t.count(x), t a tuple -/
def tCnt (to te : TE) : TE := fun σ H Q => to σ H fun x H1 => ∃ p vs, x = .ref p ∧ Tq H1 p vs ∧ te σ H1 fun y H2 => ∃ y', [y] = [y'] ∧ Tq H2 p vs ∧ vs.all flatV = true ∧ flatV y' = true ∧ Q (.int (vs.countP fun z => eqV z y' : Nat)) H2
theorem count_eqU {x : V} : ∀ {xs : List V} {us : List Value}, Vals xs us → xs.all flatV = true → us.countP (eqU x) = xs.countP fun y => eqV y x
  | _, _, .nil, _ => rfl
  | y :: ys, u :: us, .cons r t, f => by
    rw [List.all_cons, Bool.and_eq_true] at f
    rw [List.countP_cons, List.countP_cons, count_eqU t f.2, eqU_of r f.1]
theorem pe_tcount {o e : Expr} {to te : TE} {apos cpos : Pos} (ho : PE X o to) (he : PE X e te) (hbase : attributeBase o "count" X.env (eval o X.env) = eval o X.env := by rfl)
    (hfew : ((backTo cpos (starEach [e] X.env)).all (fun x => !x.1) && (backToKw cpos (keywordEach [] X.env)).all (fun x => x.1.isSome) && decide ([e].length + ([] : List Keyword).length + (if ([] : List Keyword).isEmpty then 0 else 1) < 30)) = true := by rfl)
    (hline : (apos.endLine == cpos.line) = true := by rfl) (hs : starEach [e] X.env = (false, eval e X.env) :: starEach [] X.env := by rfl) (hplain : (backTo cpos (starEach [] X.env)).any (·.1) = false := by rfl) :
    PE X (.Call (.Attribute o "count" apos) [e] [] cpos) (tCnt to te) := by
  refine ⟨fun pins s σ H Q I h => ?_⟩
  refine wpAny_Call_method_late hbase hfew hline rfl (thn (ho.run pins s σ H _ I h) fun v s1 ⟨x, H1, I1, r1, p, vs, ex, hp, q1⟩ => ?_)
  subst ex
  cases r1
  obtain ⟨ob, eo, hdn⟩ := hp
  obtain ⟨hg, _, its, rv, ⟨ob', ho', hc', n', hd'⟩⟩ := (show ObjOk X.prog X.w H1 s1.heap p (.frz ob (.tup vs)) from I1.hok p _ eo)
  rw [hg] at ho'
  cases ho'
  refine ⟨"tuple", "tuple.count", PySem.F.plainAttrs_tuple, PySem.F.slot_tuple_count, PySem.F.type_tuple_count, ⟨ob, hg, hc'⟩, fun a ea => ?_, ?_⟩
  · cases ea
    exact ⟨ob, hg, hdn⟩
  have ha : PA X [e] (tCons te tNil) := pa_cons he pa_nil hs
  have hA := ha.run cpos pins s1 σ H1 (fun ys H2 => ∃ y, ys = [y] ∧ Tq H2 p vs ∧ vs.all flatV = true ∧ flatV y = true ∧ Q (.int (vs.countP fun z => eqV z y : Nat)) H2) I1 q1
  rw [hs] at hA ⊢
  refine Calls.callWith_builtin (by show (false || (backTo cpos (starEach [] X.env)).any (·.1)) = false; rw [hplain] <;> rfl) (Calls.evalArgs_plain ?_)
  refine thn hA fun us s2 ⟨ys, H2, I2, r2, y, ey, hp2, f1, f2, q2⟩ => ?_
  subst ey
  obtain ⟨u, rfl, ru⟩ := vals1 r2
  obtain ⟨its2, rv2, ⟨⟨cls, dd, data, sl⟩, ho2, hc2, n2, hd2⟩, _⟩ := I2.tuple (sqT_tq (K := X.K) hp2)
  simp only at hc2 hd2
  subst hc2 hd2
  show wpAny _ _ (call (.builtin "tuple.count") [.ref p, u]) _ _ _
  refine call_meets PySem.F.slot_tuple_count ⟨_, ho2, rfl⟩ PySem.F.entry_tuple_count (PySem.F.args_tuple_count_2 _ _)
    (SeqAt.tuple_countAt p its2.toArray n2 dd sl u (eqU y)) ⟨ho2, fun z hz => mem_eqAt ru f2 rv2 f1 z (by simpa using hz), ?_⟩
  have ec : its2.toArray.toList.countP (eqU y) = vs.countP fun z => eqV z y := count_eqU rv2 f1
  refine ⟨.int (vs.countP fun z => eqV z y : Nat), H2, I2.tok _, ⟨s2.toks, ?_⟩, q2⟩
  show Value.int ((its2.toArray.toList.countP (eqU y) : Nat) : Int) s2.toks = _
  rw [ec]
def pCnt (r : Rs PyData) : PyData → Rs PyData
  | .tuple ds => r.bind fun y => if flatD y = true ∧ ds.all flatD = true then .ok (.int (ds.countP fun z => PyData.eqv z y : Nat)) else .bad
  | _ => .bad
def gCnt (fo fe : Sl → Rs PyData) : Sl → Rs PyData := fun ρ => (fo ρ).bind (pCnt (fe ρ))
theorem cnt_dq {H : Hp} {u : V} {e : PyData} (k : Dq H u e) (g : flatD e = true) : ∀ {vs : List V} {ds : List PyData}, DqAll H vs ds → ds.all flatD = true → vs.all flatV = true ∧ (vs.countP fun z => eqV z u) = ds.countP (fun z => PyData.eqv z e)
  | _, _, .nil, _ => ⟨rfl, rfl⟩
  | v :: vs, d :: ds, .cons h t, f => by
    rw [List.all_cons, Bool.and_eq_true] at f
    obtain ⟨a, b⟩ := cnt_dq k g t f.2
    refine ⟨by rw [List.all_cons, flat_dq h f.1, a]; rfl, ?_⟩
    rw [List.countP_cons, List.countP_cons, b, eqV_dq h k f.1 g]
theorem d_tcount {o e : Expr} {to te : TE} {fo fe : Sl → Rs PyData} {apos cpos : Pos} (ho : DX pD X W cl o to fo) (he : DX pR X W cl e te fe) (hbase : attributeBase o "count" X.env (eval o X.env) = eval o X.env := by rfl)
    (hfew : ((backTo cpos (starEach [e] X.env)).all (fun x => !x.1) && (backToKw cpos (keywordEach [] X.env)).all (fun x => x.1.isSome) && decide ([e].length + ([] : List Keyword).length + (if ([] : List Keyword).isEmpty then 0 else 1) < 30)) = true := by rfl)
    (hline : (apos.endLine == cpos.line) = true := by rfl) (hs : starEach [e] X.env = (false, eval e X.env) :: starEach [] X.env := by rfl) (hplain : (backTo cpos (starEach [] X.env)).any (·.1) = false := by rfl) :
    DX pF X W cl (.Call (.Attribute o "count" apos) [e] [] cpos) (tCnt to te) (gCnt fo fe) := ⟨pe_tcount ho.pe he.pe hbase hfew hline hs hplain, fun B O0 O σ H ρ Q I ok =>
  ho.ev.go mF I ok fun x v H1 _ s1 I1 p1 ok1 => by
    cases x with
    | tuple ds =>
      cases p1 with
      | tup hp ha =>
        refine ⟨_, _, rfl, tq_mono hid_le hp, ?_⟩
        refine he.ev.go mF I1 ok1 fun y u H2 _ s2 I2 p2 ok2 => ?_
        obtain ⟨⟨h1, h2⟩, ok2⟩ := okG_if ok2
        obtain ⟨a, b⟩ := cnt_dq p2.dq h1 (dpAll_mono (hid_le.trans s2) ha) h2
        refine ⟨u, rfl, tq_mono (hid_le.trans s2) hp, a, flat_dq p2.dq h1, ?_⟩
        rw [b]
        exact ok2 _ H2 (Same.refl _) ⟨.int _, fun _ z => nomatch z⟩
    | _ => exact False.elim ok1⟩
end
section
variable {P : Program} {w : World} {K : Frg} {mg : Str → Option Value} {base : Heap} {cl : Nat → Addr}
/-- a def of the text -/
theorem fnD {x qual : Str} {params : Arguments} {body : List Stmt} {scope : Scope} {f : Addr} {fd : FuncData} {N ps : List Str} {k : Nat} {h : Sl → Ot} (F : FunD K x qual params body scope [] [] f fd) (S : FnScope N ps scope)
    (D : ∀ (cdv : Value) (A : Around) (outer : List Env) (s : Shared) (H : Hp) (E : XK), Room k (A.deeper (envOfC qual scope s.heap.objs.size f cdv)) →
      ∃ t, DSs (cxOf (L2.CX P w) P w K mg base N qual scope f cdv A outer s H E) (fun cls d _ H' => E cls d H') cl body t h) : FnOk P w K mg base (L2.CX P w) (k + 1) f fd ps (FnSp cl (fnM ps.length N.length h)) :=
  F.ok S (fun vs H Q E => fn_len (N := N)) fun cdv A outer s H vs Q E hr hsp => by
    obtain ⟨t, d⟩ := D cdv A outer s H E hr
    exact ⟨t, d.pss, fn_body hsp d.ev⟩
end
end SB

namespace SB
open PySem PySem.Spec PyProof.Rows L2 RZ
/-! ### try with several clauses, each with or without a name -/
abbrev HTs := Value × Option Nat × (Addr → Value → Option Addr → TS)
def endN (i : Nat) (D : Ends) : Ends := { nx := fun σ' H' => D.nx (σ'.set i none) H', rt := D.rt, bk := fun σ' H' => D.bk (σ'.set i none) H', ct := fun σ' H' => D.ct (σ'.set i none) H' }
def wAll (K : Frg) (Wout : L2.WX) (D : Ends) : List HTs → L2.WX
  | [] => Wout
  | (c, none, ts) :: r => fun cls d σ H => ∃ b, PySem.W.exmOne K cls c = some b ∧ (b = true → ∀ a, H a = none → ts a cls d D σ H) ∧ (b = false → wAll K Wout D r cls d σ H)
  | (c, some i, ts) :: r => fun cls d σ H => ∃ b, PySem.W.exmOne K cls c = some b ∧ (b = true → ∀ a, H a = none → ts a cls d (endN i D) (σ.set i (some (.ref a))) H) ∧ (b = false → wAll K Wout D r cls d σ H)
inductive HdsA (X : Cx) : List ExceptHandler → List HTs → Prop
  | nil : HdsA X [] []
  | cons {x : Str} {c : Value} {ts : Addr → Value → Option Addr → TS} {b₀ : Stmt} {suite : List Stmt} {np pos' : Pos} {hds : List ExceptHandler} {l : List HTs} (hc : Names X x c)
      (hsu : ∀ (a : Addr) (oe : Obj) (cls : Value) (d : Option Addr) (pn : List (Addr × Obj)), Zc cls d oe → (∃ vs, oe.data = .fields vs) → PSs (X.suite a ((a, oe) :: pn)) (b₀ :: suite) (ts a cls d)) (r : HdsA X hds l) :
      HdsA X (.ExceptHandler (some (.Name x np)) none (b₀ :: suite) pos' :: hds) ((c, none, ts) :: l)
  | as {x n : Str} {i : Nat} {c : Value} {ts : Addr → Value → Option Addr → TS} {b₀ : Stmt} {suite : List Stmt} {np pos' : Pos} {hds : List ExceptHandler} {l : List HTs} (hc : Names X x c) (hN : X.N.Nodup) (hi : X.N[i]? = some n) (hln : X.env.kindOf n = some .local)
      (hsu : ∀ (a : Addr) (oe : Obj) (cls : Value) (d : Option Addr) (pn : List (Addr × Obj)), Zc cls d oe → (∃ vs, oe.data = .fields vs) → PSs (X.suite a ((a, oe) :: pn)) (b₀ :: suite) (ts a cls d)) (r : HdsA X hds l) :
      HdsA X (.ExceptHandler (some (.Name x np)) (some n) (b₀ :: suite) pos' :: hds) ((c, some i, ts) :: l)
section
variable {X : Cx} {body : List Stmt} {h₀ : ExceptHandler} {hds : List ExceptHandler} {l : List HTs} {pos : Pos} {tb : L2.WX → TS} {Wout : L2.WX}
theorem ps_try_all (hs : X.stack = X.env :: X.outer) (hf : X.env.frame = some X.env.locals) (tk : Takes X Wout)
    (hb : ∀ (W : L2.WX) (pn : List (Addr × Obj)) (xe : Value → Shared → Prop), Takes (X.tr pn xe) W → PassesOwn (model X.prog X.w) X.A X.env xe → PSs (X.tr pn xe) body (tb W))
    (hh : HdsA X (h₀ :: hds) l) : PS X (.Try body (h₀ :: hds) [] [] pos) (fun D σ H => tb (wAll X.K Wout D l) D σ H) := by
  refine ⟨fun pins s σ H D I h => ?_⟩
  have ok := I.ok
  have hfr : X.A.frames = some (X.env :: X.outer) := by rw [ok.frames, hs]
  refine wpAny_Try_except ?_
  refine wpAny_mono ((hb (wAll X.K Wout D l) (X.pn ++ pins) (fun e s₁ => wpAny (model X.prog X.w) X.A (noteFrame e X.env) (fun _ s₂ => wpAny (model X.prog X.w) X.A (setFlight e none) (fun _ s₃ =>
    wpAny (model X.prog X.w) X.A (handleBy e X.env (h₀ :: hds)) (SP X pins D) X.xe s₃) X.xe s₂) X.xe s₁) (fun u s' xx => ?_) PassesOwn.looking).run [] s σ H D (I.toTry _) h) (fun f s1 hsp => ?_) (fun e s1 he => he)
  · obtain ⟨a, B, sI, pins', σ', H', cls, d, rfl, J', nb, up, sky, na, os, ag, w⟩ := xx
    have J : Inv X pins σ' H' sI := J'.ofTry ok
    have sky' : Sky B (X.env :: X.outer) a (Zc cls d) X.env.locals s'.heap := by rw [← hs]; exact sky
    show wpAny (model X.prog X.w) X.A (noteFrame (.ref a) X.env) _ _ _
    refine Sky.land Zc.steady hfr hf sky' fun h3 fl3 up3 => ?_
    have J3 : Inv X pins σ' H' { s' with heap := h3 } := J.landed nb fl3.1 (up.trans up3) os ag
    obtain ⟨oe3, vs3, he3, hz3, hd3⟩ := fl3.there
    have notFr : ∀ {h : Heap} {o : Obj} {vs : Array Value}, h.FunFrames B (X.env :: X.outer) → h.get? a = some o → o.data = .fields vs → a ∉ frs (X.env :: X.outer) := fun {h o vs} ff e dd hm => by
      obtain ⟨_, o', e', hnf⟩ := ff.mem hm
      rw [e] at e'; cases e'
      exact hnf _ dd
    have nfr := notFr fl3.2.2.1 he3 hd3
    have nL : a ≠ X.env.locals := fun z => nfr (List.mem_filterMap.mpr ⟨X.env, List.mem_cons_self, by rw [hf, z]⟩)
    have nF : a ∉ X.fs := fun hm => by
      obtain ⟨e, he, q⟩ := List.mem_filterMap.mp hm
      exact nfr (List.mem_filterMap.mpr ⟨e, List.mem_cons_of_mem _ he, q⟩)
    have S3 := J3.suite he3 hd3 na nL nF
    have LT : PySem.W.Looks (model X.prog X.w) h3 (typeOf (.ref a)) cls := fun A Q E s k q => wpAny_typeOf_ref (k _ _ he3) (by rw [hz3.1]; exact q)
    have go : ∀ {hds' : List ExceptHandler} {l' : List HTs}, HdsA X hds' l' → wAll X.K Wout D l' cls d σ' H' →
        wpAny (model X.prog X.w) X.A (handleBy (.ref a) X.env hds') (SP X pins D) X.xe { s' with heap := h3 } := by
      intro hds' l' hk
      induction hk with
      | nil =>
        intro w
        refine wpAny_handleBy_nil ?_
        obtain ⟨k1, k2, k3, oe, vs, T, oT, ts', he, hz, hd, h1, hr⟩ := id fl3
        unfold PySem.passOn
        refine wpAny_bind (wpAny_field he hd h1 ?_)
        rw [if_neg (show ¬ ((Value.ref T == Value.none) = true) from by simp)]
        have fin : wpAny (model X.prog X.w) X.A (setFlight (.ref a) X.env.frame) (fun _ s4 => wpAny (model X.prog X.w) X.A (throw (.ref a) : Sem Flow) (SP X pins D) X.xe s4) X.xe { s' with heap := h3 } := by
          rw [hf]
          refine HandSPX.setFlight_upZ fl3 fun h4 hh4 up4 => wpAny_throw (tk _ _ ?_)
          exact ⟨a, B, sI, pins, σ', H', cls, d, rfl, J, nb, (up.trans up3).trans up4, .inr (.inr (by rw [hs]; exact hh4)), na, os, ag, w⟩
        first
          | exact wpAny_bind (wpAny_pure (wpAny_bind fin))
          | exact wpAny_bind fin
      | @cons x c ts b₀ suite np pos' hds2 l2 hc hsu r ih =>
        intro w
        obtain ⟨b, hb1, hyes, hno⟩ := w
        refine wpAny_handleBy_cons (codeAny_handlers_test ?_) (by intro q; cases q)
        have LM := PySem.W.exm_one (M := model X.prog X.w) (J3.kIn) LT hb1
        have test : ∀ {Q : Value → Shared → Prop} {E : Value → Shared → Prop}, Q c { s' with heap := h3 } → wpAny (model X.prog X.w) (X.A.mark (some (.ref a))) (eval (.Name x np) X.env) Q E { s' with heap := h3 } := fun {Q E} q => by
          obtain ⟨hg, hdbg, hm | ⟨hm, hv, hnn⟩⟩ := hc
          · exact ld_glob (X := X.suite a ((a, oe3) :: (X.pn ++ pins))) S3 hg hm q hdbg
          · exact ld_blt (X := X.suite a ((a, oe3) :: (X.pn ++ pins))) S3 hg hm hv q hnn hdbg
        refine test (LM.here ?_)
        cases b with
        | true =>
          refine codeAny_handlers_suite ?_
          refine HandSPX.lands_againZ fl3 fun h4 fl4 up4 => ?_
          have J4 : Inv X pins σ' H' { s' with heap := h4 } := J.landed nb fl4.1 ((up.trans up3).trans up4) os ag
          obtain ⟨oe4, vs4, he4, hz4, hd4⟩ := fl4.there
          have S4 := J4.suite he4 hd4 na nL nF
          refine wpAny_mono ((hsu a oe4 cls d (X.pn ++ pins) hz4 ⟨_, hd4⟩).run [] _ _ H' _ S4 (hyes rfl a na)) (fun f s6 hsp => ?_) (fun _ _ z => False.elim z)
          cases f with
          | next =>
            obtain ⟨σ6, H6, S6, q6⟩ := hsp
            exact ⟨_, _, S6.unsuite ok, q6⟩
          | brk =>
            obtain ⟨σ6, H6, S6, q6⟩ := hsp
            exact ⟨_, _, S6.unsuite ok, q6⟩
          | cont =>
            obtain ⟨σ6, H6, S6, q6⟩ := hsp
            exact ⟨_, _, S6.unsuite ok, q6⟩
          | ret u =>
            obtain ⟨v6, σ6, H6, S6, r6, q6⟩ := hsp
            exact ⟨_, _, _, S6.unsuite ok, r6, q6⟩
        | false =>
          show wpAny _ X.A (handleBy (.ref a) X.env hds2) _ _ _
          exact ih (hno rfl)
      | @as x n i c ts b₀ suite np pos' hds2 l2 hc hN hi hln hsu r ih =>
        intro w
        obtain ⟨b, hb1, hyes, hno⟩ := w
        have hloc : Loc X.env.scope n := .inl hln
        refine wpAny_handleBy_cons (codeAny_handlers_test ?_) (by intro q; cases q)
        have LM := PySem.W.exm_one (M := model X.prog X.w) (J3.kIn) LT hb1
        have test : ∀ {Q : Value → Shared → Prop} {E : Value → Shared → Prop}, Q c { s' with heap := h3 } → wpAny (model X.prog X.w) (X.A.mark (some (.ref a))) (eval (.Name x np) X.env) Q E { s' with heap := h3 } := fun {Q E} q => by
          obtain ⟨hg, hdbg, hm | ⟨hm, hv, hnn⟩⟩ := hc
          · exact ld_glob (X := X.suite a ((a, oe3) :: (X.pn ++ pins))) S3 hg hm q hdbg
          · exact ld_blt (X := X.suite a ((a, oe3) :: (X.pn ++ pins))) S3 hg hm hv q hnn hdbg
        refine test (LM.here ?_)
        cases b with
        | true =>
          refine codeAny_handlers_suite_as ?_
          refine HandSPX.lands_againZ fl3 fun h4 fl4 up4 => ?_
          have J4 : Inv X pins σ' H' { s' with heap := h4 } := J.landed nb fl4.1 ((up.trans up3).trans up4) os ag
          obtain ⟨oe4, vs4, he4, hz4, hd4⟩ := fl4.there
          have S4 := J4.suite he4 hd4 na nL nF
          refine store_ok (X := X.suite a ((a, oe4) :: (X.pn ++ pins))) (v := .ref a) S4 hN hi hloc rfl (fun s5 S5 => ?_) (.inr hln)
          refine wpAny_mono ((hsu a oe4 cls d (X.pn ++ pins) hz4 ⟨_, hd4⟩).run [] s5 _ H' _ S5 (hyes rfl a na)) (fun f s6 hsp => ?_) (fun _ _ z => False.elim z)
          have end_ : ∀ {σ6 : L2.St} {H6 : Hp} {Q : Shared → Prop}, Inv (X.suite a ((a, oe4) :: (X.pn ++ pins))) [] σ6 H6 s6 → (∀ s7, Inv X pins (σ6.set i none) H6 s7 → Q s7) →
              wpAny (model X.prog X.w) X.A (do bindName X.env n .none; unbindBehindTheSuite X.env n pos') (fun _ s7 => Q s7) X.xe s6 := fun {σ6 H6 Q} S6 hq => gone_ok (S6.unsuite ok) hN hi hln hq
          cases f with
          | next =>
            obtain ⟨σ6, H6, S6, q6⟩ := hsp
            exact end_ S6 fun s7 J7 => ⟨_, _, J7, q6⟩
          | brk =>
            obtain ⟨σ6, H6, S6, q6⟩ := hsp
            exact end_ S6 fun s7 J7 => ⟨_, _, J7, q6⟩
          | cont =>
            obtain ⟨σ6, H6, S6, q6⟩ := hsp
            exact end_ S6 fun s7 J7 => ⟨_, _, J7, q6⟩
          | ret u =>
            obtain ⟨v6, σ6, H6, S6, r6, q6⟩ := hsp
            exact end_ S6 fun s7 J7 => ⟨_, _, _, J7, r6, q6⟩
        | false =>
          show wpAny _ X.A (handleBy (.ref a) X.env hds2) _ _ _
          exact ih (hno rfl)
    exact go hh w
  · cases f with
    | next =>
      obtain ⟨σ', H', J', q⟩ := hsp
      exact wpAny_execs_nil ⟨σ', H', J'.ofTry ok, q⟩
    | brk =>
      obtain ⟨σ', H', J', q⟩ := hsp
      exact ⟨σ', H', J'.ofTry ok, q⟩
    | cont =>
      obtain ⟨σ', H', J', q⟩ := hsp
      exact ⟨σ', H', J'.ofTry ok, q⟩
    | ret u =>
      obtain ⟨v, σ', H', J', r, q⟩ := hsp
      exact ⟨v, σ', H', J'.ofTry ok, r, q⟩
end
end SB

namespace SB
open PySem PySem.Spec PyProof.Rows L2 RZ
/-! ### try, by data -/
def subX (c k : Nat) : Bool := c == k || k == 0
/-- what the written part says of the classes of errors -/
structure XF (K : Frg) (cl : Nat → Addr) (kn : Nat → Bool) : Prop where
  exc : ∀ c, kn c = true → ExcC K (cl c)
  kit : ∀ c k, kn c = true → kn k = true → PySem.W.kitOne K (.ref (cl c)) (.ref (cl k)) = some (subX c k)
  exm : ∀ c k, kn c = true → kn k = true → PySem.W.exmOne K (.ref (cl c)) (.ref (cl k)) = some (subX c k)
abbrev Sd := Nat → Option PyData → Sl → Ot
abbrev HD := Nat × Option Nat × Sd
def oUn (i : Nat) : Ot → Ot
  | .nx ρ => .nx (ρ.set i none)
  | o => o
inductive HEv (cl : Nat → Addr) (kn : Nat → Bool) : HTs → HD → Prop
  | no {k : Nat} {ts : Addr → Value → Option Addr → TS} {s : Sd} (hk : kn k = true)
      (run : ∀ (c : Nat) (p : Option PyData) (a : Addr) (d : Option Addr) (B : Hp) (O0 O : List Addr) (σ : L2.St) (H : Hp) (ρ : Sl) (D : Ends), kn c = true → Rp B O0 O σ H ρ → EO O H p d → H a = none → OkS W0 cl B O0 O H (s c p ρ) D → ts a (.ref (cl c)) d D σ H) :
      HEv cl kn (.ref (cl k), none, ts) (k, none, s)
  | as {k i : Nat} {ts : Addr → Value → Option Addr → TS} {s : Sd} (hk : kn k = true)
      (run : ∀ (c : Nat) (p : Option PyData) (a : Addr) (d : Option Addr) (B : Hp) (O0 O : List Addr) (σ : L2.St) (H : Hp) (ρ : Sl) (D : Ends), kn c = true → i < σ.length → Rp B O0 O σ H ρ → EO O H p d → H a = none → OkS W0 cl B O0 O H (oUn i (s c p (ρ.set i none))) D → ts a (.ref (cl c)) d (endN i D) (σ.set i (some (.ref a))) H) :
      HEv cl kn (.ref (cl k), some i, ts) (k, some i, s)
inductive HEvs (cl : Nat → Addr) (kn : Nat → Bool) (n : Nat) : List HTs → List HD → Prop
  | nil : HEvs cl kn n [] []
  | cons {t : HTs} {h : HD} {l : List HTs} {r : List HD} (a : HEv cl kn t h) (hn : ∀ i, t.2.1 = some i → i < n) (b : HEvs cl kn n l r) : HEvs cl kn n (t :: l) (h :: r)
theorem OkS.w0 {W : L2.WX} {cl : Nat → Addr} {B : Hp} {O0 O : List Addr} {H : Hp} {o : Ot} {D : Ends} (hn : ∀ c p ρ, o ≠ .er c p ρ) (h : OkS W cl B O0 O H o D) : OkS W0 cl B O0 O H o D := by
  cases o with
  | bad => exact h
  | nx ρ => exact h
  | rt d => exact h
  | er c p ρ => exact absurd rfl (hn c p ρ)
/-- an except suite that lets nothing out -/
def noEr : Ot → Ot
  | .er _ _ _ => .bad
  | o => o
theorem OkS.noEr {W : L2.WX} {cl : Nat → Addr} {B : Hp} {O0 O : List Addr} {H : Hp} {o : Ot} {D : Ends} (h : OkS W cl B O0 O H (SB.noEr o) D) : OkS W0 cl B O0 O H o D := by
  cases o with
  | bad => exact h
  | nx ρ => exact h
  | rt d => exact h
  | er c p ρ => exact False.elim h
def runN (c : Nat) (p : Option PyData) (ρ : Sl) : List HD → Ot
  | [] => .er c p ρ
  | (k, none, s) :: r => if subX c k = true then noEr (s c p ρ) else runN c p ρ r
  | (k, some i, s) :: r => if subX c k = true then noEr (oUn i (s c p (ρ.set i none))) else runN c p ρ r
def sTryN (kn : Nat → Bool) (n : Nat) (h : Sl → Ot) (hs : List HD) : Sl → Ot := fun ρ => match h ρ with
  | .er c p ρ' => if kn c = true ∧ ρ'.length = n then runN c p ρ' hs else .bad
  | o => o
theorem wAll_run {K : Frg} {W : L2.WX} {cl : Nat → Addr} {kn : Nat → Bool} (F : XF K cl kn) {B : Hp} {O0 O' : List Addr} {σ' : L2.St} {H' : Hp} {ρ' : Sl} {D : Ends} {c : Nat} {p : Option PyData} {d : Option Addr} (hk : kn c = true) (I' : Rp B O0 O' σ' H' ρ') (eo : EO O' H' p d) {n : Nat} (hsl : σ'.length = n) :
    ∀ {l : List HTs} {hs : List HD}, HEvs cl kn n l hs → OkS W cl B O0 O' H' (runN c p ρ' hs) D → wAll K W D l (.ref (cl c)) d σ' H' := by
  intro l hs he
  induction he with
  | nil => exact fun ok => ok σ' O' H' d I' (Same.refl _) eo
  | @cons t x l r a hi b ih =>
    intro ok
    cases a with
    | @no k ts s hk2 run =>
      refine ⟨subX c k, F.exm c k hk hk2, fun hb a na => ?_, fun hb => ?_⟩
      · have ok : OkS W cl B O0 O' H' (if subX c k = true then noEr (s c p ρ') else runN c p ρ' r) D := ok
        rw [if_pos hb] at ok
        exact run c p a d B O0 O' σ' H' ρ' D hk I' eo na (OkS.noEr ok)
      · have ok : OkS W cl B O0 O' H' (if subX c k = true then noEr (s c p ρ') else runN c p ρ' r) D := ok
        rw [hb, if_neg Bool.false_ne_true] at ok
        exact ih ok
    | @as k i ts s hk2 run =>
      refine ⟨subX c k, F.exm c k hk hk2, fun hb a na => ?_, fun hb => ?_⟩
      · have ok : OkS W cl B O0 O' H' (if subX c k = true then noEr (oUn i (s c p (ρ'.set i none))) else runN c p ρ' r) D := ok
        rw [if_pos hb] at ok
        exact run c p a d B O0 O' σ' H' ρ' D hk (by rw [hsl]; exact hi i rfl) I' eo na (OkS.noEr ok)
      · have ok : OkS W cl B O0 O' H' (if subX c k = true then noEr (oUn i (s c p (ρ'.set i none))) else runN c p ρ' r) D := ok
        rw [hb, if_neg Bool.false_ne_true] at ok
        exact ih ok
theorem ev_try {K : Frg} {W : L2.WX} {cl : Nat → Addr} {kn : Nat → Bool} {tb : L2.WX → TS} {h : Sl → Ot} {n : Nat} {l : List HTs} {hs : List HD} (F : XF K cl kn) (hb : ∀ W', EvS W' cl (tb W') h) (he : HEvs cl kn n l hs) :
    EvS W cl (fun D σ H => tb (wAll K W D l) D σ H) (sTryN kn n h hs) := fun B O0 O σ H ρ D I ok => by
  refine hb (wAll K W D l) B O0 O σ H ρ D I ?_
  unfold sTryN at ok
  cases e : h ρ with
  | bad => rw [e] at ok; exact ok
  | nx ρ' => rw [e] at ok; exact ok
  | rt d => rw [e] at ok; exact ok
  | er c p ρ' =>
    rw [e] at ok
    obtain ⟨⟨hk, hl⟩, ok⟩ := okS_if ok
    exact fun σ' O' H' d I' sm eo => wAll_run F hk I' eo (by rw [I'.len]; exact hl) he (OkS.mono sm ok)
/-- there is a place for a try's body -/
theorem try_place {X : Cx} (hs : X.stack = X.env :: X.outer) (hf : X.env.frame = some X.env.locals) (W : L2.WX) : ∃ xe : Value → Shared → Prop, Takes (X.tr [] xe) W ∧ PassesOwn (model X.prog X.w) X.A X.env xe := by
  refine ⟨fun e s₁ => wpAny (model X.prog X.w) X.A (noteFrame e X.env) (fun _ s₂ => wpAny (model X.prog X.w) X.A (setFlight e none) (fun _ _ => True) (fun _ _ => True) s₂) (fun _ _ => True) s₁, fun u s' xx => ?_, PassesOwn.looking⟩
  obtain ⟨a, B, sI, pins', σ', H', cls, d, rfl, J', nb, up, sky, na, os, ag, w⟩ := xx
  have hfr : X.A.frames = some (X.env :: X.outer) := by
    have := J'.ok.frames
    rw [← hs]
    exact this
  have sky' : Sky B (X.env :: X.outer) a (Zc cls d) X.env.locals s'.heap := by rw [← hs]; exact sky
  exact Sky.land Zc.steady hfr hf sky' fun _ _ _ => trivial
section
variable {X : Cx} {W : L2.WX} {cl : Nat → Addr} {kn : Nat → Bool}
theorem ds_try {body : List Stmt} {h₀ : ExceptHandler} {hds : List ExceptHandler} {l : List HTs} {hd : List HD} {pos : Pos} {tb : L2.WX → TS} {h : Sl → Ot} (F : XF X.K cl kn) (hs : X.stack = X.env :: X.outer) (hf : X.env.frame = some X.env.locals) (tk : Takes X W)
    (hb : ∀ (W' : L2.WX) (pn : List (Addr × Obj)) (xe : Value → Shared → Prop), Takes (X.tr pn xe) W' → PassesOwn (model X.prog X.w) X.A X.env xe → DSs (X.tr pn xe) W' cl body (tb W') h)
    (hh : HdsA X (h₀ :: hds) l) (he : HEvs cl kn X.N.length l hd) : DS X W cl (.Try body (h₀ :: hds) [] [] pos) (fun D σ H => tb (wAll X.K W D l) D σ H) (sTryN kn X.N.length h hd) :=
  ⟨ps_try_all hs hf tk (fun W' pn xe a b => (hb W' pn xe a b).pss) hh, ev_try F (fun W' => by
    obtain ⟨xe, a, b⟩ := try_place hs hf W'
    exact (hb W' [] xe a b).ev) he⟩
/-! #### isinstance(e, C) of the error that the suite holds -/
def tIsE (K : Frg) (i : Nat) (a : Addr) (cls : Value) (d : Option Addr) (C : Addr) : TE := fun σ H Q => σ[i]? = some (some (.ref a)) ∧ ∃ D b, cls = .ref D ∧ d = none ∧ ExcC K D ∧ PySem.W.kitOne K (.ref D) (.ref C) = some b ∧ Q (.bl b) H
theorem pe_isE {i : Nat} {n x : Str} {a C : Addr} {oe : Obj} {cls : Value} {d : Option Addr} {pn : List (Addr × Obj)} {p q r pos : Pos} (hz : Zc cls d oe) (hf : ∃ vs, oe.data = .fields vs) (hg : Gl X "isinstance") (hm : X.mg "isinstance" = none) (hgC : Gl X x) (hmC : X.mg x = some (.ref C))
    (hN : X.N[i]? = some n := by rfl) (hv : Vis X.env.scope n := by first | exact Or.inl rfl | exact Or.inr (Or.inl rfl) | exact Or.inr (Or.inr rfl)) (hd : (n == ("__debug__" : Str)) = false := by decide) (hcd : (n == ("__classdict__" : Str)) = false := by decide) (hdx : (x == ("__debug__" : Str)) = false := by decide)
    (h1 : starEach [.Name n q, .Name x r] X.env = (false, eval (.Name n q) X.env) :: starEach [.Name x r] X.env := by rfl) (h2 : starEach [.Name x r] X.env = (false, eval (.Name x r) X.env) :: starEach [] X.env := by rfl) (h3 : (backTo pos (starEach [.Name x r] X.env)).any (·.1) = false := by rfl) :
    PE (X.suite a ((a, oe) :: pn)) (.Call (.Name "isinstance" p) [.Name n q, .Name x r] [] pos) (tIsE X.K i a cls d C) := by
  refine ⟨fun pins s σ H Q I h => ?_⟩
  obtain ⟨hi, D, b, rfl, rfl, hx, hk, hq⟩ := h
  have pe : PE (X.suite a ((a, oe) :: pn)) (.Call (.Name "isinstance" p) [.Name n q, .Name x r] [] pos) (tCB (rIsE X.K D a) (tCons (tVar i) (tCons (tC (.ref C)) tNil))) :=
    pe_callB (call_isE hx hz hf) hg hm (by decide +kernel) (pa_cons (pe_var hN hv hd hcd) (pa_cons (pe_glob hgC hmC rfl hdx) pa_nil h2) h1) (by decide) (by decide) h1 h3
  exact pe.run pins s σ H Q I ⟨.ref a, hi, .ref C, .ref C, b, rfl, fun u ru => ru, hk, hq⟩
theorem isE_ok {K : Frg} (F : XF K cl kn) {i : Nat} {a : Addr} {c k : Nat} {σ : L2.St} {H : Hp} {Q : VK} (hc : kn c = true) (hk : kn k = true) (hi : σ[i]? = some (some (.ref a))) (q : Q (.bl (subX c k)) H) : tIsE K i a (.ref (cl c)) none (cl k) σ H Q :=
  ⟨hi, cl c, subX c k, rfl, rfl, F.exc c hc, F.kit c k hc hk, q⟩
/-- return A if isinstance(e, C) and not isinstance(e, D) else B -/
def tSuite2 (K : Frg) (i : Nat) (C D : Addr) (va vb : V) : Addr → Value → Option Addr → TS := fun a cls d => tRet (tIf (tAnd (tB (tIsE K i a cls d C)) (tNot (tB (tIsE K i a cls d D)))) (tC va) (tC vb))
def sdR2 (C D : Nat) (da db : PyData) : Sd := fun c p _ => match p with
  | none => .rt (if (subX c C && !subX c D) = true then da else db)
  | some _ => .bad
theorem hev_2 {K : Frg} (F : XF K cl kn) {k i C D : Nat} {va vb : V} {da db : PyData} (hk : kn k = true) (hC : kn C = true) (hD : kn D = true) (ha : ∀ H, Dq H va da) (hb : ∀ H, Dq H vb db) (na : ∀ ds, da ≠ .list ds) (nb : ∀ ds, db ≠ .list ds) :
    HEv cl kn (.ref (cl k), some i, tSuite2 K i (cl C) (cl D) va vb) (k, some i, sdR2 C D da db) := by
  refine .as hk fun c p a d B O0 O σ H ρ E hc hl I eo na' ok => ?_
  cases p with
  | some x => exact False.elim ok
  | none =>
    cases eo
    have hi : (σ.set i (some (V.ref a)))[i]? = some (some (.ref a)) := List.getElem?_set_self hl
    unfold tSuite2 tRet tIf tAnd tB tNot
    refine isE_ok F hc hC hi ?_
    refine ⟨_, rfl, ?_⟩
    have ok : ∀ v H', Same B H' → pF O0 B H' v (if (subX c C && !subX c D) = true then da else db) → E.rt v H' := ok
    cases e1 : subX c C with
    | false =>
      rw [e1] at ok
      show E.rt vb H
      exact ok vb H I.ex ⟨hb _, fun ds e => (nb ds e).elim⟩
    | true =>
      rw [e1] at ok
      dsimp only
      rw [if_pos rfl]
      refine isE_ok F hc hD hi ?_
      refine ⟨_, rfl, ?_⟩
      cases e2 : subX c D with
      | true =>
        rw [e2] at ok
        show E.rt vb H
        exact ok vb H I.ex ⟨hb _, fun ds e => (nb ds e).elim⟩
      | false =>
        rw [e2] at ok
        show E.rt va H
        exact ok va H I.ex ⟨ha _, fun ds e => (na ds e).elim⟩
theorem ps_suite2 {i : Nat} {n x y : Str} {a C D : Addr} {oe : Obj} {cls : Value} {d : Option Addr} {pn : List (Addr × Obj)} {p p' q q' r r' pos pos' bp np ip rp : Pos} {za zb : Str} {ja jb : Nat} {pa pb : Pos} (hz : Zc cls d oe) (hf : ∃ vs, oe.data = .fields vs) (hg : Gl X "isinstance") (hm : X.mg "isinstance" = none) (hgC : Gl X x) (hmC : X.mg x = some (.ref C)) (hgD : Gl X y) (hmD : X.mg y = some (.ref D))
    (hN : X.N[i]? = some n := by rfl) (hv : Vis X.env.scope n := by first | exact Or.inl rfl | exact Or.inr (Or.inl rfl) | exact Or.inr (Or.inr rfl)) (hd : (n == ("__debug__" : Str)) = false := by decide) (hcd : (n == ("__classdict__" : Str)) = false := by decide) (hdx : (x == ("__debug__" : Str)) = false := by decide) (hdy : (y == ("__debug__" : Str)) = false := by decide)
    (h1 : starEach [.Name n q, .Name x r] X.env = (false, eval (.Name n q) X.env) :: starEach [.Name x r] X.env := by rfl) (h2 : starEach [.Name x r] X.env = (false, eval (.Name x r) X.env) :: starEach [] X.env := by rfl) (h3 : (backTo pos (starEach [.Name x r] X.env)).any (·.1) = false := by rfl)
    (k1 : starEach [.Name n q', .Name y r'] X.env = (false, eval (.Name n q') X.env) :: starEach [.Name y r'] X.env := by rfl) (k2 : starEach [.Name y r'] X.env = (false, eval (.Name y r') X.env) :: starEach [] X.env := by rfl) (k3 : (backTo pos' (starEach [.Name y r'] X.env)).any (·.1) = false := by rfl)
    (t1 : ∀ whole, isTrue (.Call (.Name "isinstance" p) [.Name n q, .Name x r] [] pos) X.env whole = (do let v ← whole; standAt (PySem.Expr.Call (.Name "isinstance" p) [.Name n q, .Name x r] [] pos).pos; holding [v] (truthy v)) := by intro _; rfl)
    (t2 : ∀ whole, isTrue (.Call (.Name "isinstance" p') [.Name n q', .Name y r'] [] pos') X.env whole = (do let v ← whole; standAt (PySem.Expr.Call (.Name "isinstance" p') [.Name n q', .Name y r'] [] pos').pos; holding [v] (truthy v)) := by intro _; rfl) :
    PSs (X.suite a ((a, oe) :: pn)) [.Return (some (.IfExp (.BoolOp .And [.Call (.Name "isinstance" p) [.Name n q, .Name x r] [] pos, .UnaryOp .Not (.Call (.Name "isinstance" p') [.Name n q', .Name y r'] [] pos') np] bp) (.Constant (.str za) ja pa) (.Constant (.str zb) jb pb) ip)) rp] (tSuite2 X.K i C D (.str za) (.str zb) a cls d) :=
  pss_one (ps_ret (pe_ifExp (PW.pt (pw_and (pt_val (pe_isE hz hf hg hm hgC hmC hN hv hd hcd hdx h1 h2 h3) t1) (pw_and1 (pt_not (pt_val (pe_isE hz hf hg hm hgD hmD hN hv hd hcd hdy k1 k2 k3) t2))))) pe_str pe_str))
/-- return a text -/
def tSuite0 (v : V) : Addr → Value → Option Addr → TS := fun _ _ _ => tRet (tC v)
def sdR0 (d : PyData) : Sd := fun _ _ _ => .rt d
theorem hev_0 {k : Nat} {v : V} {d : PyData} (hk : kn k = true) (ha : ∀ H, Dq H v d) (na : ∀ ds, d ≠ .list ds) : HEv cl kn (.ref (cl k), none, tSuite0 v) (k, none, sdR0 d) :=
  .no hk fun c p a d' B O0 O σ H ρ E hc I eo na' ok => ok v H I.ex ⟨ha _, fun ds e => (na ds e).elim⟩
theorem ps_suite0 {a : Addr} {oe : Obj} {pn : List (Addr × Obj)} {z : Str} {j : Nat} {p rp : Pos} {cls : Value} {d : Option Addr} : PSs (X.suite a ((a, oe) :: pn)) [.Return (some (.Constant (.str z) j p)) rp] (tSuite0 (.str z) a cls d) := pss_one (ps_ret pe_str)
end
end SB

namespace SB
open PySem PySem.Spec PyProof.Rows L2 RZ
/-! ### a def that is called by its name -/
def FB (P : Program) (w : World) (K : Frg) (mg : Str → Option Value) (base : Heap) (cl : Nat → Addr) (k : Nat) (x : Str) (ps : List Str) (F : List PyData → Rs PyData) : Prop :=
  ∃ (f : Addr) (fd : FuncData), FnOk P w K mg base (L2.CX P w) k f fd ps (FnSp cl F) ∧ mg x = some (.ref f) ∧ PySem.W.keepIn K (.ref f) = true ∧ Binds K fd ps [] ∧ ∃ (oc : Value) (od : Option Addr) (osl : Array (Option Value)), K.lookup f = some ⟨oc, od, .func fd, osl⟩
/-- where a def of the text stands -/
def FA (K : Frg) (mg : Str → Option Value) (x : Str) (st : Stmt) : Prop := ∃ (f : Addr) (fd : FuncData), FunD K x x (defArgs st) (defBody st) (defScope st) [] [] f fd ∧ mg x = some (.ref f)
section
variable {P : Program} {w : World} {K : Frg} {mg : Str → Option Value} {base : Heap} {cl : Nat → Addr}
theorem fb_of {x : Str} {st : Stmt} {N ps : List Str} {k : Nat} {h : Sl → Ot} (A : FA K mg x st) (S : FnScope N ps (defScope st))
    (hb : ∀ (kV doc pm : Value) (an : Option Addr) (cdv ct : Value) (us : List Value), us.length = ps.length → bindArgs (PySem.W.fnOf x x (defArgs st) (defBody st) (defScope st) .none kV doc pm an cdv ct) ⟨us, []⟩ = pure (ps.zip us))
    (D : ∀ (f : Addr) (cdv : Value) (A : Around) (outer : List Env) (s : Shared) (H : Hp) (E : XK), Room k (A.deeper (envOfC x (defScope st) s.heap.objs.size f cdv)) →
      ∃ t, DSs (cxOf (L2.CX P w) P w K mg base N x (defScope st) f cdv A outer s H E) (fun cls d _ H' => E cls d H') cl (defBody st) t h) : FB P w K mg base cl (k + 1) x ps (fnM ps.length N.length h) := by
  obtain ⟨f, fd, F, hm⟩ := A
  refine ⟨f, fd, fnD F S (D f), hm, F.kp, F.bindsN hb, ?_⟩
  obtain ⟨oc, od, _, _, _, _, _, _, _, osl, _, lk, _⟩ := F.ex
  exact ⟨oc, od, osl, lk⟩
end
section
variable {X : Cx} {W : L2.WX} {cl : Nat → Addr}
theorem d_callF {F : List PyData → Rs PyData} {k : Nat} {x : Str} {p pos : Pos} {e : Expr} {es : List Expr} {t : TA} {g : Sl → Rs (List PyData)}
    {ps : List Str} (G : FB X.prog X.w X.K X.mg X.base cl k x ps F) (hr : Room k X.A) (hg : Gl X x) (tk : Takes X W) (ha : DA X W cl (e :: es) t g)
    (hdb : (x == ("__debug__" : Str)) = false := by decide) (he : starEach (e :: es) X.env = (false, eval e X.env) :: starEach es X.env := by rfl) (hpl : (backTo pos (starEach es X.env)).any (·.1) = false := by rfl) :
    DX pF X W cl (.Call (.Name x p) (e :: es) [] pos) (tCallS (FnSp cl F) (WE W) t) (gCall F g) := by
  obtain ⟨f, fd, G, hm, hk, hb, _⟩ := G
  exact d_call G hr hg hm hk hb tk ha hdb he hpl
/-- not x as a value, x a list or a tuple -/
theorem d_notT {a : Expr} {pos : Pos} {ta : TE} {fa : Sl → Rs PyData} (h : DX pR X W cl a ta fa) : DX pF X W cl (.UnaryOp .Not a pos) (tNotT X.K ta) (gB (gNot (gTru fa))) :=
  ⟨pe_notT h.pe, fun B O0 O σ H ρ Q I ok => by
    refine h.ev B O0 O σ H ρ _ I ?_
    unfold gB gNot gTru at ok
    revert ok
    cases fa ρ with
    | bad => exact fun z => z
    | err c p => exact fun z => z
    | ok x =>
      intro ok v H1 s1 p1
      cases x with
      | bool b =>
        rw [rd_bl p1]
        exact ⟨b, rfl, ok _ H1 s1 ⟨.bl _, fun _ z => nomatch z⟩⟩
      | list ds =>
        obtain ⟨p, vs, rfl, hp, ha⟩ := rd_lst p1
        refine ⟨!vs.isEmpty, .inl ⟨vs, sqL_rd hp, rfl⟩, ?_⟩
        rw [← isEmpty_dq ha]
        exact ok _ H1 s1 ⟨.bl _, fun _ z => nomatch z⟩
      | tuple ds =>
        obtain ⟨p, vs, rfl, hp, ha⟩ := rd_tup p1
        refine ⟨!vs.isEmpty, .inr (.inl ⟨vs, sqT_tq (tq_mono hid_le hp), rfl⟩), ?_⟩
        rw [← isEmpty_dq ha]
        exact ok _ H1 s1 ⟨.bl _, fun _ z => nomatch z⟩
      | _ => exact False.elim ok⟩
/-- a class of errors of the text -/
structure EF (K : Frg) (mg : Str → Option Value) (cl : Nat → Addr) (c : Nat) (x : Str) : Prop where
  gl : mg x = some (.ref (cl c))
  exc : PySem.W.excIn K (cl c) He.veBase "ValueError.__new__" = true
  kp : PySem.W.keepIn K (.ref (cl c)) = true
  sub : PySem.W.subIn K (.ref (cl c)) (.type "BaseException") = some true
  ty : PySem.W.typeIn K (.ref (cl c)) = some (.type "type")
theorem ds_raiseN {c : Nat} {x m : Str} {j : Nat} {p p2 pos rpos : Pos} (F : EF X.K X.mg cl c x) (hc : X.calm = true) (tk : Takes X W) (hg : Gl X x) (hdb : (x == ("__debug__" : Str)) = false := by decide) :
    DS X W cl (.Raise (some (.Call (.Name x p) [.Constant (.str m) j p2] [] pos)) none rpos) (fun _ σ H => W (.ref (cl c)) none σ H) (sRaise c) :=
  ds_raise hc tk (pmk_own PySem.F.excBase_ValueError F.exc F.gl F.kp (raises_own F.sub F.ty) hg hdb)
theorem names_of {c : Nat} {x : Str} (F : EF X.K X.mg cl c x) (hg : Gl X x) (hdb : (x == ("__debug__" : Str)) = false := by decide) : Names X x (.ref (cl c)) := ⟨hg, hdb, .inl F.gl⟩
end
theorem hu65 {k : Nat} {A : Around} (h : Room k A) : A.units + 65 < cLine := by have := h.un; omega
theorem hu64 {k : Nat} {A : Around} (h : Room k A) : A.units + 64 < cLine := by have := h.un; omega
section
variable {X : Cx} {W : L2.WX} {cl : Nat → Addr} {K : Frg}
theorem dt_truK {a : Expr} {t : TE} {f : Sl → Rs PyData} (hK : X.K = K) (h : DX pR X W cl a t f) (he : ∀ whole, isTrue a X.env whole = (do let v ← whole; standAt a.pos; holding [v] (truthy v)) := by intro _; rfl) : DT X W cl a (tTruK K t) (gTru f) := hK ▸ dt_tru h he
theorem d_notTK {a : Expr} {pos : Pos} {ta : TE} {fa : Sl → Rs PyData} (hK : X.K = K) (h : DX pR X W cl a ta fa) : DX pF X W cl (.UnaryOp .Not a pos) (tNotT K ta) (gB (gNot (gTru fa))) := hK ▸ d_notT h
end
/-! ### the law's end -/
def CXU (P : Program) : CXT := fun outer H s E e s' => ∃ w, L2.CX P w outer H s E e s'
theorem cxu_no {P : Program} {H : Hp} {s : Shared} {e : Value} {s' : Shared} (z : CXU P [] H s (fun _ _ _ => False) e s') : False := by
  obtain ⟨w, a, B, H', cls, d, _, _, _, _, _, _, _, h⟩ := z
  exact h
theorem cxu_of {P : Program} {w : World} {K : Frg} {mg : Str → Option Value} {base : Heap} {k : Nat} {f : Addr} {fd : FuncData} {ps : List Str} {sp : Sp} (F : FnOk P w K mg base (L2.CX P w) k f fd ps sp) : FnOk P w K mg base (CXU P) k f fd ps sp :=
  ⟨F.len, fun A outer s H args us vs Q E hr he hb hv hs => codeAny_mono (F.run A outer s H args us vs Q E hr he hb hv hs) fun r s' z => by
    cases r with
    | ok c => cases c <;> exact z
    | error e => exact ⟨w, z⟩⟩
theorem fb_fn {P : Program} {w : World} {K : Frg} {mg : Str → Option Value} {base : Heap} {cl : Nat → Addr} {k : Nat} {x : Str} {ps : List Str} {F : List PyData → Rs PyData} {st : Stmt} {f : Addr} {fd : FuncData} (G : FB P w K mg base cl k x ps F) (hm : mg x = some (.ref f)) (FD : FunD K x x (defArgs st) (defBody st) (defScope st) [] [] f fd) : FnOk P w K mg base (L2.CX P w) k f fd ps (FnSp cl F) := by
  obtain ⟨f', fd', G, hm', _, _, oc, od, osl, lk⟩ := G
  have e := hm.symm.trans hm'
  cases e
  obtain ⟨oc2, od2, _, _, _, _, _, _, _, osl2, _, lk2, _⟩ := FD.ex
  rw [lk] at lk2
  cases lk2
  exact G
/-! ### what the head is asked beyond the facts -/
def errNames : List Str := ["ShareError", "BadText", "BadPieces", "BadList", "Unlike", "CantServe", "BadNumber", "BadLots", "BadStep", "TooGreat", "Nothing"]
def clOf (K : Frg) (c : Nat) : Addr := He.ga K (errNames.getD c "ShareError")
def noLstB (K : Frg) : Bool := K.all fun p => match p.2.cls with
  | .type c => !decide (c = "list")
  | _ => true
def excCB (K : Frg) (D : Addr) : Bool :=
  He.eqO (PySem.W.findIn K (.ref D) "__getattribute__") (some (some (.builtin "BaseException.__getattribute__"))) &&
  (He.eqO (PySem.W.findIn K (.ref D) "__getattr__") (some none) &&
  (decide (PySem.W.subIn K (.ref D) (.type "BaseException") = some true) &&
  (PySem.W.hasDictIn K D &&
  (He.eqO (PySem.W.findIn K (.ref D) "__class__") (some (some (.builtin "object.__class__"))) &&
  (He.eqO (PySem.W.specialIn K (.builtin "object.__class__") "__get__") (some (some (.builtin "getset_descriptor.__get__"))) &&
  (decide (PySem.W.takesIn K (.builtin "object.__class__") = some true) &&
  decide (PySem.W.mroIn K D (.type "object") = some true)))))))
theorem excC_of {K : Frg} {D : Addr} (h : excCB K D = true) : ExcC K D := by
  unfold excCB at h
  obtain ⟨h1, h⟩ := He.ba h
  obtain ⟨h2, h⟩ := He.ba h
  obtain ⟨h3, h⟩ := He.ba h
  obtain ⟨h4, h⟩ := He.ba h
  obtain ⟨h5, h⟩ := He.ba h
  obtain ⟨h6, h⟩ := He.ba h
  obtain ⟨h7, h8⟩ := He.ba h
  exact ⟨He.eqO_ok h1, He.eqO_ok h2, of_decide_eq_true h3, h4, He.eqO_ok h5, He.eqO_ok h6, of_decide_eq_true h7, of_decide_eq_true h8⟩
def pairB (K : Frg) (c k : Nat) : Bool := decide (PySem.W.kitOne K (.ref (clOf K c)) (.ref (clOf K k)) = some (subX c k)) && decide (PySem.W.exmOne K (.ref (clOf K c)) (.ref (clOf K k)) = some (subX c k))
def exB (cs : List Nat) (K : Frg) : Bool := noLstB K && ((cs.all fun c => excCB K (clOf K c)) && cs.all fun c => cs.all fun k => pairB K c k)
def knOf (cs : List Nat) (c : Nat) : Bool := cs.contains c
theorem ex_noLst {cs : List Nat} {K : Frg} (h : exB cs K = true) {H : Hp} {a : Addr} {xs : List V} (s : SqL K H a xs) : Rd H a (.lst xs) := by
  rcases s with s | ⟨o, its, n, e, hc, _⟩
  · exact s
  · have h1 := (He.ba h).1
    have := List.all_eq_true.mp h1 (a, o) (He.lookup_mem e)
    dsimp only at this
    rw [hc] at this
    simp at this
theorem ex_xf {cs : List Nat} {K : Frg} (h : exB cs K = true) : XF K (clOf K) (knOf cs) := by
  obtain ⟨_, h⟩ := He.ba h
  obtain ⟨h1, h2⟩ := He.ba h
  have mem : ∀ {c : Nat}, knOf cs c = true → c ∈ cs := fun {c} z => by
    unfold knOf at z
    simpa using z
  refine ⟨fun c hc => excC_of (List.all_eq_true.mp h1 c (mem hc)), fun c k hc hk => ?_, fun c k hc hk => ?_⟩
  · exact of_decide_eq_true (He.ba (List.all_eq_true.mp (List.all_eq_true.mp h2 c (mem hc)) k (mem hk))).1
  · exact of_decide_eq_true (He.ba (List.all_eq_true.mp (List.all_eq_true.mp h2 c (mem hc)) k (mem hk))).2
theorem ef_of {K : Frg} {h : Heap} {mg : Str → Option Value} (X : K.In h) (G : h.Ns mainGlobals mg) {c : Nat} {x : Str} (e : errNames.getD c "ShareError" = x) (cg : (He.Fa.glo x).ok K = true) (ce : (He.Fa.exc x).ok K = true) : EF K mg (clOf K) c x := by
  obtain ⟨a, b, c', d⟩ := He.exc_ok ce
  subst e
  exact ⟨He.glo_ok X G cg, a, b, c', d⟩
theorem in_of {K : Frg} {h : Heap} {mg : Str → Option Value} (X : K.In h) (G : h.Ns mainGlobals mg) {c : Nat} {x : Str} (e : errNames.getD c "ShareError" = x) (cg : (He.Fa.glo x).ok K = true) : mg x = some (.ref (clOf K c)) := by
  subst e
  exact He.glo_ok X G cg
/-! ### a value that is no list is as new -/
def noL : PyData → Rs PyData
  | .list _ => .bad
  | x => .ok x
def gNl (f : Sl → Rs PyData) : Sl → Rs PyData := fun ρ => (f ρ).bind noL
section
variable {X : Cx} {W : L2.WX} {cl : Nat → Addr}
theorem DX.nl {e : Expr} {t : TE} {f : Sl → Rs PyData} (h : DX pD X W cl e t f) : DX pF X W cl e t (gNl f) := ⟨h.pe, fun B O0 O σ H ρ Q I ok => by
  refine h.ev B O0 O σ H ρ Q I ?_
  unfold gNl at ok
  revert ok
  cases f ρ with
  | bad => exact fun z => z
  | err c p => exact fun z => z
  | ok x =>
    cases x with
    | list ds => exact fun z => False.elim z
    | _ => exact fun ok v H1 s1 p1 => ok v H1 s1 ⟨p1, fun _ z => nomatch z⟩⟩
theorem ds_itemN {i : Nat} {x : Str} {e k : Expr} {te tk : TE} {f fk : Sl → Rs PyData} {p spos pos : Pos} (he : DX pD X W cl e te f) (hk : DX pR X W cl k tk fk) (hN : X.N[i]? = some x := by rfl) (hv : Vis X.env.scope x := by first | exact Or.inl rfl | exact Or.inr (Or.inl rfl) | exact Or.inr (Or.inr rfl)) (hd : (x == ("__debug__" : Str)) = false := by decide)
    (hcd : (x == ("__classdict__" : Str)) = false := by decide) (ha : ∀ v, assign (.Subscript (.Name x p) k spos) X.env v = (do
      let ov ← holding [v] (eval (.Name x p) X.env)
      let iv ← holding [v, ov] (eval k X.env)
      standAt spos
      holding [v, ov, iv] (setItem ov iv v)
      release [v, ov, iv] []) := by intro _; rfl)
    (hs : swapsWithSole [.Subscript (.Name x p) k spos] e pos.line X.env = pure false := by rfl) (hw : swappedStores [.Subscript (.Name x p) k spos] e X.env = pure none := by rfl)
    (h1 : (assignEach [.Subscript (.Name x p) k spos] X.env).map (·.2) = [assign (.Subscript (.Name x p) k spos) X.env] := by rfl) : DS X W cl (.Assign [.Subscript (.Name x p) k spos] e pos) (tAsg te (gSub (tVar i) tk rSetL)) (sItem i fk f) :=
  ds_item he hk hN hv hd hcd (pg_sub (pe_var hN hv hd hcd) hk.pe set_list ha) hs hw h1
theorem ds_setLcAll {i : Nat} {y : Str} {py : Pos} {elt tg iter : Expr} {scope : Scope} {own : List (Str × Nat)} {pos spos : Pos} {R : RR} {is : List Nat} {wi : TI} {g : TG} {te : TE} {f : Sl → Rs (List PyData)} {set : PyData → Sl → Option Sl} {fe : Sl → Rs PyData} (hc : X.calm = true) (hN : X.N.Nodup) (hy : X.N[i]? = some y) (hyl : X.env.scope.names.lookup y = some .local)
    (hsw : swapsWith (.ListComp elt [⟨tg, iter, [], 0⟩] scope pos) (some (.Name y py)) spos.line X.env = pure true) (hi : DI (pItC R) X W cl tg iter wi f) (ok : BlkOk X.N X.env.scope scope own)
    (hg : ∀ (s : Shared) (H : Hp) (C : Addr) (cl' : List (Str × Addr)) (fp : List Addr), PG (X.blk s H scope (compEnvC scope cl' C X.env) fp) tg g) (hs : EvT R is g set) (hsub : ∀ i ∈ is, i ∈ own.map (·.2))
    (he : ∀ (s : Shared) (H : Hp) (C : Addr) (cl' : List (Str × Addr)) (fp : List Addr), DX pD (X.blk s H scope (compEnvC scope cl' C X.env) fp) W0 cl elt te fe) (hf : ∀ x, foldedSetIterable iter X.env x = pure x := by intro _; rfl) :
    DS X W cl (.Assign [.Name y py] (.ListComp elt [⟨tg, iter, [], 0⟩] scope pos) spos) (tAsg (tLc wi g tYes te (own.map (·.2))) (gName i)) (sSet i (gLc (own.map (·.2)) f set gYes fe)) :=
  ds_setLc hc hN hy hyl hsw hi ok hg hs hsub (fun _ _ _ _ _ => pts_nil) ev_yes he hf
theorem ds_setLcIf {i : Nat} {y : Str} {py : Pos} {elt tg iter c : Expr} {scope : Scope} {own : List (Str × Nat)} {pos spos : Pos} {R : RR} {is : List Nat} {wi : TI} {g : TG} {tt : TT} {te : TE} {f : Sl → Rs (List PyData)} {set : PyData → Sl → Option Sl} {test : Sl → Rs Bool} {fe : Sl → Rs PyData} (hc : X.calm = true) (hN : X.N.Nodup) (hy : X.N[i]? = some y) (hyl : X.env.scope.names.lookup y = some .local)
    (hsw : swapsWith (.ListComp elt [⟨tg, iter, [c], 0⟩] scope pos) (some (.Name y py)) spos.line X.env = pure true) (hi : DI (pItC R) X W cl tg iter wi f) (ok : BlkOk X.N X.env.scope scope own)
    (hg : ∀ (s : Shared) (H : Hp) (C : Addr) (cl' : List (Str × Addr)) (fp : List Addr), PG (X.blk s H scope (compEnvC scope cl' C X.env) fp) tg g) (hs : EvT R is g set) (hsub : ∀ i ∈ is, i ∈ own.map (·.2))
    (ht : ∀ (s : Shared) (H : Hp) (C : Addr) (cl' : List (Str × Addr)) (fp : List Addr), DT (X.blk s H scope (compEnvC scope cl' C X.env) fp) W0 cl c tt test)
    (he : ∀ (s : Shared) (H : Hp) (C : Addr) (cl' : List (Str × Addr)) (fp : List Addr), DX pD (X.blk s H scope (compEnvC scope cl' C X.env) fp) W0 cl elt te fe) (hf : ∀ x, foldedSetIterable iter X.env x = pure x := by intro _; rfl) :
    DS X W cl (.Assign [.Name y py] (.ListComp elt [⟨tg, iter, [c], 0⟩] scope pos) spos) (tAsg (tLc wi g tt te (own.map (·.2))) (gName i)) (sSet i (gLc (own.map (·.2)) f set test fe)) :=
  ds_setLc hc hN hy hyl hsw hi ok hg hs hsub (fun s H C c' fp => pts_one (ht s H C c' fp).pt) (ht X.s_0 X.H_0 0 [] []).ev he hf
end
end SB

namespace SB
open PySem PySem.Spec PyProof.Rows L2 RZ
section
variable {P : Program} {w : World} {K : Frg} {mg : Str → Option Value} {base : Heap} {cl : Nat → Addr}
/-- nothing is promised of a def: it is kept -/
def noF : List PyData → Rs PyData := fun _ => .bad
theorem noF_no {vs : List V} {H : Hp} {Q : VK} {E : XK} (h : FnSp cl noF vs H Q E) : False := by
  obtain ⟨O, ds, _, _, z⟩ := h
  exact z
theorem fb_no {x : Str} {st : Stmt} {ps : List Str} (k : Nat) (A : FA K mg x st)
    (hb : ∀ (kV doc pm : Value) (an : Option Addr) (cdv ct : Value) (us : List Value), us.length = ps.length → bindArgs (PySem.W.fnOf x x (defArgs st) (defBody st) (defScope st) .none kV doc pm an cdv ct) ⟨us, []⟩ = pure (ps.zip us)) : FB P w K mg base cl k x ps noF := by
  obtain ⟨f, fd, F, hm⟩ := A
  refine ⟨f, fd, ⟨fun vs H Q E h => (noF_no h).elim, fun A outer s H args us vs Q E _ _ _ _ h => (noF_no h).elim⟩, hm, F.kp, F.bindsN hb, ?_⟩
  obtain ⟨oc, od, _, _, _, _, _, _, _, osl, _, lk, _⟩ := F.ex
  exact ⟨oc, od, osl, lk⟩
theorem fb_mono {k j : Nat} {x : Str} {ps : List Str} {F : List PyData → Rs PyData} (h : k ≤ j) (G : FB P w K mg base cl k x ps F) : FB P w K mg base cl j x ps F := by
  obtain ⟨f, fd, G, r⟩ := G
  exact ⟨f, fd, G.mono h, r⟩
end
/-- a def that calls itself, by so many turns -/
def recM (step : (List PyData → Rs PyData) → List PyData → Rs PyData) : Nat → List PyData → Rs PyData
  | 0 => noF
  | n + 1 => step (recM step n)
theorem fb_rec {P : Program} {w : World} {K : Frg} {mg : Str → Option Value} {base : Heap} {cl : Nat → Addr} {x : Str} {ps : List Str} {step : (List PyData → Rs PyData) → List PyData → Rs PyData} {L : Nat} (h0 : FB P w K mg base cl L x ps noF)
    (hs : ∀ (n : Nat) (F : List PyData → Rs PyData), FB P w K mg base cl (n + L) x ps F → FB P w K mg base cl (n + L + 1) x ps (step F)) : ∀ n, FB P w K mg base cl (n + L) x ps (recM step n)
  | 0 => by rw [Nat.zero_add]; exact h0
  | n + 1 => by
    have := hs n _ (fb_rec h0 hs n)
    rw [show n + 1 + L = n + L + 1 by omega]
    exact this
/-! ### t[::-1] -/
section
variable {prog : Program} {w : World} {A : Around} {E : Value → Shared → Prop} {s : Shared}
theorem adj_rev (n : Nat) : Builtin.Slice.sliceAdjust none none (-1) (n : Int) = ((n : Int) - 1, -1) := by
  unfold Builtin.Slice.sliceAdjust
  rfl
theorem plc_rev (n : Nat) : Builtin.Slice.slicePlaces ((n : Int) - 1) (-1) (-1) = n := by
  unfold Builtin.Slice.slicePlaces
  simp
  split <;> omega
theorem fm_cong {α β : Type} {f g : α → Option β} : ∀ {l : List α}, (∀ m ∈ l, f m = g m) → l.filterMap f = l.filterMap g
  | [], _ => rfl
  | a :: l, h => by rw [List.filterMap_cons, List.filterMap_cons, h a List.mem_cons_self, fm_cong fun m hm => h m (List.mem_cons_of_mem _ hm)]
theorem pick_rev (xs : List Value) : ((List.range xs.length).filterMap fun (m : Nat) => xs.toArray[(((xs.length : Nat) : Int) - 1 + (m : Int) * (-1)).toNat]?).toArray = xs.reverse.toArray := by
  congr 1
  apply List.ext_getElem?
  intro i
  have h : (List.range xs.length).filterMap (fun (m : Nat) => xs.toArray[(((xs.length : Nat) : Int) - 1 + (m : Int) * (-1)).toNat]?) = (List.range xs.length).map fun m => xs[xs.length - 1 - m]?.getD .none := by
    rw [← List.filterMap_eq_map]
    refine fm_cong fun m hm => ?_
    have hm := List.mem_range.mp hm
    have e : (((xs.length : Nat) : Int) - 1 + (m : Int) * (-1)).toNat = xs.length - 1 - m := by omega
    rw [e]
    have hl : xs.length - 1 - m < xs.length := by omega
    simp [hl]
  rw [h]
  by_cases hi : i < xs.length
  · rw [List.getElem?_map, List.getElem?_range hi, List.getElem?_reverse hi]
    have hl : xs.length - 1 - i < xs.length := by omega
    simp [hl]
  · rw [List.getElem?_eq_none (by simp; omega), List.getElem?_eq_none (by simp; omega)]
theorem applied_rev {sl : Addr} {vl vu vs : Value} {n : Nat} {Q : Int × Int × Nat → Shared → Prop} (hs : s.heap.IsSliceOf sl vl vu vs) (pl : IsPart vl none) (pu : IsPart vu none) (pt : IsPart vs (some (-1))) (h : Q ((n : Int) - 1, -1, n) s) :
    wpAny (model prog w) A (Builtin.Slice.sliceApplied (.ref sl) (pure (n : Int))) Q E s := by
  obtain ⟨os, hos, hcs, hds⟩ := id hs
  unfold Builtin.Slice.sliceApplied Builtin.Slice.sliceFields
  refine wpAny_bind (wpAny_bind (wpAny_field hos hds (x := vl) rfl (wpAny_bind (wpAny_field hos hds (x := vu) rfl (wpAny_bind (wpAny_field hos hds (x := vs) rfl (wpAny_pure ?_)))))))
  refine wpAny_bind (HT.slicePart_ pt ?_)
  show wpAny _ _ (if ((-1 : Int) == 0) = true then _ else _) _ _ s
  rw [if_neg (by decide)]
  refine wpAny_bind (HT.slicePart_ pl (wpAny_bind (HT.slicePart_ pu (wpAny_bind (wpAny_pure ?_)))))
  show wpAny _ _ (match Builtin.Slice.sliceAdjust none none (-1) (n : Int) with | (lo, hi) => pure (lo, (-1 : Int), Builtin.Slice.slicePlaces lo hi (-1))) _ _ s
  rw [adj_rev n]
  show wpAny _ _ (pure ((n : Int) - 1, (-1 : Int), Builtin.Slice.slicePlaces ((n : Int) - 1) (-1) (-1))) _ _ s
  rw [plc_rev]
  exact wpAny_pure h
theorem getItem_rev {t sl : Addr} {its : List Value} {vl vu vs : Value} {Q : Value → Shared → Prop} (ht : IsTup s.heap t its.toArray) (hs : s.heap.IsSliceOf sl vl vu vs) (pl : IsPart vl none) (pu : IsPart vu none) (pt : IsPart vs (some (-1)))
    (h : Q (.ref s.heap.objs.size) { s with heap := s.heap.push { cls := .type "tuple", data := .seq its.reverse.toArray } }) (hz : its.length ≤ sizeLine) : wpAny (model prog w) A (getItem (.ref t) (.ref sl)) Q E s := by
  have fits : sizeOk (.seq its.reverse.toArray) := by
    show its.reverse.toArray.size ≤ sizeLine
    simpa using hz
  obtain ⟨os, hos, hcs, hds⟩ := id hs
  have hTs : s.TypeIs (.ref sl) "slice" := ⟨os, hos, hcs⟩
  unfold getItem
  try with_reducible refine wpAny_holding ?_
  first | refine wpAny_bind (wpAny_pure ?_) | skip
  refine wpAny_bind (wpAny_sequenceKey ht.typeIs (by decide) ?_)
  refine wpAny_bind (wpAny_callSpecial?_slot (name := Str.ofString "__getitem__") ht.typeIs PyProof.Rows.slot_tuple_getitem
    (wpAny_call_entry PyProof.Rows.slot_tuple_getitem ht.typeIs entry_tuple_getitem ?_ (args_tuple_getitem _ _)))
  show wpAny _ _ (Builtin.Tuple.tupleItemsOf (.ref t) >>= _) _ _ s
  refine wpAny_bind (tupleItemsOf_ ht ?_)
  refine wpAny_bind (wpAny_typeOf hTs ?_)
  rw [if_pos (by decide)]
  refine wpAny_bind (applied_rev hs pl pu pt ?_)
  have hsz : its.toArray.size = its.length := List.size_toArray
  have no : ¬ (((its.toArray.size : Int) - 1 == 0 && (-1 : Int) == 1 && its.toArray.size == its.toArray.size) = true) := by simp
  show wpAny _ _ (if ((its.toArray.size : Int) - 1 == 0 && (-1 : Int) == 1 && its.toArray.size == its.toArray.size) = true then _ else _) _ _ s
  rw [if_neg no]
  rw [hsz, pick_rev]
  first
    | exact wpAny_bind (m := Builtin.Tuple.tupleExact _) (wpAny_newObj_type (wpAny_pure ⟨_, rfl, wpAny_pure h⟩) fits)
    | exact wpAny_bind (m := Builtin.Tuple.tupleExact _) (wpAny_newObj_type (wpAny_bind (wpAny_pure (wpAny_pure ⟨_, rfl, wpAny_pure h⟩))) fits)
    | exact wpAny_bind (wpAny_bind (m := Builtin.Tuple.tupleExact _) (wpAny_newObj_type (wpAny_pure (wpAny_pure ⟨_, rfl, wpAny_pure h⟩)) fits))
    | exact wpAny_bind (wpAny_bind (m := Builtin.Tuple.tupleExact _) (wpAny_newObj_type (wpAny_pure ⟨_, rfl, wpAny_pure h⟩) fits))
end
section
variable {X : Cx} {W : L2.WX} {cl : Nat → Addr}
def tRevT (K : Frg) (te : TE) : TE := fun σ H Q => te σ H fun x H1 => ∃ a xs, x = .ref a ∧ SqT K H1 a xs ∧ ∀ (p : Addr) (o : Obj), H1 p = none → o.dict = none → Q (.ref p) (upd H1 p (.frz o (.tup xs.reverse)))
theorem pe_revT {e : Expr} {te : TE} {k : Nat} {p1 p2 p3 pos : Pos} (he : PE X e te) : PE X (.Subscript e (.Slice none none (some (.UnaryOp .USub (.Constant (.int 1) k p1) p2)) p3) pos) (tRevT X.K te) := by
  refine ⟨fun pins s σ H Q I h => ?_⟩
  refine Subscript_ (thn (he.run pins s σ H _ I h) fun v s1 ⟨x, H1, I1, r1, q1⟩ => ?_)
  obtain ⟨a, xs, ex, hx, q⟩ := q1
  subst ex
  cases r1
  have part : PO X (some (.UnaryOp .USub (.Constant (.int 1) k p1) p2)) (tPart (tUn (rU fun i => .int (-i)) (tC (.int 1)))) := po_some (pe_un un_neg pe_int)
  refine wpAny_Slice (thn (po_none.run pins s1 σ H1 (fun o H2 => o = none ∧ H2 = H1) I1 ⟨rfl, rfl⟩) fun vl s2 ⟨l, H2, I2, pl, el, e2⟩ => ?_)
  subst el e2
  refine thn (po_none.run pins s2 σ H2 (fun o H3 => o = none ∧ H3 = H2) I2 ⟨rfl, rfl⟩) fun vu s3 ⟨u, H3, I3, pu, eu, e3⟩ => ?_
  subst eu e3
  refine thn (part.run pins s3 σ H3 (fun o H4 => o = some (-1) ∧ H4 = H3) I3 ⟨1, rfl, -1, rfl, rfl, rfl⟩) fun vs s4 ⟨o, H4, I4, ps, eo, e4⟩ => ?_
  subst eo e4
  have I5 : Inv X pins σ H4 { s4 with heap := s4.heap.push { cls := .type "slice", data := .fields #[vl, vu, vs] } } := I4.kept (t' := s4.toks) fun b ob q => Heap.get?_push_of_some _ q
  obtain ⟨its, r, ht, hz⟩ := I5.tuple hx
  have hlen := r.length
  show wpAny (model X.prog X.w) X.A (subscriptTail e (.Slice none none (some (.UnaryOp .USub (.Constant (.int 1) k p1) p2)) p3) (.ref a) (.ref s4.heap.objs.size)) (EP X pins σ Q) X.xe { s4 with heap := s4.heap.push { cls := .type "slice", data := .fields #[vl, vu, vs] } }
  refine tail_any (ops := [.ref a, .ref s4.heap.objs.size]) ht.typeIs (PyProof.Rows.slot_tuple_getitem.lookup) ?_ (by with_unfolding_all rfl)
  refine getItem_rev ht (Heap.IsSliceOf.new _ vl vu vs) pl pu ps ?_ (by omega)
  refine ⟨.ref _, _, I5.laid (t' := s4.toks) (o := .frz { cls := .type "tuple", data := .seq its.reverse.toArray } (.tup xs.reverse)) (fun b ob q => Heap.get?_push_of_some _ q) (Nat.le_refl _) ?_, rfl, q _ _ (I5.hok.fresh (Nat.le_refl _)) rfl⟩
  exact ⟨Heap.get?_push_size _ rfl, by rw [List.length_reverse]; exact hz, _, r.reverse, IsTup.new _ _⟩
def pRev : PyData → Rs PyData
  | .list ds => .ok (.list ds.reverse)
  | .tuple ds => .ok (.tuple ds.reverse)
  | _ => .bad
def tRev (K : Frg) (te : TE) : TE := fun σ H Q => tRevL K te σ H Q ∨ tRevT K te σ H Q
theorem d_rev {e : Expr} {te : TE} {f : Sl → Rs PyData} {k : Nat} {p1 p2 p3 pos : Pos} (he : DX pR X W cl e te f) : DX pF X W cl (.Subscript e (.Slice none none (some (.UnaryOp .USub (.Constant (.int 1) k p1) p2)) p3) pos) (tRev X.K te) (gUn pRev f) :=
  ⟨⟨fun pins s σ H Q I h => by
    rcases h with h | h
    · exact (pe_revL he.pe).run pins s σ H Q I h
    · exact (pe_revT he.pe).run pins s σ H Q I h⟩, fun B O0 O σ H ρ Q I ok => by
    cases e : f ρ with
    | bad => unfold gUn at ok; rw [e] at ok; exact False.elim ok
    | err c p =>
      refine .inl (he.ev B O0 O σ H ρ _ I ?_)
      unfold gUn at ok
      rw [e] at ok ⊢
      exact ok
    | ok d =>
      cases d with
      | list ds =>
        refine .inl (he.ev.go mF I ok fun x v H1 e1 s1 I1 p1 ok1 => ?_)
        rw [e] at e1; cases e1
        obtain ⟨p, vs, rfl, hp, ha⟩ := rd_lst p1
        exact ⟨p, vs, rfl, sqL_rd hp, fun q hq => ok1 _ _ (same_new hq) (newF I1.od hq (dpAll_rev ha))⟩
      | tuple ds =>
        refine .inr (he.ev.go mF I ok fun x v H1 e1 s1 I1 p1 ok1 => ?_)
        rw [e] at e1; cases e1
        obtain ⟨p, vs, rfl, hp, ha⟩ := rd_tup p1
        exact ⟨p, vs, rfl, sqT_tq (tq_mono hid_le hp), fun q ob hq hd => ok1 _ _ (same_new hq) (newF_tup I1.od hq hd (dpAll_rev ha))⟩
      | _ => unfold gUn at ok; rw [e] at ok; exact False.elim ok⟩
/-! ### what is never reached -/
theorem dx_bad {P : Po PyData V} {e : Expr} : DX P X W cl e (fun _ _ _ => False) (fun _ => .bad) := ⟨⟨fun _ _ _ _ _ _ h => h.elim⟩, fun _ _ _ _ _ _ _ _ ok => ok⟩
theorem ds_bad {st : Stmt} : DS X W cl st (fun _ _ _ => False) (fun _ => .bad) := ⟨⟨fun _ _ _ _ _ _ h => h.elim⟩, fun _ _ _ _ _ _ _ _ ok => ok⟩
theorem dss_bad {st : List Stmt} : DSs X W cl st (fun _ _ _ => False) (fun _ => .bad) := ⟨⟨fun _ _ _ _ _ _ h => h.elim⟩, fun _ _ _ _ _ _ _ _ ok => ok⟩
/-! ### a negative number -/
theorem d_negI {i j p pos} : DX pF X W cl (.UnaryOp .USub (.Constant (.int i) j p) pos) (tUn (rU fun i => .int (-i)) (tC (.int i))) (gC (.int (-i))) := ⟨pe_un un_neg pe_int, fun B O0 O σ H ρ Q I ok => ⟨i, rfl, ok _ H (Same.refl H) ⟨.int _, fun _ e => nomatch e⟩⟩⟩
end
/-! ### the same rules, the written part by its own name -/
section
variable {X : Cx} {W : L2.WX} {cl : Nat → Addr} {K : Frg}
theorem op_addK (hK : X.K = K) : OpR X (binaryOp .Add) (rAdd K) := hK ▸ op_addA
theorem op_mulK (hK : X.K = K) : OpR X (binaryOp .Mult) (rMul K) := hK ▸ op_mulA
theorem op_inK (hK : X.K = K) (hu : X.A.units + 65 < cLine) : OpR X (compareOp .In) (rInA K false) := hK ▸ op_inA hu
theorem op_notInK (hK : X.K = K) (hu : X.A.units + 65 < cLine) : OpR X (compareOp .NotIn) (rInA K true) := hK ▸ op_notInA hu
theorem op_eqK (hK : X.K = K) (hu : X.A.units + 64 < cLine) : OpR X (compareOp .Eq) (rEqD K) := hK ▸ op_eqD hu
theorem op_neK (hK : X.K = K) (hu : X.A.units + 64 < cLine) : OpR X (compareOp .NotEq) (rNeD K) := hK ▸ op_neD hu
theorem cr_lenK (hK : X.K = K) : CallR X (.builtin "len") (rLen K) := hK ▸ cr_len
theorem cr_sumK (hK : X.K = K) (hc : X.calm = true) : CallR X (.builtin "sum") (rSumA K) := hK ▸ cr_sumA hc
theorem cr_tupleK (hK : X.K = K) : CallR X (.type "tuple") (rTuple K) := hK ▸ cr_tuple
theorem cr_listK (hK : X.K = K) : CallR X (.type "list") (rList K) := hK ▸ cr_list
theorem cr_sortK (hK : X.K = K) : CallR X (.builtin "sorted") (rSortA K) := hK ▸ cr_sortA
theorem d_ixK {a b : Expr} {pos : Pos} {ta tb : TE} {fa fb : Sl → Rs PyData} (hK : X.K = K) (ha : DX pR X W cl a ta fa) (hb : DX pR X W cl b tb fb) (hs : PlainIx b := by intro _ _; rfl) : DX pD X W cl (.Subscript a b pos) (tOp (rIx K) ta tb) (gBin pIx fa fb) := hK ▸ d_ix ha hb hs
theorem d_slK {e : Expr} {lo hi : Option Expr} {p2 pos : Pos} {te : TE} {tl th : TO} {f : Sl → Rs PyData} {l h : Sl → Rs (Option Int)} (hK : X.K = K) (he : DX pR X W cl e te f) (hl : DO X W cl lo tl l) (hh : DO X W cl hi th h) : DX pF X W cl (.Subscript e (.Slice lo hi none p2) pos) (tSl (rSlD K) te tl th) (gSl f l h) := hK ▸ d_sl he hl hh
theorem d_revK {e : Expr} {te : TE} {f : Sl → Rs PyData} {k : Nat} {p1 p2 p3 pos : Pos} (hK : X.K = K) (he : DX pR X W cl e te f) : DX pF X W cl (.Subscript e (.Slice none none (some (.UnaryOp .USub (.Constant (.int 1) k p1) p2)) p3) pos) (tRev K te) (gUn pRev f) := hK ▸ d_rev he
theorem di_seqK {tg l : Expr} {tl : TE} {f : Sl → Rs PyData} (hK : X.K = K) (h : DX pD X W cl l tl f) : DI (pIt Ds) X W cl tg l (iSeq K tl) (gSeq f) := hK ▸ di_seq h
theorem di_seqCK {tg l : Expr} {tl : TE} {f : Sl → Rs PyData} (hK : X.K = K) (h : DX pR X W cl l tl f) : DI (pItC Ds) X W cl tg l (iSeq K tl) (gSeq f) := hK ▸ di_seqC h
theorem d_isiK {T : String} {x : Str} {a : Expr} {p q pos : Pos} {ta : TE} {f : Sl → Rs PyData} (hK : X.K = K) (hT : T ∈ isiTypes) (hg : Gl X "isinstance") (hm : X.mg "isinstance" = none) (hgT : Gl X x) (hmT : X.mg x = none) (hvT : bootBuiltins x = some (.type T)) (ha : DX pR X W cl a ta f)
    (hn : x ≠ "__name__" := by decide) (hdb : (x == ("__debug__" : Str)) = false := by decide)
    (h1 : starEach [a, .Name x q] X.env = (false, eval a X.env) :: starEach [.Name x q] X.env := by rfl) (h2 : starEach [.Name x q] X.env = (false, eval (.Name x q) X.env) :: starEach [] X.env := by rfl) (h3 : (backTo pos (starEach [.Name x q] X.env)).any (·.1) = false := by rfl) :
    DX pF X W cl (.Call (.Name "isinstance" p) [a, .Name x q] [] pos) (tIsi K T ta) (gB (gIsi T f)) := hK ▸ d_isi hT hg hm hgT hmT hvT ha hn hdb h1 h2 h3
end
end SB

namespace SB
open PySem PySem.Spec PyProof.Rows L2 RZ
/-! ### zip of a list and a tuple -/
def ItzM (K : Frg) (a b : Addr) : It :=
  ⟨fun i H => ∃ (xs ys : List V) (x y : V), SqL K H a xs ∧ SqT K H b ys ∧ xs[i]? = some x ∧ ys[i]? = some y,
    fun i H v H' => ∃ T x y, v = .ref T ∧ H T = none ∧ H' = upd H T (.tup [x, y]) ∧ (∀ xs, SqL K H a xs → xs[i]? = some x) ∧ ∀ ys, SqT K H b ys → ys[i]? = some y,
    fun i H => ∃ xs ys : List V, SqL K H a xs ∧ SqT K H b ys ∧ (xs.length ≤ i ∨ ys.length ≤ i)⟩
theorem sep_of {z TI TO i1 i2 a b : Addr} (D : ZipApart z TI TO i1 i2 a b) (h1 : i1 ≠ b) (h2 : i2 ≠ a) : ZipSep2 z TI TO i1 i2 [i1, a] [i2, b] where
  TIz := D.TIz
  TOz := D.TOz
  TITO := D.TITO
  TIi1 := D.TIi1
  mem1 := by simp
  zf1 := by simp; exact ⟨D.i1z.symm, D.l1z.symm⟩
  Tf1 := by simp; exact ⟨D.TOi1, D.l1TO.symm⟩
  TIi2 := D.TIi2
  mem2 := by simp
  zf2 := by simp; exact ⟨D.i2z.symm, D.l2z.symm⟩
  Tf2 := by simp; exact ⟨D.TOi2, D.l2TO.symm⟩
  sep1_2 := by simp; exact ⟨D.i12, h1⟩
  sep2_1 := by simp; exact ⟨D.i12.symm, h2⟩
theorem drL_end {prog : Program} {w : World} {A : Around} (hh : A.handled = none) (it l : Addr) {items : Array Value} {i : Nat} (hx : items[i]? = none) : Draws prog w A it [it, l] i (fun _ _ => True) (fun j h => j = i ∧ h.IsListIter it l i ∧ h.IsList l items) where
  live := fun _ _ st => let ⟨o, ho, _⟩ := st.2.1; ⟨o, ho⟩
  frame := fun _ _ _ st hk => ⟨st.1, st.2.1.at fun o e => hk it (by simp) o e, st.2.2.at fun o e => hk l (by simp) o e⟩
  item := fun j s Q E hj st _ => absurd st.1 (Nat.ne_of_lt hj)
  done := fun s Q E st hE => wpAny_nextOf_list_end hh st.2.1 st.2.2 hx hE
theorem drT_end {prog : Program} {w : World} {A : Around} (hh : A.handled = none) (it l : Addr) {items : Array Value} {i : Nat} (hx : items[i]? = none) : Draws prog w A it [it, l] i (fun _ _ => True) (fun j h => j = i ∧ h.IsTupleIter it l i ∧ h.IsTuple l items) where
  live := fun _ _ st => let ⟨o, ho, _⟩ := st.2.1; ⟨o, ho⟩
  frame := fun _ _ _ st hk => ⟨st.1, st.2.1.at fun o e => hk it (by simp) o e, st.2.2.at fun o e => hk l (by simp) o e⟩
  item := fun j s Q E hj st _ => absurd st.1 (Nat.ne_of_lt hj)
  done := fun s Q E st hE => RZ.nextOf_tuple_end hh st.2.1 st.2.2 hx hE
theorem turn_zipM {P : Program} {w : World} {K : Frg} {elts : List Expr} {kk : Nat} {tpos : Pos} {a b z TI TO i1 i2 : Addr} (D : ZipApart z TI TO i1 i2 a b) :
    Turn P w K (.Tuple elts kk tpos) (ItzM K a b) [z, TI, TO, i1, i2] z (fun i h => IsZip h z TI TO .none ∧ IsPair h TI (.ref i1) (.ref i2) ∧ (∃ x y, IsPair h TO x y) ∧ h.IsListIter i1 a i ∧ h.IsTupleIter i2 b i) where
  mem := by simp
  obj := fun i h st c hc => by
    obtain ⟨hz, hTI, ⟨x, y, hTO⟩, ⟨o1, e1, _, d1⟩, ⟨o2, e2, _, d2⟩⟩ := st
    simp only [List.mem_cons, List.not_mem_nil, or_false] at hc
    rcases hc with rfl | rfl | rfl | rfl | rfl
    · exact ⟨_, hz, fun v q => nomatch q⟩
    · exact ⟨_, hTI, fun v q => nomatch q⟩
    · exact ⟨_, hTO, fun v q => nomatch q⟩
    · exact ⟨o1, e1, fun v q => by rw [d1] at q; cases q⟩
    · exact ⟨o2, e2, fun v q => by rw [d2] at q; cases q⟩
  keep := fun i h h' st k => by
    obtain ⟨hz, hTI, ⟨x, y, hTO⟩, h1, h2⟩ := st
    exact ⟨k z (by simp) _ hz, k TI (by simp) _ hTI, ⟨x, y, k TO (by simp) _ hTO⟩, h1.at fun o q => k i1 (by simp) o q, h2.at fun o q => k i2 (by simp) o q⟩
  item := by
    intro X hP hw hK hc i pins s σ H E I hf st hg
    subst hP hw hK
    obtain ⟨hz, hTI, ⟨x0, y0, hTO⟩, h1, h2⟩ := st
    obtain ⟨xs, ys, x, y, hqx, hqy, hx, hy⟩ := hg
    obtain ⟨its, rv, p, _⟩ := I.list hqx
    obtain ⟨its2, rv2, p2, _⟩ := I.tuple hqy
    obtain ⟨u, hu, ru⟩ := rv.get hx
    obtain ⟨u2, hu2, ru2⟩ := rv2.get hy
    have hzl : z < s.heap.objs.size := Heap.lt_size hz
    have hh : X.A.in1.handled = none := I.ok.hd hc
    have n1 : i < its.toArray.size := by
      have := (List.getElem?_eq_some_iff.mp hu).1
      simpa using this
    have n2 : i < its2.toArray.size := by
      have := (List.getElem?_eq_some_iff.mp hu2).1
      simpa using this
    refine wpAny_pyNext_zipD2_item (sep_of D D.l2i1.symm D.l1i2.symm) (Draws.list hh i1 a D.l1i1 its.toArray) (Draws.tuple hh i2 b D.l2i2 its2.toArray) hz hTI hTO ⟨h1, p.isList⟩ ⟨h2, p2⟩ n1 n2 fun w1 w2 h' tk e1 e2 z' TO' h1' h2' hT hsz hk => ?_
    have ew1 : w1 = u := by
      have q : its.toArray[i]? = some u := by simpa using hu
      have e1 : its.toArray[i]? = some w1 := e1
      rw [q] at e1; cases e1; rfl
    have ew2 : w2 = u2 := by
      have q : its2.toArray[i]? = some u2 := by simpa using hu2
      have e2 : its2.toArray[i]? = some w2 := e2
      rw [q] at e2; cases e2; rfl
    subst ew1 ew2
    refine ⟨_, rfl, wpAny_letOwnedTupleGo_zip (s := { s with heap := h', toks := tk }) z' fun h'' z'' sb => ?_⟩
    have hT2 : h''.get? s.heap.objs.size = some { cls := .type "tuple", data := .seq #[w1, w2] } := (sb.2 _ (Nat.ne_of_gt hzl)).trans hT
    have new : ObjOk X.prog X.w (upd H s.heap.objs.size (.tup [x, y])) h'' s.heap.objs.size (.tup [x, y]) :=
      ⟨by show 2 ≤ sizeLine; decide, [w1, w2], .cons ru (.cons ru2 .nil), ⟨_, hT2, rfl, _, rfl⟩⟩
    have I1 : Inv X pins σ (upd H s.heap.objs.size (.tup [x, y])) { s with heap := h'', toks := tk } :=
      I.turnedNew (t' := tk) (ch := [z, TI, TO, i1, i2]) (fun c o hb q => (sb.2 c (fun q' => hb (by simp [q']))).trans (hk c o (fun q' => hb (by simp [q'])) (fun q' => hb (by simp [q'])) (fun q' => hb (by simp [q'])) (fun q' => hb (by simp [q'])) q)) hf (Nat.le_refl _) new
    refine ⟨.ref s.heap.objs.size, _, I1, rfl, ⟨_, x, y, rfl, I.hok.fresh (Nat.le_refl _), rfl, fun l hl => by rw [I.list_inj hl hqx]; exact hx, fun l hl => by rw [I.tuple_inj hl hqy]; exact hy⟩, ⟨z'', ?_, ⟨w1, w2, ?_⟩, ?_, ?_⟩, fun c hcm => ?_⟩
    · exact (sb.2 _ D.TIz).trans (hk _ _ D.TIz D.TITO D.TIi1 D.TIi2 hTI)
    · exact (sb.2 _ D.TOz).trans TO'
    · exact h1'.1.at fun o q => (sb.2 _ D.i1z).trans q
    · exact h2'.1.at fun o q => (sb.2 _ D.i2z).trans q
    · have hlt : c < s.heap.objs.size := by
        simp only [List.mem_cons, List.not_mem_nil, or_false] at hcm
        rcases hcm with rfl | rfl | rfl | rfl | rfl
        · exact hzl
        · exact Heap.lt_size hTI
        · exact Heap.lt_size hTO
        · obtain ⟨_, e1, _⟩ := h1; exact Heap.lt_size e1
        · obtain ⟨_, e2, _⟩ := h2; exact Heap.lt_size e2
      rw [upd_ne (Nat.ne_of_lt hlt)]
      exact (hf c hcm).1
  done := by
    intro X hP hw hK hc i pins s σ H E I hf st hg
    subst hP hw hK
    obtain ⟨hz, hTI, ⟨x0, y0, hTO⟩, h1, h2⟩ := st
    obtain ⟨xs, ys, hqx, hqy, hend⟩ := hg
    obtain ⟨its, rv, p, _⟩ := I.list hqx
    obtain ⟨its2, rv2, p2, _⟩ := I.tuple hqy
    have l1 := rv.length
    have l2 := rv2.length
    have hh : X.A.in1.handled = none := I.ok.hd hc
    have sep := sep_of D D.l2i1.symm D.l1i2.symm
    have fin : ∀ h' tk, (∀ c o, c ≠ z → c ≠ TO → c ≠ i1 → c ≠ i2 → s.heap.get? c = some o → h'.get? c = some o) → (none : Option Value) = none ∧ Inv X pins σ H { s with heap := h', toks := tk } := fun h' tk hk =>
      ⟨rfl, I.turnedL (t' := tk) (ch := [z, TI, TO, i1, i2]) (fun c o hb q => hk c o (fun q' => hb (by simp [q'])) (fun q' => hb (by simp [q'])) (fun q' => hb (by simp [q'])) (fun q' => hb (by simp [q'])) q) hf⟩
    by_cases q1 : i < its.toArray.size
    · have q2 : its2.toArray[i]? = none := by
        rw [List.size_toArray] at q1
        have : its2.length ≤ i := by omega
        simpa using this
      exact wpAny_pyNext_zipD2_end sep (Draws.list hh i1 a D.l1i1 its.toArray) (drT_end hh i2 b q2) hz hTI hTO ⟨h1, p.isList⟩ ⟨rfl, h2, p2⟩ (Nat.le_of_lt q1) (Nat.le_refl _) (.inr rfl) fin
    · have q1' : its.toArray[i]? = none := by simpa using q1
      by_cases q2 : i < its2.toArray.size
      · exact wpAny_pyNext_zipD2_end sep (drL_end hh i1 a q1') (Draws.tuple hh i2 b D.l2i2 its2.toArray) hz hTI hTO ⟨rfl, h1, p.isList⟩ ⟨h2, p2⟩ (Nat.le_refl _) (Nat.le_of_lt q2) (.inl rfl) fin
      · have q2' : its2.toArray[i]? = none := by simpa using q2
        exact wpAny_pyNext_zipD2_end sep (drL_end hh i1 a q1') (drT_end hh i2 b q2') hz hTI hTO ⟨rfl, h1, p.isList⟩ ⟨rfl, h2, p2⟩ (Nat.le_refl _) (Nat.le_refl _) (.inl rfl) fin
  self := fun A i s Q E st h => wpAny_pyIter_zip st.1 h
def iZipM (K : Frg) (ta : TA) : TI := fun σ H R => ta σ H fun vs H1 => ∃ a b xs ys, vs = [.ref a, .ref b] ∧ SqL K H1 a xs ∧ SqT K H1 b ys ∧ R (ItzM K a b) H1
theorem pi_zipM {X : Cx} {e e2 : Expr} {ta : TA} {p pos tpos : Pos} {elts : List Expr} {kk : Nat} (hg : Gl X "zip") (hm : X.mg "zip" = none) (ha : PA X [e, e2] ta)
    (hs : starEach [e, e2] X.env = (false, eval e X.env) :: starEach [e2] X.env := by rfl) (hpl : (backTo pos (starEach [e2] X.env)).any (·.1) = false := by rfl) :
    PI X (.Tuple elts kk tpos) (.Call (.Name "zip" p) [e, e2] [] pos) (iZipM X.K ta) := by
  refine ⟨fun pins s σ H R I h => ?_⟩
  refine Call_ (ld_blt I hg hm PyProof.Rows.boot_zip (PyProof.Rows.callWith_type1 (thn (ha.run pos pins s σ H _ I h) fun us s1 ⟨vs, H1, I1, r1, q1⟩ => ?_) hs hpl))
  obtain ⟨a, b, xs, ys, ex, hqx, hqy, q⟩ := q1
  subst ex
  cases r1 with
  | cons r rr =>
    cases rr with
    | cons r' rr =>
      cases rr
      cases r
      cases r'
      obtain ⟨its, rv, p1, _⟩ := I1.list hqx
      obtain ⟨its2, rv2, p2, _⟩ := I1.tuple hqy
      obtain ⟨o2, ho2, _⟩ := id p2
      refine zip_begins2 (begins_list a its.toArray) (begins_tuple b its2.toArray) p1.isList (show s1.heap.IsTuple b its2.toArray from p2) fun h' hz hTI hTO h1 h2 hsz hk => wpAny_pyIter_zip hz ?_
      have I2 : Inv X pins σ H1 { s1 with heap := h' } := I1.kept (t' := s1.toks) hk
      refine ⟨s1.heap.objs.size + 4, [s1.heap.objs.size + 4, s1.heap.objs.size + 2, s1.heap.objs.size + 3, s1.heap.objs.size, s1.heap.objs.size + 1], _, _, H1, rfl, I2, turn_zipM (PySem.W.ktu_apart s1.heap.objs.size a b p1.lt (Heap.lt_size ho2)), ⟨hz, hTI, ⟨_, _, hTO⟩, ⟨_, h1, rfl, rfl⟩, ⟨_, h2, rfl, rfl⟩⟩, fun c hcm => ?_, q⟩
      have hle : s1.heap.objs.size ≤ c := by
        simp only [List.mem_cons, List.not_mem_nil, or_false] at hcm
        rcases hcm with rfl | rfl | rfl | rfl | rfl
        · exact Nat.le_add_right _ _
        · exact Nat.le_add_right _ _
        · exact Nat.le_add_right _ _
        · exact Nat.le_refl _
        · exact Nat.le_add_right _ _
      exact I1.fpOk hle (I1.hok.fresh hle)
theorem itzM_d {K : Frg} {G : List Addr → Hp → Prop} {a b : Addr} {vs us : List V} {ds es : List PyData} (h : ∀ O H, G O H → (Rd H a (.lst vs) ∧ DqAll (hid O H) vs ds) ∧ (Rd H b (.tup us) ∧ DqAll (hid O H) us es)) : ItD Dw G (ItzM K a b) (zipD ds es) where
  go := fun i O H g od hi => by
    obtain ⟨⟨r, q⟩, r2, q2⟩ := h O H g
    obtain ⟨x, y, e1, e2, _⟩ := zipD_get (List.getElem?_eq_getElem hi)
    obtain ⟨v, f1, _⟩ := dpAll_get q e1
    obtain ⟨u, f2, _⟩ := dpAll_get q2 e2
    exact ⟨vs, us, v, u, sqL_rd r, sqT_rd r2, f1, f2⟩
  yld := fun i O H x H' g od y d hd => by
    obtain ⟨T, x1, x2, rfl, nT, rfl, f1, f2⟩ := y
    obtain ⟨⟨r, q⟩, r2, q2⟩ := h O H g
    obtain ⟨d1, d2, e1, e2, rfl⟩ := zipD_get hd
    obtain ⟨d1', e1', k1⟩ := dpAll_getV q (f1 _ (sqL_rd r))
    obtain ⟨d2', e2', k2⟩ := dpAll_getV q2 (f2 _ (sqT_rd r2))
    rw [e1] at e1'; cases e1'
    rw [e2] at e2'; cases e2'
    exact ⟨same_new nT, T, _, _, rfl, rfl, Rd.of (hid_mk (od_fresh od nT) upd_same), dpAll_mono (hid_same (same_new nT)) (.cons k1 (.cons k2 .nil))⟩
  stop := fun i O H g od hi => by
    obtain ⟨⟨r, q⟩, r2, q2⟩ := h O H g
    rw [zipD_len, ← dpAll_len q, ← dpAll_len q2] at hi
    exact ⟨vs, us, sqL_rd r, sqT_rd r2, by omega⟩
section
variable {X : Cx} {W : L2.WX} {cl : Nat → Addr}
def zipS2 : PyData → PyData → Rs (List PyData)
  | .list xs, .tuple ys => .ok (zipD xs ys)
  | _, _ => .bad
def gZipM (f g : Sl → Rs PyData) : Sl → Rs (List PyData) := fun ρ => (f ρ).bind fun x => (g ρ).bind fun y => zipS2 x y
theorem di_zipM {e e2 : Expr} {te tf : TE} {p pos tpos : Pos} {elts : List Expr} {kk : Nat} {f g : Sl → Rs PyData} (hg : Gl X "zip") (hm : X.mg "zip" = none) (h : DX pD X W cl e te f) (k : DX pD X W cl e2 tf g)
    (hs : starEach [e, e2] X.env = (false, eval e X.env) :: starEach [e2] X.env := by rfl) (hs2 : starEach [e2] X.env = (false, eval e2 X.env) :: starEach [] X.env := by rfl) (hpl : (backTo pos (starEach [e2] X.env)).any (·.1) = false := by rfl) : DI (pIt Dw) X W cl (.Tuple elts kk tpos) (.Call (.Name "zip" p) [e, e2] [] pos) (iZipM X.K (tCons te (tCons tf tNil))) (gZipM f g) :=
  ⟨pi_zipM hg hm (pa_cons h.pe (pa_cons k.pe pa_nil hs2) hs) hs hpl, fun B O0 O σ H ρ R I ok =>
  h.ev.go mIt I ok fun x v H1 _ s1 I1 p1 ok1 => k.ev.go mIt I1 ok1 fun y u H2 _ s2 I2 p2 ok2 => by
    have p1 := dp_mono (hid_same s2) p1
    cases x with
    | list xs =>
      cases y with
      | tuple ys =>
        cases p1 with
        | lst hp ha =>
          cases p2 with
          | tup hq hb =>
            exact ⟨_, _, _, _, rfl, sqL_rd (rd_mono hid_le hp), sqT_tq (tq_mono hid_le hq), ok2 _ H2 (Same.refl _) (itzM_d fun O' H' g => ⟨⟨gf_rd g hp, dpAll_mono g ha⟩, gf_tq g hq, dpAll_mono g hb⟩)⟩
      | _ => exact False.elim ok2
    | _ => exact False.elim ok2⟩
end
/-! ### enumerate of a list, of a tuple -/
def IteT (K : Frg) (a : Addr) : It :=
  ⟨fun i H => ∃ (xs : List V) (x : V), SqT K H a xs ∧ xs[i]? = some x, fun i H v H' => ∃ T x, v = .ref T ∧ H T = none ∧ H' = upd H T (.tup [.int (i : Nat), x]) ∧ ∀ xs, SqT K H a xs → xs[i]? = some x, fun i H => ∃ xs : List V, SqT K H a xs ∧ xs.length ≤ i⟩
theorem turn_enumT {P : Program} {w : World} {K : Frg} {elts : List Expr} {kk : Nat} {tpos : Pos} (a e it : Addr) :
    Turn P w K (.Tuple elts kk tpos) (IteT K a) [e, it] e (fun i h => (∃ old, IsEnum h e it ((i : Nat) : Int) old) ∧ h.IsTupleIter it a i ∧ e ≠ it ∧ a ≠ it ∧ e ≠ a) where
  mem := by simp
  obj := fun i h st b hb => by
    obtain ⟨⟨old, he⟩, ⟨o, ho, hc, hd⟩, _⟩ := st
    simp only [List.mem_cons, List.not_mem_nil, or_false] at hb
    rcases hb with rfl | rfl
    · exact ⟨_, he, fun v q => nomatch q⟩
    · exact ⟨o, ho, fun v q => by rw [hd] at q; cases q⟩
  keep := fun i h h' st k => let ⟨⟨old, he⟩, hi, r⟩ := st; ⟨⟨old, k e (by simp) _ he⟩, hi.at fun o q => k it (by simp) o q, r⟩
  item := by
    intro X hP hw hK hc i pins s σ H E I hf st hg
    subst hP hw hK
    obtain ⟨⟨old, he⟩, hit, hne, hai, hea⟩ := st
    obtain ⟨xs, x, hq, hx⟩ := hg
    obtain ⟨its, rv, p, hz⟩ := I.tuple hq
    obtain ⟨u, hu, ru⟩ := rv.get hx
    have hel : e < s.heap.objs.size := Heap.lt_size he
    have hil : it < s.heap.objs.size := by obtain ⟨_, q, _⟩ := hit; exact Heap.lt_size q
    have hh : X.A.in1.handled = none := I.ok.hd hc
    have n1 : i < its.toArray.size := by
      have := (List.getElem?_eq_some_iff.mp hu).1
      simpa using this
    refine wpAny_pyNext_enum_itemD (Draws.tuple hh it a hai its.toArray) he ⟨hit, p⟩ n1 hne (by simp; exact ⟨hne, hea⟩) fun w1 h' tk e1 ho hit' hT hsz hk => ?_
    have ew1 : w1 = u := by
      have q : its.toArray[i]? = some u := by simpa using hu
      have e1 : its.toArray[i]? = some w1 := e1
      rw [q] at e1; cases e1; rfl
    subst ew1
    refine ⟨_, rfl, wpAny_letOwnedTupleGo_enum (s := { s with heap := h', toks := tk + 1 }) ho fun h'' he' sb => ?_⟩
    have hT2 : h''.get? s.heap.objs.size = some { cls := .type "tuple", data := .seq #[.int i tk, w1] } := (sb.2 _ (Nat.ne_of_gt hel)).trans hT
    have new : ObjOk X.prog X.w (upd H s.heap.objs.size (.tup [.int (i : Nat), x])) h'' s.heap.objs.size (.tup [.int (i : Nat), x]) :=
      ⟨by show 2 ≤ sizeLine; decide, [.int i tk, w1], .cons ⟨_, rfl⟩ (.cons ru .nil), ⟨_, hT2, rfl, _, rfl⟩⟩
    have I1 : Inv X pins σ (upd H s.heap.objs.size (.tup [.int (i : Nat), x])) { s with heap := h'', toks := tk + 1 } :=
      I.turnedNew (ch := [e, it]) (fun b ob hb q => (sb.2 b (fun z => hb (by simp [z]))).trans (hk b ob (fun z => hb (by simp [z])) (fun z => hb (by simp [z])) q)) hf (Nat.le_refl _) new
    refine ⟨.ref s.heap.objs.size, _, I1, rfl, ⟨_, x, rfl, I.hok.fresh (Nat.le_refl _), rfl, fun ys hy => by rw [I.tuple_inj hy hq]; exact hx⟩, ⟨⟨w1, ?_⟩, hit'.1.at fun o q => (sb.2 it (Ne.symm hne)).trans q, hne, hai, hea⟩, fun b hb => ?_⟩
    · have e1 : ((i + 1 : Nat) : Int) = (i : Int) + 1 := by omega
      rw [e1]; exact he'
    · have hb' : b < s.heap.objs.size := by
        simp only [List.mem_cons, List.not_mem_nil, or_false] at hb
        rcases hb with rfl | rfl
        · exact hel
        · exact hil
      rw [upd_ne (Nat.ne_of_lt hb')]
      exact (hf b hb).1
  done := by
    intro X hP hw hK hc i pins s σ H E I hf st hg
    subst hP hw hK
    obtain ⟨⟨old, he⟩, hit, hne, _⟩ := st
    obtain ⟨xs, hq, hx⟩ := hg
    obtain ⟨its, rv, p, hz⟩ := I.tuple hq
    obtain ⟨f0, f1, f2, f3, f4, f5⟩ := hf it (by simp)
    have hl := rv.length
    have hh : X.A.in1.handled = none := I.ok.hd hc
    have q1 : its.toArray[i]? = none := by simp; omega
    exact wpAny_pyNext_enum_endD (drT_end hh it a q1) he ⟨rfl, hit, p⟩ fun h' eb => ⟨rfl, I.turned (t' := s.toks) (fun b o hb q => eb b o hb q) f0 f1 f3 f4 f5⟩
  self := fun A i s Q E st h => let ⟨⟨_, he⟩, _⟩ := st; wpAny_pyIter_enum he h
theorem enum_newT (l : Addr) (items : Array Value) (n : Nat) (dct : Option Addr) (sl : Array (Option Value)) :
    Meets (Builtin.«enumerate.__new__» ⟨[.type "enumerate", .ref l], []⟩) (fun _ R s => s.heap.get? l = some { cls := .type "tuple", dict := dct, data := .seq items n, slots := sl } ∧
      R (.ok (.ret (.ref (s.heap.push { cls := .type "tuple_iterator", data := .fields #[.ref l, .int 0 0] }).objs.size)))
        { s with heap := (s.heap.push { cls := .type "tuple_iterator", data := .fields #[.ref l, .int 0 0] }).push { cls := .type "enumerate", data := .fields #[.none, .bool false, .ref s.heap.objs.size, rawInt 0, .none, .none] } }) :=
  .of_wp fun prog w A R s h => by
    obtain ⟨hp, g, d, tk, os⟩ := s; obtain ⟨hl, h⟩ := h
    have hsub := sub_enumerate
    have hL : Heap.IsTuple (Shared.heap ⟨hp, g, d, tk, os⟩) l items := ⟨_, hl, rfl, n, rfl⟩
    wp_walk using wpAny_loadPart' hl
    refine wpAny_stack_any fun st => wpAny_pure ?_
    split
    · rename_i c _ _ _ _ _
      cases (c == Value.type "enumerate")
      · wp_walk using wpAny_loadPart' hl, wpAny_pyIter_tuple hL
        exact ⟨_, rfl, h⟩
      · wp_walk using wpAny_loadPart' hl, wpAny_pyIter_tuple hL
        exact ⟨_, rfl, h⟩
    · wp_walk using wpAny_loadPart' hl, wpAny_pyIter_tuple hL
      exact ⟨_, rfl, h⟩
section
variable {prog : Program} {w : World} {A : Around} {E : Value → Shared → Prop} {s : Shared}
theorem call_enumT {l : Addr} {items : Array Value} {Q : Value → Shared → Prop} (hL : IsTup s.heap l items)
    (h : ∀ h', IsEnum h' (s.heap.objs.size + 1) s.heap.objs.size 0 .none → h'.IsTupleIter s.heap.objs.size l 0 → h'.objs.size = s.heap.objs.size + 2 →
      (∀ b o, s.heap.get? b = some o → h'.get? b = some o) → Q (.ref (s.heap.objs.size + 1)) { s with heap := h' }) :
    wpAny (model prog w) A (call (.type "enumerate") [.ref l]) Q E s := by
  obtain ⟨⟨c, dct, dt, sl⟩, hl, hc, n, hd⟩ := hL
  replace hc : c = .type "tuple" := hc
  replace hd : dt = .seq items n := hd
  subst hc hd
  refine callType_new F.called_enumerate (by decide) (F.typeCall_enumerate_1 _) (F.newCall_enumerate_1 _) (fun obj => F.args_object_init_2 obj _) F.entry_enumerate_new
    (enum_newT l items n dct sl) ⟨hl, ?_⟩
  have hz : (s.heap.push { cls := .type "tuple_iterator", data := .fields #[.ref l, .int 0 0] }).objs.size = s.heap.objs.size + 1 := Heap.size_push ..
  show _ ∧ _
  rw [hz]
  have he : IsEnum ((s.heap.push { cls := .type "tuple_iterator", data := .fields #[.ref l, .int 0 0] }).push
      { cls := .type "enumerate", data := .fields #[.none, .bool false, .ref s.heap.objs.size, rawInt 0, .none, .none] }) (s.heap.objs.size + 1) s.heap.objs.size 0 .none := by
    have := Heap.get?_push_size (s.heap.push { cls := .type "tuple_iterator", data := .fields #[.ref l, .int 0 0] })
      (o := { cls := .type "enumerate", data := .fields #[.none, .bool false, .ref s.heap.objs.size, rawInt 0, .none, .none] }) rfl
    rw [hz] at this; exact this
  refine ⟨⟨_, he, rfl⟩, h _ he ⟨_, Heap.get?_push_of_some _ (Heap.get?_push_size _ rfl), rfl, rfl⟩ (by rw [Heap.size_push, hz]) fun b o x => Heap.get?_push_of_some _ (Heap.get?_push_of_some _ x)⟩
end
def iEnumT (K : Frg) (ta : TA) : TI := fun σ H R => ta σ H fun vs H1 => ∃ a xs, vs = [.ref a] ∧ SqT K H1 a xs ∧ R (IteT K a) H1
theorem pi_enumT {X : Cx} {e : Expr} {ta : TA} {p pos tpos : Pos} {elts : List Expr} {kk : Nat} (hg : Gl X "enumerate") (hm : X.mg "enumerate" = none) (ha : PA X [e] ta) (hs : starEach [e] X.env = [(false, eval e X.env)] := by rfl) :
    PI X (.Tuple elts kk tpos) (.Call (.Name "enumerate" p) [e] [] pos) (iEnumT X.K ta) := by
  refine ⟨fun pins s σ H R I h => ?_⟩
  refine Call_ (ld_blt I hg hm boot_enumerate (PyProof.Rows.callWith_type1 (thn (ha.run pos pins s σ H _ I h) fun us s1 ⟨vs, H1, I1, r1, q1⟩ => ?_) hs rfl))
  obtain ⟨a, xs, ex, hq, q⟩ := q1
  subst ex
  cases r1 with
  | cons r rr =>
    cases rr
    cases r
    obtain ⟨its, rv, p', hz⟩ := I1.tuple hq
    obtain ⟨o2, ho2, _⟩ := id p'
    have lt := Heap.lt_size ho2
    refine call_enumT p' fun h' he hit hsz hk => wpAny_pyIter_enum he ?_
    have I2 : Inv X pins σ H1 { s1 with heap := h' } := I1.kept (t' := s1.toks) hk
    refine ⟨s1.heap.objs.size + 1, [s1.heap.objs.size + 1, s1.heap.objs.size], _, _, H1, rfl, I2, turn_enumT a (s1.heap.objs.size + 1) s1.heap.objs.size, ⟨⟨.none, he⟩, hit, Nat.succ_ne_self _, Nat.ne_of_lt lt, fun z => Nat.lt_irrefl _ (Nat.lt_of_le_of_lt (Nat.le_succ _) (z ▸ lt))⟩, fun b hb => ?_, q⟩
    have hle : s1.heap.objs.size ≤ b := by
      simp only [List.mem_cons, List.not_mem_nil, or_false] at hb
      rcases hb with rfl | rfl
      · exact Nat.le_add_right _ _
      · exact Nat.le_refl _
    exact I1.fpOk hle (I1.hok.fresh hle)
def enumD (ds : List PyData) : List PyData := ds.mapIdx fun i d => PyData.tuple [.int (i : Nat), d]
theorem enumD_len (ds : List PyData) : (enumD ds).length = ds.length := by unfold enumD; rw [List.length_mapIdx]
theorem enumD_get {ds : List PyData} {i : Nat} {d : PyData} (h : (enumD ds)[i]? = some d) : ∃ x, ds[i]? = some x ∧ d = .tuple [.int (i : Nat), x] := by
  unfold enumD at h
  rw [List.getElem?_mapIdx] at h
  cases q : ds[i]? with
  | none => rw [q] at h; cases h
  | some x => rw [q] at h; exact ⟨x, rfl, (Option.some.inj h).symm⟩
theorem ite_d {K : Frg} {G : List Addr → Hp → Prop} {a : Addr} {vs : List V} {ds : List PyData} (h : ∀ O H, G O H → Rd H a (.lst vs) ∧ DqAll (hid O H) vs ds) : ItD Dw G (Ite K a) (enumD ds) where
  go := fun i O H g od hi => by
    obtain ⟨r, q⟩ := h O H g
    obtain ⟨x, e1, _⟩ := enumD_get (List.getElem?_eq_getElem hi)
    obtain ⟨v, f1, _⟩ := dpAll_get q e1
    exact ⟨vs, v, sqL_rd r, f1⟩
  yld := fun i O H x H' g od y d hd => by
    obtain ⟨T, x1, rfl, nT, rfl, f1⟩ := y
    obtain ⟨r, q⟩ := h O H g
    obtain ⟨d1, e1, rfl⟩ := enumD_get hd
    obtain ⟨d1', e1', k1⟩ := dpAll_getV q (f1 _ (sqL_rd r))
    rw [e1] at e1'; cases e1'
    exact ⟨same_new nT, T, _, _, rfl, rfl, Rd.of (hid_mk (od_fresh od nT) upd_same), dpAll_mono (hid_same (same_new nT)) (.cons (.int _) (.cons k1 .nil))⟩
  stop := fun i O H g od hi => by
    obtain ⟨r, q⟩ := h O H g
    rw [enumD_len, ← dpAll_len q] at hi
    exact ⟨vs, sqL_rd r, hi⟩
theorem iteT_d {K : Frg} {G : List Addr → Hp → Prop} {a : Addr} {vs : List V} {ds : List PyData} (h : ∀ O H, G O H → Rd H a (.tup vs) ∧ DqAll (hid O H) vs ds) : ItD Dw G (IteT K a) (enumD ds) where
  go := fun i O H g od hi => by
    obtain ⟨r, q⟩ := h O H g
    obtain ⟨x, e1, _⟩ := enumD_get (List.getElem?_eq_getElem hi)
    obtain ⟨v, f1, _⟩ := dpAll_get q e1
    exact ⟨vs, v, sqT_rd r, f1⟩
  yld := fun i O H x H' g od y d hd => by
    obtain ⟨T, x1, rfl, nT, rfl, f1⟩ := y
    obtain ⟨r, q⟩ := h O H g
    obtain ⟨d1, e1, rfl⟩ := enumD_get hd
    obtain ⟨d1', e1', k1⟩ := dpAll_getV q (f1 _ (sqT_rd r))
    rw [e1] at e1'; cases e1'
    exact ⟨same_new nT, T, _, _, rfl, rfl, Rd.of (hid_mk (od_fresh od nT) upd_same), dpAll_mono (hid_same (same_new nT)) (.cons (.int _) (.cons k1 .nil))⟩
  stop := fun i O H g od hi => by
    obtain ⟨r, q⟩ := h O H g
    rw [enumD_len, ← dpAll_len q] at hi
    exact ⟨vs, sqT_rd r, hi⟩
section
variable {X : Cx} {W : L2.WX} {cl : Nat → Addr}
def asEn (x : PyData) : Rs (List PyData) := (asSeq x).bind fun ds => .ok (enumD ds)
def gEnum (f : Sl → Rs PyData) : Sl → Rs (List PyData) := fun ρ => (f ρ).bind asEn
def iEnA (K : Frg) (ta : TA) : TI := fun σ H R => iEnum K ta σ H R ∨ iEnumT K ta σ H R
theorem di_enum {e : Expr} {te : TE} {p pos tpos : Pos} {elts : List Expr} {kk : Nat} {f : Sl → Rs PyData} (hg : Gl X "enumerate") (hm : X.mg "enumerate" = none) (h : DX pD X W cl e te f) (hs : starEach [e] X.env = [(false, eval e X.env)] := by rfl) :
    DI (pIt Dw) X W cl (.Tuple elts kk tpos) (.Call (.Name "enumerate" p) [e] [] pos) (iEnA X.K (tCons te tNil)) (gEnum f) :=
  ⟨⟨fun pins s σ H R I hh => by
    rcases hh with hh | hh
    · exact (pi_enum hg hm (pa_cons h.pe pa_nil hs) hs).run pins s σ H R I hh
    · exact (pi_enumT hg hm (pa_cons h.pe pa_nil hs) hs).run pins s σ H R I hh⟩, fun B O0 O σ H ρ R I ok => by
    cases e : f ρ with
    | bad => unfold gEnum at ok; rw [e] at ok; exact False.elim ok
    | err c p =>
      refine .inl (h.ev B O0 O σ H ρ _ I ?_)
      unfold gEnum at ok
      rw [e] at ok ⊢
      exact ok
    | ok d =>
      cases d with
      | list ds =>
        refine .inl (h.ev.go mIt I ok fun x v H1 e1 s1 I1 p1 ok1 => ?_)
        rw [e] at e1; cases e1
        cases p1 with
        | lst hp ha => exact ⟨_, _, rfl, sqL_rd (rd_mono hid_le hp), ok1 _ H1 (Same.refl _) (ite_d fun O' H' g => ⟨gf_rd g hp, dpAll_mono g ha⟩)⟩
      | tuple ds =>
        refine .inr (h.ev.go mIt I ok fun x v H1 e1 s1 I1 p1 ok1 => ?_)
        rw [e] at e1; cases e1
        cases p1 with
        | tup hp ha => exact ⟨_, _, rfl, sqT_tq (tq_mono hid_le hp), ok1 _ H1 (Same.refl _) (iteT_d fun O' H' g => ⟨gf_tq g hp, dpAll_mono g ha⟩)⟩
      | _ => unfold gEnum at ok; rw [e] at ok; exact False.elim ok⟩
variable {K : Frg}
theorem di_enumK {e : Expr} {te : TE} {p pos tpos : Pos} {elts : List Expr} {kk : Nat} {f : Sl → Rs PyData} (hK : X.K = K) (hg : Gl X "enumerate") (hm : X.mg "enumerate" = none) (h : DX pD X W cl e te f) (hs : starEach [e] X.env = [(false, eval e X.env)] := by rfl) :
    DI (pIt Dw) X W cl (.Tuple elts kk tpos) (.Call (.Name "enumerate" p) [e] [] pos) (iEnA K (tCons te tNil)) (gEnum f) := hK ▸ di_enum hg hm h hs
end
end SB

namespace SB
open PySem PySem.Spec PyProof.Rows L2 RZ
section
variable {X : Cx} {W : L2.WX} {cl : Nat → Addr} {K : Frg}
/-! ### int(x), abs(x), max(xs), min(xs) -/
def pInt : PyData → Rs PyData
  | .int i => .ok (.int i)
  | .bool k => .ok (.int (if k then 1 else 0))
  | _ => .bad
abbrev rInt1 : List V → Hp → VK → Prop := fun xs H Q => (∃ i, xs = [.int i] ∧ Q (.int i) H) ∨ ∃ k, xs = [.bl k] ∧ Q (.int (if k then 1 else 0)) H
theorem c1_int : Call1 pF rInt1 pInt := fun W cl O σ H v x Q od hx ok => by
  cases x with
  | int i => exact .inl ⟨i, by rw [rd_int hx], ok _ H (Same.refl H) ⟨.int _, fun _ e => nomatch e⟩⟩
  | bool k => exact .inr ⟨k, by rw [rd_bl hx], ok _ H (Same.refl H) ⟨.int _, fun _ e => nomatch e⟩⟩
  | _ => exact False.elim ok
def pAbs : PyData → Rs PyData
  | .int i => .ok (.int (if i < 0 then -i else i))
  | _ => .bad
abbrev rAbs1 : List V → Hp → VK → Prop := fun xs H Q => ∃ i, xs = [.int i] ∧ Q (.int (if i < 0 then -i else i)) H
theorem c1_abs : Call1 pF rAbs1 pAbs := fun W cl O σ H v x Q od hx ok => by
  cases x with
  | int i => exact ⟨i, by rw [rd_int hx], ok _ H (Same.refl H) ⟨.int _, fun _ e => nomatch e⟩⟩
  | _ => exact False.elim ok
def maxI : List Int → Int
  | [] => 0
  | x :: xs => xs.foldl (fun a b => if a < b then b else a) x
def minI : List Int → Int
  | [] => 0
  | x :: xs => xs.foldl (fun a b => if b < a then b else a) x
theorem foldmax (xs : List Int) : ∀ x : Int, (xs.foldl (fun a b => if a < b then b else a) x = x ∨ xs.foldl (fun a b => if a < b then b else a) x ∈ xs) ∧ x ≤ xs.foldl (fun a b => if a < b then b else a) x ∧ ∀ y ∈ xs, y ≤ xs.foldl (fun a b => if a < b then b else a) x := by
  induction xs with
  | nil => exact fun x => ⟨.inl rfl, Int.le_refl _, fun y h => nomatch h⟩
  | cons z xs ih =>
    intro x
    rw [List.foldl_cons]
    obtain ⟨h1, h2, h3⟩ := ih (if x < z then z else x)
    refine ⟨?_, ?_, fun y hy => ?_⟩
    · rcases h1 with h1 | h1
      · rw [h1]
        by_cases h : x < z
        · rw [if_pos h]; exact .inr List.mem_cons_self
        · rw [if_neg h]; exact .inl rfl
      · exact .inr (List.mem_cons_of_mem _ h1)
    · refine Int.le_trans ?_ h2
      split <;> omega
    · rcases List.mem_cons.mp hy with rfl | hy
      · refine Int.le_trans ?_ h2
        split <;> omega
      · exact h3 y hy
theorem foldmin (xs : List Int) : ∀ x : Int, (xs.foldl (fun a b => if b < a then b else a) x = x ∨ xs.foldl (fun a b => if b < a then b else a) x ∈ xs) ∧ xs.foldl (fun a b => if b < a then b else a) x ≤ x ∧ ∀ y ∈ xs, xs.foldl (fun a b => if b < a then b else a) x ≤ y := by
  induction xs with
  | nil => exact fun x => ⟨.inl rfl, Int.le_refl _, fun y h => nomatch h⟩
  | cons z xs ih =>
    intro x
    rw [List.foldl_cons]
    obtain ⟨h1, h2, h3⟩ := ih (if z < x then z else x)
    refine ⟨?_, ?_, fun y hy => ?_⟩
    · rcases h1 with h1 | h1
      · rw [h1]
        by_cases h : z < x
        · rw [if_pos h]; exact .inr List.mem_cons_self
        · rw [if_neg h]; exact .inl rfl
      · exact .inr (List.mem_cons_of_mem _ h1)
    · refine Int.le_trans h2 ?_
      split <;> omega
    · rcases List.mem_cons.mp hy with rfl | hy
      · refine Int.le_trans h2 ?_
        split <;> omega
      · exact h3 y hy
theorem maxI_spec {xs : List Int} (h : xs ≠ []) : maxI xs ∈ xs ∧ ∀ y ∈ xs, y ≤ maxI xs := by
  cases xs with
  | nil => exact absurd rfl h
  | cons x xs =>
    obtain ⟨h1, h2, h3⟩ := foldmax xs x
    refine ⟨?_, fun y hy => ?_⟩
    · rcases h1 with h1 | h1
      · show xs.foldl _ x ∈ x :: xs
        rw [h1]; exact List.mem_cons_self
      · exact List.mem_cons_of_mem _ h1
    · rcases List.mem_cons.mp hy with rfl | hy
      · exact h2
      · exact h3 y hy
theorem minI_spec {xs : List Int} (h : xs ≠ []) : minI xs ∈ xs ∧ ∀ y ∈ xs, minI xs ≤ y := by
  cases xs with
  | nil => exact absurd rfl h
  | cons x xs =>
    obtain ⟨h1, h2, h3⟩ := foldmin xs x
    refine ⟨?_, fun y hy => ?_⟩
    · rcases h1 with h1 | h1
      · show xs.foldl _ x ∈ x :: xs
        rw [h1]; exact List.mem_cons_self
      · exact List.mem_cons_of_mem _ h1
    · rcases List.mem_cons.mp hy with rfl | hy
      · exact h2
      · exact h3 y hy
def pBest (f : List Int → Int) : PyData → Rs PyData
  | .list ds => (match asInts ds with
    | some ns => if ns ≠ [] then .ok (.int (f ns)) else .bad
    | none => .bad)
  | _ => .bad
theorem c1_maxL {K : Frg} : Call1 pF (rMax K) (pBest maxI) := fun W cl O σ H v x Q od hx ok => by
  cases x with
  | list ds =>
    obtain ⟨p, vs, rfl, hp, ha⟩ := rd_lst hx
    unfold pBest at ok
    dsimp only at ok
    cases e : asInts ds with
    | none => rw [e] at ok; exact False.elim ok
    | some ns =>
      rw [e] at ok
      obtain ⟨hne, ok⟩ := okG_if ok
      rw [asInts_eq e] at ha
      rw [dpAll_ints_inv ha] at hp
      refine ⟨p, ns, rfl, sqL_rd hp, List.length_pos_iff.mpr hne, fun m h1 h2 => ?_⟩
      obtain ⟨k1, k2⟩ := maxI_spec hne
      have em : m = maxI ns := Int.le_antisymm (k2 m h1) (h2 _ k1)
      rw [em]
      exact ok _ H (Same.refl H) ⟨.int _, fun _ e => nomatch e⟩
  | _ => exact False.elim ok
theorem c1_minL {K : Frg} : Call1 pF (rMin K) (pBest minI) := fun W cl O σ H v x Q od hx ok => by
  cases x with
  | list ds =>
    obtain ⟨p, vs, rfl, hp, ha⟩ := rd_lst hx
    unfold pBest at ok
    dsimp only at ok
    cases e : asInts ds with
    | none => rw [e] at ok; exact False.elim ok
    | some ns =>
      rw [e] at ok
      obtain ⟨hne, ok⟩ := okG_if ok
      rw [asInts_eq e] at ha
      rw [dpAll_ints_inv ha] at hp
      refine ⟨p, ns, rfl, sqL_rd hp, List.length_pos_iff.mpr hne, fun m h1 h2 => ?_⟩
      obtain ⟨k1, k2⟩ := minI_spec hne
      have em : m = minI ns := Int.le_antisymm (h2 _ k1) (k2 m h1)
      rw [em]
      exact ok _ H (Same.refl H) ⟨.int _, fun _ e => nomatch e⟩
  | _ => exact False.elim ok
theorem cr_maxK (hK : X.K = K) (hc : X.calm = true) : CallR X (.builtin "max") (rMax K) := hK ▸ cr_max hc
theorem cr_minK (hK : X.K = K) (hc : X.calm = true) : CallR X (.builtin "min") (rMin K) := hK ▸ cr_min hc
/-! ### list(range(..)), tuple(range(..)) -/
abbrev TRg := L2.St → Hp → (Int → Int → Hp → Prop) → Prop
def tTupRgF (te : TRg) : TE := fun σ H Q => te σ H fun a b H1 => RgOk a b ∧ ∀ (q : Addr) (o : Obj), H1 q = none → o.dict = none → Q (.ref q) (upd H1 q (.frz o (.tup (rgV a b))))
theorem pe_tupRgF {e : Expr} {te : TRg} {p pos : Pos} (hc : X.calm = true) (hg : Gl X "tuple") (hm : X.mg "tuple" = none) (he : PRg X e te) (na : starEach [e] X.env = (false, eval e X.env) :: starEach [] X.env := by rfl) : PE X (.Call (.Name "tuple" p) [e] [] pos) (tTupRgF te) := by
  refine ⟨fun pins s σ H Q I h => ?_⟩
  refine Call_ (ld_blt I hg hm boot_tuple (PyProof.Rows.callWith_type1 (args_cons (thn (he pins s σ H _ I h) fun x s1 ⟨r, a, b, t, u, v, H1, ex, hr, I1, ok, q⟩ => args_nil ?_) na) na))
  subst ex
  obtain ⟨b1, b2, b3, b4, b5⟩ := ok
  refine call_tuple_range (n := (b - a).toNat) (I1.ok.hd hc) hr (small_one b1 b2 b3 b4) (rangeSize_nat a b) b5 fun h' tk acc hk hi => ?_
  have I2 : Inv X pins σ H1 { s1 with heap := h', toks := tk } := I1.kept hk
  refine ⟨.ref h'.objs.size, upd H1 h'.objs.size (.frz { cls := .type "tuple", data := .seq acc } (.tup (rgV a b))), I2.laid (t' := tk) (fun c o e => Heap.get?_push_of_some _ e) (Nat.le_refl _) ⟨Heap.get?_push_size _ rfl, ?_, acc.toList, vals_rg hi, ?_⟩, rfl, q _ _ (I2.hok.fresh (Nat.le_refl _)) rfl⟩
  · rw [rgV_length, sizeLine_eq]; omega
  · rw [Array.toArray_toList]; exact IsTup.new _ _
theorem dq_rg {H : Hp} (a b : Int) : DqAll H (rgV a b) (rgD a (b - a).toNat) := by
  unfold rgV rgD
  induction (List.range (b - a).toNat) with
  | nil => exact .nil
  | cons x xs ih => exact .cons (.int _) ih
def OkR (W : L2.WX) (cl : Nat → Addr) (O : List Addr) (σ : L2.St) (H : Hp) (r : Rs (Int × Int)) (Q : Int → Int → Hp → Prop) : Prop := match r with
  | .bad => False
  | .err c p => ∀ d H', Same H H' → EO O H' p d → W (.ref (cl c)) d σ H'
  | .ok r => ∀ H', Same H H' → Q r.1 r.2 H'
def EvRg (W : L2.WX) (cl : Nat → Addr) (t : TRg) (f : Sl → Rs (Int × Int)) : Prop := ∀ (B : Hp) (O0 O : List Addr) (σ : L2.St) (H : Hp) (ρ : Sl) (Q : Int → Int → Hp → Prop), Rp B O0 O σ H ρ → OkR W cl O σ H (f ρ) Q → t σ H Q
def rgOk1 (x : PyData) : Rs (Int × Int) := match x with
  | .int n => if -big ≤ n ∧ n ≤ 100000 then .ok (0, n) else .bad
  | _ => .bad
def rgOk2 (x y : PyData) : Rs (Int × Int) := match x, y with
  | .int a, .int b => if (-big ≤ a ∧ a ≤ big) ∧ (-big ≤ b ∧ b ≤ big) ∧ b - a ≤ 100000 then .ok (a, b) else .bad
  | _, _ => .bad
theorem ev_r1 {ta : TE} {f : Sl → Rs PyData} (h : EvG pR W cl ta f) : EvRg W cl (tRg1 ta) (fun ρ => (f ρ).bind rgOk1) := fun B O0 O σ H ρ Q I ok => by
  have ok : OkR W cl O σ H ((f ρ).bind rgOk1) Q := ok
  refine h B O0 O σ H ρ _ I ?_
  revert ok
  cases f ρ with
  | bad => exact fun z => z
  | err c p => exact fun z => z
  | ok x =>
    intro ok v H1 s1 p1
    cases x with
    | int n =>
      have ok : OkR W cl O σ H (if -big ≤ n ∧ n ≤ 100000 then Rs.ok ((0 : Int), n) else .bad) Q := ok
      by_cases hc : -big ≤ n ∧ n ≤ 100000
      · rw [if_pos hc] at ok
        exact ⟨n, rd_int p1, ok H1 s1⟩
      · rw [if_neg hc] at ok; exact False.elim ok
    | _ => exact False.elim ok
theorem ev_r2 {ta tb : TE} {f g : Sl → Rs PyData} (h : EvG pR W cl ta f) (k : EvG pR W cl tb g) : EvRg W cl (tRg2 ta tb) (fun ρ => (f ρ).bind fun x => (g ρ).bind fun y => rgOk2 x y) := fun B O0 O σ H ρ Q I ok => by
  have ok : OkR W cl O σ H ((f ρ).bind fun x => (g ρ).bind fun y => rgOk2 x y) Q := ok
  refine h B O0 O σ H ρ _ I ?_
  revert ok
  cases f ρ with
  | bad => exact fun z => z
  | err c p => exact fun z => z
  | ok x =>
    intro ok v H1 s1 p1
    refine k B O0 O σ H1 ρ _ (I.mono s1) ?_
    revert ok
    cases g ρ with
    | bad => exact fun z => z
    | err c p => exact fun ok d H' s eo => ok d H' (s1.trans s) eo
    | ok y =>
      intro ok u H2 s2 p2
      cases x with
      | int a =>
        cases y with
        | int b =>
          have ok : OkR W cl O σ H (if (-big ≤ a ∧ a ≤ big) ∧ (-big ≤ b ∧ b ≤ big) ∧ b - a ≤ 100000 then Rs.ok (a, b) else .bad) Q := ok
          by_cases hc : (-big ≤ a ∧ a ≤ big) ∧ (-big ≤ b ∧ b ≤ big) ∧ b - a ≤ 100000
          · rw [if_pos hc] at ok
            exact ⟨a, b, rd_int p1, rd_int p2, ok H2 (s1.trans s2)⟩
          · rw [if_neg hc] at ok; exact False.elim ok
        | _ => exact False.elim ok
      | _ => exact False.elim ok
def mkRL (r : Int × Int) : Rs PyData := if (-big ≤ r.1 ∧ r.1 ≤ big) ∧ (-big ≤ r.2 ∧ r.2 ≤ big) ∧ r.2 - r.1 ≤ 100000 then .ok (.list (rgD r.1 (r.2 - r.1).toNat)) else .bad
def mkRT (r : Int × Int) : Rs PyData := if (-big ≤ r.1 ∧ r.1 ≤ big) ∧ (-big ≤ r.2 ∧ r.2 ≤ big) ∧ r.2 - r.1 ≤ 100000 then .ok (.tuple (rgD r.1 (r.2 - r.1).toNat)) else .bad
theorem rgOk_of {a b : Int} (h : (-big ≤ a ∧ a ≤ big) ∧ (-big ≤ b ∧ b ≤ big) ∧ b - a ≤ 100000) : RgOk a b := by
  unfold big at h
  exact ⟨by omega, by omega, by omega, by omega, by omega⟩
theorem ev_lrg {te : TRg} {f : Sl → Rs (Int × Int)} (h : EvRg W cl te f) : EvG pF W cl (tLstRg te) (fun ρ => (f ρ).bind mkRL) := fun B O0 O σ H ρ Q I ok => by
  have ok : OkG pF W cl O σ H ((f ρ).bind mkRL) Q := ok
  refine h B O0 O σ H ρ _ I ?_
  revert ok
  cases f ρ with
  | bad => exact fun z => z
  | err c p => exact fun z => z
  | ok r =>
    intro ok H1 s1
    obtain ⟨hc, ok⟩ := okG_if ok
    exact ⟨rgOk_of hc, fun q hq => ok _ _ (s1.trans (same_new hq)) (mF O H H1 _ _ _ s1 (newF (I.mono s1).od hq (dq_rg _ _)))⟩
theorem ev_trg {te : TRg} {f : Sl → Rs (Int × Int)} (h : EvRg W cl te f) : EvG pF W cl (tTupRgF te) (fun ρ => (f ρ).bind mkRT) := fun B O0 O σ H ρ Q I ok => by
  have ok : OkG pF W cl O σ H ((f ρ).bind mkRT) Q := ok
  refine h B O0 O σ H ρ _ I ?_
  revert ok
  cases f ρ with
  | bad => exact fun z => z
  | err c p => exact fun z => z
  | ok r =>
    intro ok H1 s1
    obtain ⟨hc, ok⟩ := okG_if ok
    exact ⟨rgOk_of hc, fun q o hq hd => ok _ _ (s1.trans (same_new hq)) (mF O H H1 _ _ _ s1 (newF_tup (I.mono s1).od hq hd (dq_rg _ _)))⟩
def gR1 (f : Sl → Rs PyData) : Sl → Rs (Int × Int) := fun ρ => (f ρ).bind rgOk1
def gR2 (f g : Sl → Rs PyData) : Sl → Rs (Int × Int) := fun ρ => (f ρ).bind fun x => (g ρ).bind fun y => rgOk2 x y
def gLRg (f : Sl → Rs (Int × Int)) : Sl → Rs PyData := fun ρ => (f ρ).bind mkRL
def gTRg (f : Sl → Rs (Int × Int)) : Sl → Rs PyData := fun ρ => (f ρ).bind mkRT
structure DRg (X : Cx) (W : L2.WX) (cl : Nat → Addr) (e : Expr) (t : TRg) (f : Sl → Rs (Int × Int)) : Prop where
  pr : PRg X e t
  ev : EvRg W cl t f
theorem dr_1 {a : Expr} {ta : TE} {f : Sl → Rs PyData} {p pos : Pos} (hg : Gl X "range") (hm : X.mg "range" = none) (ha : DX pR X W cl a ta f) (na : starEach [a] X.env = (false, eval a X.env) :: starEach [] X.env := by rfl) : DRg X W cl (.Call (.Name "range" p) [a] [] pos) (tRg1 ta) (gR1 f) := ⟨prg_1 hg hm ha.pe na, ev_r1 ha.ev⟩
theorem dr_2 {a b : Expr} {ta tb : TE} {f g : Sl → Rs PyData} {p pos : Pos} (hg : Gl X "range") (hm : X.mg "range" = none) (ha : DX pR X W cl a ta f) (hb : DX pR X W cl b tb g) (na : starEach [a, b] X.env = (false, eval a X.env) :: starEach [b] X.env := by rfl)
    (nb : starEach [b] X.env = (false, eval b X.env) :: starEach [] X.env := by rfl) (hp : (backTo pos (starEach [b] X.env)).any (·.1) = false := by rfl) : DRg X W cl (.Call (.Name "range" p) [a, b] [] pos) (tRg2 ta tb) (gR2 f g) := ⟨prg_2 hg hm ha.pe hb.pe na nb hp, ev_r2 ha.ev hb.ev⟩
theorem d_lrg {e : Expr} {te : TRg} {f : Sl → Rs (Int × Int)} {p pos : Pos} (hc : X.calm = true) (hg : Gl X "list") (hm : X.mg "list" = none) (he : DRg X W cl e te f) (na : starEach [e] X.env = (false, eval e X.env) :: starEach [] X.env := by rfl) : DX pF X W cl (.Call (.Name "list" p) [e] [] pos) (tLstRg te) (gLRg f) := ⟨pe_listRg hc hg hm he.pr na, ev_lrg he.ev⟩
theorem d_trg {e : Expr} {te : TRg} {f : Sl → Rs (Int × Int)} {p pos : Pos} (hc : X.calm = true) (hg : Gl X "tuple") (hm : X.mg "tuple" = none) (he : DRg X W cl e te f) (na : starEach [e] X.env = (false, eval e X.env) :: starEach [] X.env := by rfl) : DX pF X W cl (.Call (.Name "tuple" p) [e] [] pos) (tTupRgF te) (gTRg f) := ⟨pe_tupRgF hc hg hm he.pr na, ev_trg he.ev⟩
end
end SB

namespace SB
open PySem PySem.Spec PyProof.Rows L2 RZ
section
variable {X : Cx} {W : L2.WX} {cl : Nat → Addr} {K : Frg}
/-! ### xs.count(x), xs.index(x), xs a list of flat values -/
def rCntF (K : Frg) : V → List V → Hp → VK → Prop := fun x xs H Q => ∃ (a : Addr) (ys : List V) (y : V), x = .ref a ∧ xs = [y] ∧ SqL K H a ys ∧ flatV y = true ∧ ys.all flatV = true ∧ Q (.int (ys.countP fun z => eqV z y : Nat)) H
theorem mt_cntF : MtR X "list.count" (rCntF X.K) := by
  intro pins s σ H x xs v us Q I rx rxs h
  obtain ⟨p, ys, y, rfl, rfl, hs, f2, f1, q⟩ := h
  cases rx
  obtain ⟨u, rfl, ru⟩ := rxs.one
  obtain ⟨its, rv, ⟨⟨cls, dd, data, sl⟩, n, ho, hc, hdn, hd⟩, hlen⟩ := I.list hs
  simp only at hc hd
  subst hc hd
  refine call_meets PySem.F.slot_list_count ⟨_, ho, rfl⟩ PySem.F.entry_list_count (PySem.F.args_list_count_2 _ _)
    (SeqAt.list_countAt p its.toArray n dd sl u (eqU y)) ⟨ho, fun z hz => mem_eqAt ru f2 rv f1 z (by simpa using hz), ?_⟩
  have ec : its.toArray.toList.countP (eqU y) = ys.countP fun z => eqV z y := count_eqU rv f1
  refine ⟨.int (ys.countP fun z => eqV z y : Nat), H, I.tok _, ⟨s.toks, ?_⟩, q⟩
  show Value.int ((its.toArray.toList.countP (eqU y) : Nat) : Int) s.toks = _
  rw [ec]
def pLCnt (r : Rs PyData) : PyData → Rs PyData
  | .list ds => r.bind fun y => if flatD y = true ∧ ds.all flatD = true then .ok (.int (ds.countP fun z => PyData.eqv z y : Nat)) else .bad
  | _ => .bad
def gLCnt (fo fe : Sl → Rs PyData) : Sl → Rs PyData := fun ρ => (fo ρ).bind (pLCnt (fe ρ))
theorem tyLR {H : Hp} {p : Addr} {vs : List V} (h : Rd H p (.lst vs)) : tyV K "list" (.ref p) H := .inl ⟨rfl, _, sqL_rd h⟩
theorem d_lcnt {o e : Expr} {to te : TE} {fo fe : Sl → Rs PyData} {apos cpos : Pos} (hK : X.K = K) (ho : DX pR X W cl o to fo) (he : DX pR X W cl e te fe) (hbase : attributeBase o "count" X.env (eval o X.env) = eval o X.env := by rfl)
    (hfew : ((backTo cpos (starEach [e] X.env)).all (fun x => !x.1) && (backToKw cpos (keywordEach [] X.env)).all (fun x => x.1.isSome) && decide ([e].length + ([] : List Keyword).length + (if ([] : List Keyword).isEmpty then 0 else 1) < 30)) = true := by rfl)
    (hline : (apos.endLine == cpos.line) = true := by rfl) (hs : starEach [e] X.env = (false, eval e X.env) :: starEach [] X.env := by rfl) (hplain : (backTo cpos (starEach [] X.env)).any (·.1) = false := by rfl) :
    DX pF X W cl (.Call (.Attribute o "count" apos) [e] [] cpos) (tBM K "list" (rCntF K) to (tCons te tNil)) (gLCnt fo fe) := by
  subst hK
  refine ⟨pe_bm PySem.F.plainAttrs_list PySem.F.slot_list_count PySem.F.type_list_count mt_cntF ho.pe (pa_cons he.pe pa_nil hs) hbase hfew hline hs hplain, fun B O0 O σ H ρ Q I ok =>
    ho.ev.go mF I ok fun x v H1 _ s1 I1 p1 ok1 => ?_⟩
  cases x with
  | list ds =>
    obtain ⟨p, vs, rfl, hp, ha⟩ := rd_lst p1
    refine ⟨tyLR hp, ?_⟩
    refine he.ev.go mF I1 ok1 fun y u H2 _ s2 I2 p2 ok2 => ?_
    obtain ⟨⟨h1, h2⟩, ok2⟩ := okG_if ok2
    obtain ⟨a, b⟩ := cnt_dq p2.dq h1 (dpAll_mono (hid_le.trans s2) ha) h2
    refine ⟨p, vs, u, rfl, rfl, sqL_rd (rd_mono s2 hp), flat_dq p2.dq h1, a, ?_⟩
    rw [b]
    exact ok2 _ H2 (Same.refl _) ⟨.int _, fun _ z => nomatch z⟩
  | _ => exact False.elim ok1
def idxD (ds : List PyData) (y : PyData) : Rs PyData := match ds.findIdx? fun z => PyData.eqv z y with
  | some j => .ok (.int (j : Nat))
  | none => .bad
def pLIdx (r : Rs PyData) : PyData → Rs PyData
  | .list ds => r.bind fun y => if flatD y = true ∧ ds.all flatD = true then idxD ds y else .bad
  | _ => .bad
def gLIdx (fo fe : Sl → Rs PyData) : Sl → Rs PyData := fun ρ => (fo ρ).bind (pLIdx (fe ρ))
theorem d_lidx {o e : Expr} {to te : TE} {fo fe : Sl → Rs PyData} {apos cpos : Pos} (hK : X.K = K) (ho : DX pR X W cl o to fo) (he : DX pR X W cl e te fe) (hbase : attributeBase o "index" X.env (eval o X.env) = eval o X.env := by rfl)
    (hfew : ((backTo cpos (starEach [e] X.env)).all (fun x => !x.1) && (backToKw cpos (keywordEach [] X.env)).all (fun x => x.1.isSome) && decide ([e].length + ([] : List Keyword).length + (if ([] : List Keyword).isEmpty then 0 else 1) < 30)) = true := by rfl)
    (hline : (apos.endLine == cpos.line) = true := by rfl) (hs : starEach [e] X.env = (false, eval e X.env) :: starEach [] X.env := by rfl) (hplain : (backTo cpos (starEach [] X.env)).any (·.1) = false := by rfl) :
    DX pF X W cl (.Call (.Attribute o "index" apos) [e] [] cpos) (tBM K "list" (rIndex K) to (tCons te tNil)) (gLIdx fo fe) := by
  subst hK
  refine ⟨pe_bm PySem.F.plainAttrs_list PySem.F.slot_list_index PySem.F.type_list_index mt_index ho.pe (pa_cons he.pe pa_nil hs) hbase hfew hline hs hplain, fun B O0 O σ H ρ Q I ok =>
    ho.ev.go mF I ok fun x v H1 _ s1 I1 p1 ok1 => ?_⟩
  cases x with
  | list ds =>
    obtain ⟨p, vs, rfl, hp, ha⟩ := rd_lst p1
    refine ⟨tyLR hp, ?_⟩
    refine he.ev.go mF I1 ok1 fun y u H2 _ s2 I2 p2 ok2 => ?_
    by_cases hc : flatD y = true ∧ ds.all flatD = true
    · rw [if_pos hc] at ok2
      obtain ⟨h1, h2⟩ := hc
      have ha2 := dpAll_mono (hid_le.trans s2) ha
      obtain ⟨a, _⟩ := cnt_dq p2.dq h1 ha2 h2
      unfold idxD at ok2
      cases e : ds.findIdx? (fun z => PyData.eqv z y) with
      | none => rw [e] at ok2; exact False.elim ok2
      | some j =>
        rw [e] at ok2
        obtain ⟨hj, ej, mj⟩ := List.findIdx?_eq_some_iff_getElem.mp e
        have eq1 : ∀ (m : Nat) (z : V), vs[m]? = some z → ∀ (hm : m < ds.length), eqV z u = PyData.eqv ds[m] y := fun m z hz hm => by
          obtain ⟨d', e', q'⟩ := dpAll_getV ha2 hz
          rw [List.getElem?_eq_getElem hm] at e'
          cases e'
          exact eqV_dq q' p2.dq (List.all_eq_true.mp h2 _ (List.getElem_mem hm)) h1
        have hl := dpAll_len ha2
        have hv : vs[j]? = some vs[j] := List.getElem?_eq_getElem (by omega)
        refine ⟨p, vs, u, j, vs[j], rfl, rfl, sqL_rd (rd_mono s2 hp), flat_dq p2.dq h1, a, hv, by rw [eq1 j _ hv hj]; exact ej, fun m z hm hz => ?_, ok2 _ H2 (Same.refl _) ⟨.int _, fun _ z => nomatch z⟩⟩
        rw [eq1 m z hz (by omega)]
        have := mj m hm
        simpa using this
    · rw [if_neg hc] at ok2; exact False.elim ok2
  | _ => exact False.elim ok1
end
/-! ### except C as e: xs.append([isinstance(e, C1), ..]) -/
section
variable {X : Cx} {cl : Nat → Addr} {kn : Nat → Bool} {K : Frg}
def tIsEs (K : Frg) (i : Nat) (a : Addr) (cls : Value) (d : Option Addr) (cl : Nat → Addr) : List Nat → TA
  | [] => tNil
  | k :: ks => tCons (tIsE K i a cls d (cl k)) (tIsEs K i a cls d cl ks)
theorem isEs_ok (F : XF K cl kn) {i : Nat} {a : Addr} {c : Nat} {σ : L2.St} {H : Hp} (hc : kn c = true) (hi : σ[i]? = some (some (.ref a))) : ∀ {ks : List Nat} {Q : List V → Hp → Prop}, (∀ k ∈ ks, kn k = true) → Q (ks.map fun k => V.bl (subX c k)) H → tIsEs K i a (.ref (cl c)) none cl ks σ H Q
  | [], Q, _, q => q
  | k :: ks, Q, hk, q => by
    show tIsE K i a (.ref (cl c)) none (cl k) σ H fun x H1 => tIsEs K i a (.ref (cl c)) none cl ks σ H1 fun xs H2 => Q (x :: xs) H2
    exact isE_ok F hc (hk k List.mem_cons_self) hi (isEs_ok (Q := fun xs H2 => Q (V.bl (subX c k) :: xs) H2) F hc hi (fun k' h => hk k' (List.mem_cons_of_mem _ h)) q)
def tSuiteA (K : Frg) (i j : Nat) (cl : Nat → Addr) (ks : List Nat) : Addr → Value → Option Addr → TS := fun a cls d => tDrop (tBM K "list" rAppend (tVar j) (tCons (tLst (tIsEs K i a cls d cl ks)) tNil))
def sdA (j : Nat) (ks : List Nat) : Sd := fun c p ρ => match p with
  | none => sApp j (gC (.list (ks.map fun k => PyData.bool (subX c k)))) ρ
  | some _ => .bad
theorem dq_bools {H : Hp} (f : Nat → Bool) : ∀ ks : List Nat, DqAll H (ks.map fun k => V.bl (f k)) (ks.map fun k => PyData.bool (f k))
  | [] => .nil
  | k :: ks => .cons (.bl _) (dq_bools f ks)
theorem Rp.hole {B : Hp} {O0 O : List Addr} {σ : L2.St} {H : Hp} {ρ : Sl} (I : Rp B O0 O σ H ρ) (i : Nat) (v : Option V) : Rp B O0 O (σ.set i v) H (ρ.set i none) := by
  have back : ∀ {k : Nat} {c : Cl}, (ρ.set i none)[k]? = some (some c) → i ≠ k ∧ ρ[k]? = some (some c) := fun {k c} e => by
    by_cases z : i = k
    · subst z
      by_cases hl : i < ρ.length
      · rw [List.getElem?_set_self hl] at e; cases e
      · rw [List.getElem?_eq_none (by rw [List.length_set]; omega)] at e; cases e
    · rw [List.getElem?_set_ne z] at e; exact ⟨z, e⟩
  refine ⟨I.ex, I.sub, I.b0, I.od, by rw [List.length_set, List.length_set]; exact I.len, fun k c e => ?_, fun k l c c' hkl hk hl o o' => ?_⟩
  · obtain ⟨z, e⟩ := back e
    obtain ⟨v, a, b⟩ := I.sl k c e
    exact ⟨v, by rw [List.getElem?_set_ne z]; exact a, b⟩
  · obtain ⟨z1, e1⟩ := back hk
    obtain ⟨z2, e2⟩ := back hl
    rw [List.getElem?_set_ne z1, List.getElem?_set_ne z2]
    exact I.dj k l c c' hkl e1 e2 o o'
theorem hev_A (F : XF K cl kn) {k i j : Nat} {ks : List Nat} (hk : kn k = true) (hks : ∀ c ∈ ks, kn c = true) (hl : ks.length ≤ 100) : HEv cl kn (.ref (cl k), some i, tSuiteA K i j cl ks) (k, some i, sdA j ks) := by
  refine .as hk fun c p a d B O0 O σ H ρ E hc hi I eo na ok => ?_
  cases p with
  | some x => exact False.elim ok
  | none =>
    cases eo
    have hs : (σ.set i (some (V.ref a)))[i]? = some (some (.ref a)) := List.getElem?_set_self hi
    have J := I.hole i (some (.ref a))
    have ok : OkS W0 cl B O0 O H (oUn i (sApp j (gC (.list (ks.map fun k => PyData.bool (subX c k)))) (ρ.set i none))) E := ok
    unfold sApp at ok
    split at ok
    · rename_i xs e
      obtain ⟨q, vs, hv, hO, hq, ha⟩ := J.ownAt e
      refine ⟨.ref q, hv, tyL hq, ?_⟩
      refine isEs_ok F hc hs hks ⟨by rw [List.length_map]; exact Nat.le_trans hl (by decide), fun p2 hp2 => ?_⟩
      have s1 := same_new (o := .lst (ks.map fun k => V.bl (subX c k))) hp2
      have J1 := J.mono s1
      obtain ⟨q', us, hv', hO', hq', ha'⟩ := J1.ownAt e
      rw [hv] at hv'; cases hv'
      have nd : Dq (hid O (upd H p2 (.lst (ks.map fun k => V.bl (subX c k))))) (.ref p2) (.list (ks.map fun k => PyData.bool (subX c k))) := (newF J.od hp2 (dq_bools _ ks)).1
      have ok : OkS W0 cl B O0 O H (oUn i (if xs.length < sz then Ot.nx ((ρ.set i none).set j (some (.own (xs ++ [.list (ks.map fun k => PyData.bool (subX c k))])))) else .bad)) E := ok
      by_cases hz : xs.length < sz
      · rw [if_pos hz] at ok
        obtain ⟨M, sm⟩ := J1.mut e hv hq' hO (dpAll_app ha' (.cons nd .nil))
        refine ⟨q, us, .ref p2, rfl, rfl, hq', by rw [dpAll_len ha']; exact sz_lt hz, ?_⟩
        have M2 := M.hole i none
        exact ok _ O _ M2 ((hid_same s1).trans sm)
      · rw [if_neg hz] at ok; exact False.elim ok
    · exact False.elim ok
/-- the written list of isinstance(e, Ck) -/
inductive IsEs (X : Cx) (n : Str) (cl : Nat → Addr) : List Expr → List Nat → Prop
  | nil : IsEs X n cl [] []
  | cons {x : Str} {k : Nat} {p q r pos : Pos} {es : List Expr} {ks : List Nat} (hgC : Gl X x) (hmC : X.mg x = some (.ref (cl k))) (hdx : (x == ("__debug__" : Str)) = false) (h1 : starEach [.Name n q, .Name x r] X.env = (false, eval (.Name n q) X.env) :: starEach [.Name x r] X.env) (h2 : starEach [.Name x r] X.env = (false, eval (.Name x r) X.env) :: starEach [] X.env) (h3 : (backTo pos (starEach [.Name x r] X.env)).any (·.1) = false)
      (hs : starEach (.Call (.Name "isinstance" p) [.Name n q, .Name x r] [] pos :: es) X.env = (false, eval (.Call (.Name "isinstance" p) [.Name n q, .Name x r] [] pos) X.env) :: starEach es X.env) (b : IsEs X n cl es ks) :
      IsEs X n cl (.Call (.Name "isinstance" p) [.Name n q, .Name x r] [] pos :: es) (k :: ks)
theorem pa_isEs {i : Nat} {n : Str} {a : Addr} {oe : Obj} {cls : Value} {d : Option Addr} {pn : List (Addr × Obj)} (hz : Zc cls d oe) (hf : ∃ vs, oe.data = .fields vs) (hg : Gl X "isinstance") (hm : X.mg "isinstance" = none)
    (hN : X.N[i]? = some n) (hv : Vis X.env.scope n) (hd : (n == ("__debug__" : Str)) = false) (hcd : (n == ("__classdict__" : Str)) = false) {es : List Expr} {ks : List Nat} (h : IsEs X n cl es ks) : PA (X.suite a ((a, oe) :: pn)) es (tIsEs X.K i a cls d cl ks) := by
  induction h with
  | nil => exact pa_nil
  | cons hgC hmC hdx h1 h2 h3 hs b ih => exact pa_cons (pe_isE hz hf hg hm hgC hmC hN hv hd hcd hdx h1 h2 h3) ih hs
theorem ps_suiteA {i j : Nat} {n y : Str} {a : Addr} {oe : Obj} {cls : Value} {d : Option Addr} {pn : List (Addr × Obj)} {es : List Expr} {ks : List Nat} {p apos cpos lpos pos : Pos} (hz : Zc cls d oe) (hf : ∃ vs, oe.data = .fields vs) (hg : Gl X "isinstance") (hm : X.mg "isinstance" = none) (h : IsEs X n cl es ks)
    (hN : X.N[i]? = some n := by rfl) (hv : Vis X.env.scope n := by first | exact Or.inl rfl | exact Or.inr (Or.inl rfl) | exact Or.inr (Or.inr rfl)) (hd : (n == ("__debug__" : Str)) = false := by decide) (hcd : (n == ("__classdict__" : Str)) = false := by decide)
    (hN2 : X.N[j]? = some y := by rfl) (hv2 : Vis X.env.scope y := by first | exact Or.inl rfl | exact Or.inr (Or.inl rfl) | exact Or.inr (Or.inr rfl)) (hd2 : (y == ("__debug__" : Str)) = false := by decide) (hcd2 : (y == ("__classdict__" : Str)) = false := by decide)
    (hbase : attributeBase (.Name y p) "append" X.env (eval (.Name y p) X.env) = eval (.Name y p) X.env := by rfl)
    (hfew : ((backTo cpos (starEach [.List es lpos] X.env)).all (fun x => !x.1) && (backToKw cpos (keywordEach [] X.env)).all (fun x => x.1.isSome) && decide ([Expr.List es lpos].length + ([] : List Keyword).length + (if ([] : List Keyword).isEmpty then 0 else 1) < 30)) = true := by rfl)
    (hline : (apos.endLine == cpos.line) = true := by rfl) (h1 : starEach [.List es lpos] X.env = (false, eval (.List es lpos) X.env) :: starEach [] X.env := by rfl) (hpl : (backTo cpos (starEach [] X.env)).any (·.1) = false := by rfl)
    (hs : swapsWith (.Call (.Attribute (.Name y p) "append" apos) [.List es lpos] [] cpos) none pos.line X.env = pure false := by rfl) :
    PSs (X.suite a ((a, oe) :: pn)) [.Expr (.Call (.Attribute (.Name y p) "append" apos) [.List es lpos] [] cpos) pos] (tSuiteA X.K i j cl ks a cls d) :=
  pss_one (ps_expr (pe_bm PySem.F.plainAttrs_list PySem.F.slot_list_append PySem.F.type_list_append mt_append (pe_var hN2 hv2 hd2 hcd2) (pa_cons (pe_lst (pa_isEs hz hf hg hm hN hv hd hcd h)) pa_nil h1) hbase hfew hline h1 hpl) hs)
end
end SB

namespace SB
open PySem
section
variable {α β : Type} {ρ ρ' : Sl} {i j : Nat} {x y : PyData}
theorem b_ok {a : α} {f : α → Rs β} : (Rs.ok a).bind f = f a := rfl
theorem b_err {c : Nat} {p : Option PyData} {f : α → Rs β} : (Rs.err c p).bind f = .err c p := rfl
theorem b_bad {f : α → Rs β} : (Rs.bad : Rs α).bind f = .bad := rfl
theorem o_ok {a : α} {k : α → Ot} : oBind (.ok a) ρ k = k a := rfl
theorem o_err {c : Nat} {p : Option PyData} {k : α → Ot} : oBind (.err c p) ρ k = .er c p ρ := rfl
theorem n_ok {a : α} : noErr (.ok a) = .ok a := rfl
theorem q_nx {b : Sl → Ot} {a : Sl → Ot} (h : a ρ = .nx ρ') : sSeq a b ρ = b ρ' := by unfold sSeq; rw [h]
theorem q_rt {b : Sl → Ot} {a : Sl → Ot} {d : PyData} (h : a ρ = .rt d) : sSeq a b ρ = .rt d := by unfold sSeq; rw [h]
theorem q_er {b : Sl → Ot} {a : Sl → Ot} {c : Nat} {p : Option PyData} (h : a ρ = .er c p ρ') : sSeq a b ρ = .er c p ρ' := by unfold sSeq; rw [h]
/-- a sequence, by its first part's end -/
def seqK (b : Sl → Ot) : Ot → Ot
  | .nx ρ' => b ρ'
  | o => o
theorem seqK_nx {b : Sl → Ot} : seqK b (.nx ρ) = b ρ := rfl
theorem seqK_rt {b : Sl → Ot} {d : PyData} : seqK b (.rt d) = .rt d := rfl
theorem seqK_er {b : Sl → Ot} {c : Nat} {p : Option PyData} : seqK b (.er c p ρ) = .er c p ρ := rfl
theorem sSeq_K {a b : Sl → Ot} : sSeq a b ρ = seqK b (a ρ) := by
  unfold sSeq seqK
  cases a ρ <;> rfl
theorem v_d (h : ρ[i]? = some (some (.d x))) : gVar i ρ = .ok x := by unfold gVar; rw [h]
theorem v_Rd (h : ρ[i]? = some (some (.d x))) : gVarR i ρ = .ok x := by unfold gVarR; rw [h]
theorem v_Ro {xs : List PyData} (h : ρ[i]? = some (some (.own xs))) : gVarR i ρ = .ok (.list xs) := by unfold gVarR; rw [h]
theorem v_Fo {xs : List PyData} (h : ρ[i]? = some (some (.own xs))) : gVarF i ρ = .ok (.list xs) := by unfold gVarF; rw [h]
theorem v_Fi {k : Int} (h : ρ[i]? = some (some (.d (.int k)))) : gVarF i ρ = .ok (.int k) := by unfold gVarF; rw [h]
theorem v_Fb {k : Bool} (h : ρ[i]? = some (some (.d (.bool k)))) : gVarF i ρ = .ok (.bool k) := by unfold gVarF; rw [h]
theorem v_Fs {k : Str} (h : ρ[i]? = some (some (.d (.str k)))) : gVarF i ρ = .ok (.str k) := by unfold gVarF; rw [h]
theorem v_Ft {k : List PyData} (h : ρ[i]? = some (some (.d (.tuple k)))) : gVarF i ρ = .ok (.tuple k) := by unfold gVarF; rw [h]
theorem v_Fn (h : ρ[i]? = some (some (.d .none))) : gVarF i ρ = .ok .none := by unfold gVarF; rw [h]
theorem f_o {xs : List PyData} (h : ρ[i]? = some (some (.own xs))) : frz i ρ = ρ.set i (some (.d (.list xs))) := by unfold frz; rw [h]
theorem f_d (h : ρ[i]? = some (some (.d x))) : frz i ρ = ρ := by unfold frz; rw [h]
theorem a_i {k : Int} : asI (.int k) = .ok k := rfl
theorem a_b {k : Bool} : asB (.bool k) = .ok k := rfl
theorem a_l {k : List PyData} : asL (.list k) = .ok k := rfl
theorem a_sl {k : List PyData} : asSeq (.list k) = .ok k := rfl
theorem a_st {k : List PyData} : asSeq (.tuple k) = .ok k := rfl
theorem l_i {k : Int} : noL (.int k) = .ok (.int k) := rfl
theorem l_b {k : Bool} : noL (.bool k) = .ok (.bool k) := rfl
theorem l_s {k : Str} : noL (.str k) = .ok (.str k) := rfl
theorem l_t {k : List PyData} : noL (.tuple k) = .ok (.tuple k) := rfl
theorem l_n : noL .none = .ok .none := rfl
theorem t_b {k : Bool} : truth (.bool k) = .ok k := rfl
theorem t_l {k : List PyData} : truth (.list k) = .ok (!k.isEmpty) := rfl
theorem t_t {k : List PyData} : truth (.tuple k) = .ok (!k.isEmpty) := rfl
theorem p_add {a b : Int} : pAdd (.int a) (.int b) = .ok (.int (a + b)) := rfl
theorem p_addT {a b : List PyData} (h : a.length + b.length ≤ 100000) : pAdd (.tuple a) (.tuple b) = .ok (.tuple (a ++ b)) := if_pos h
theorem p_addL {a b : List PyData} (h : a.length + b.length ≤ 100000) : pAdd (.list a) (.list b) = .ok (.list (a ++ b)) := if_pos h
theorem p_sub {a b : Int} : pSub (.int a) (.int b) = .ok (.int (a - b)) := rfl
theorem p_mul {a b : Int} (h : mulOk a b) : pMul (.int a) (.int b) = .ok (.int (a * b)) := if_pos h
theorem p_mod {a b : Int} (h : 0 < b) : pMod (.int a) (.int b) = .ok (.int (a % b)) := if_pos h
theorem p_div {a b : Int} (h : L2.CDiv a b) : pDiv (.int a) (.int b) = .ok (.int (a / b)) := if_pos h
theorem p_pow {a b : Int} (h : L2.CPow a b) : pPow (.int a) (.int b) = .ok (.int (a ^ b.toNat)) := if_pos h
theorem p_lt {a b : Int} : pLt (.int a) (.int b) = .ok (.bool (decide (a < b))) := rfl
theorem p_le {a b : Int} : pLe (.int a) (.int b) = .ok (.bool (decide (a ≤ b))) := rfl
theorem p_gt {a b : Int} : pGt (.int a) (.int b) = .ok (.bool (decide (b < a))) := rfl
theorem p_ge {a b : Int} : pGe (.int a) (.int b) = .ok (.bool (decide (b ≤ a))) := rfl
theorem p_min {a b : Int} : pMin (.int a) (.int b) = .ok (.int (if b < a then b else a)) := rfl
theorem p_max {a b : Int} : pMax (.int a) (.int b) = .ok (.int (if b > a then b else a)) := rfl
theorem p_lenL {k : List PyData} : pLen (.list k) = .ok (.int k.length) := rfl
theorem p_lenT {k : List PyData} : pLen (.tuple k) = .ok (.int k.length) := rfl
theorem p_tupL {k : List PyData} : pTuple (.list k) = .ok (.tuple k) := rfl
theorem p_tupT {k : List PyData} : pTuple (.tuple k) = .ok (.tuple k) := rfl
theorem p_lstL {k : List PyData} : pList (.list k) = .ok (.list k) := rfl
theorem p_lstT {k : List PyData} : pList (.tuple k) = .ok (.list k) := rfl
theorem p_ixL {k : List PyData} {a : Int} (h : L2.atI k a = some x) : pIx (.list k) (.int a) = .ok x := by show ixD k a = _; unfold ixD; rw [h]
theorem p_ixT {k : List PyData} {a : Int} (h : L2.atI k a = some x) : pIx (.tuple k) (.int a) = .ok x := by show ixD k a = _; unfold ixD; rw [h]
theorem p_slL {k : List PyData} {a b : Option Int} : pSl (.list k) a b = .ok (.list (cutD k a b)) := rfl
theorem p_slT {k : List PyData} {a b : Option Int} : pSl (.tuple k) a b = .ok (.tuple (cutD k a b)) := rfl
theorem p_eq (h : SeqAt.shaped x = true) (k : SeqAt.shaped y = true) : pEq x y = .ok (.bool (PyData.eqv x y)) := if_pos ⟨h, k⟩
theorem p_ne (h : SeqAt.shaped x = true) (k : SeqAt.shaped y = true) : pNe x y = .ok (.bool (!PyData.eqv x y)) := if_pos ⟨h, k⟩
theorem p_isN : pIs x .none = .ok (.bool (isNoneD x)) := rfl
theorem p_isNotN : pIsNot x .none = .ok (.bool (!isNoneD x)) := rfl
theorem r_1 {k : Int} (h : -1000000000 ≤ k ∧ k ≤ 1000000000) : rg1 (.int k) = .ok (rgD 0 k.toNat) := if_pos h
theorem r_2 {a b : Int} (h : (-1000000000 ≤ a ∧ a ≤ 1000000000) ∧ (-1000000000 ≤ b ∧ b ≤ 1000000000)) : rg2 (.int a) (.int b) = .ok (rgD a (b - a).toNat) := if_pos h
theorem c_k {q : Int → Int → Bool} {a b : Int} : gChainK q a (.int b) = .ok (.bool (q a b)) := rfl
theorem c_j {p q : Int → Int → Bool} {r : Rs PyData} {a b : Int} : gChainJ p q r (.int a) (.int b) = if p a b = true then r.bind (gChainK q b) else .ok (.bool false) := rfl
theorem i_non {T : String} : isiD T .none = .ok false := rfl
theorem i_bl {T : String} {b : Bool} : isiD T (.bool b) = .ok (T == "bool" || T == "int") := rfl
theorem i_int {T : String} {b : Int} : isiD T (.int b) = .ok (T == "int") := rfl
theorem i_str {T : String} {b : Str} : isiD T (.str b) = .ok (T == "str") := rfl
theorem i_lst {T : String} {b : List PyData} : isiD T (.list b) = .ok (T == "list") := rfl
theorem i_tup {T : String} {b : List PyData} : isiD T (.tuple b) = .ok (T == "tuple") := rfl
def mkT (ds : List PyData) : Rs PyData := if ds.length ≤ sz then .ok (.tuple ds) else .bad
def mkL (ds : List PyData) : Rs PyData := if ds.length ≤ sz then .ok (.list ds) else .bad
theorem gTup_b {g : Sl → Rs (List PyData)} : gTup g ρ = (g ρ).bind mkT := rfl
theorem gLst_b {g : Sl → Rs (List PyData)} : gLst g ρ = (g ρ).bind mkL := rfl
theorem mkT_ok {ds : List PyData} (hl : ds.length ≤ 100000) : mkT ds = .ok (.tuple ds) := if_pos hl
theorem mkL_ok {ds : List PyData} (hl : ds.length ≤ 100000) : mkL ds = .ok (.list ds) := if_pos hl
theorem sap {xs : List PyData} {f : Sl → Rs PyData} (h : ρ[i]? = some (some (.own xs))) (hl : xs.length < 100000) : sApp i f ρ = oBind (f ρ) ρ fun d => .nx (ρ.set i (some (.own (xs ++ [d])))) := by
  unfold sApp
  rw [h]
  simp only [show xs.length < sz from hl, if_true]
def itK (i : Nat) (xs : List PyData) (d : PyData) (ρ : Sl) (k : Int) : Ot := match L2.ixN xs.length k with
  | some j => .nx (ρ.set i (some (.own (xs.set j d))))
  | none => .bad
theorem sit {xs : List PyData} {fk f : Sl → Rs PyData} (h : ρ[i]? = some (some (.own xs))) : sItem i fk f ρ = oBind (f ρ) ρ fun d => oBind ((fk ρ).bind asI) ρ fun k => itK i xs d ρ k := by
  unfold sItem
  simp only [h]
  rfl
theorem itK_ok {xs : List PyData} {d : PyData} {k : Int} {j : Nat} (hj : L2.ixN xs.length k = some j) : itK i xs d ρ k = .nx (ρ.set i (some (.own (xs.set j d)))) := by
  unfold itK
  rw [hj]
def exK (i : Nat) (xs : List PyData) (ρ : Sl) (ds : List PyData) : Ot := if xs.length + ds.length ≤ sz then .nx (ρ.set i (some (.own (xs ++ ds)))) else .bad
theorem sex {xs : List PyData} {f : Sl → Rs PyData} (h : ρ[i]? = some (some (.own xs))) : sExt i f ρ = oBind ((f ρ).bind asSeq) ρ (exK i xs ρ) := by
  unfold sExt
  simp only [h]
  rfl
theorem exK_ok {xs ds : List PyData} (hl : xs.length + ds.length ≤ 100000) : exK i xs ρ ds = .nx (ρ.set i (some (.own (xs ++ ds)))) := if_pos hl
theorem asInts_ints : ∀ xs : List Int, asInts (xs.map PyData.int) = some xs
  | [] => rfl
  | x :: xs => by
    show (asInts (xs.map PyData.int)).map (x :: ·) = _
    rw [asInts_ints xs]; rfl
def reK (i : Nat) (xs : List Int) (ρ : Sl) (k : Int) : Ot := if k ∈ xs then .nx (ρ.set i (some (.own ((xs.erase k).map PyData.int)))) else .bad
theorem sre {xs : List Int} {f : Sl → Rs PyData} (h : ρ[i]? = some (some (.own (xs.map PyData.int)))) : sRem i f ρ = oBind ((f ρ).bind asI) ρ (reK i xs ρ) := by
  unfold sRem
  simp only [h, asInts_ints]
  rfl
theorem reK_ok {xs : List Int} {k : Int} (hk : k ∈ xs) : reK i xs ρ k = .nx (ρ.set i (some (.own ((xs.erase k).map PyData.int)))) := if_pos hk
theorem p_srtL {xs : List Int} : pSorted (.list (xs.map PyData.int)) = .ok (.list ((sortI xs).map PyData.int)) := by
  unfold pSorted
  simp only [asInts_ints]
theorem p_srtT {xs : List Int} : pSorted (.tuple (xs.map PyData.int)) = .ok (.list ((sortI xs).map PyData.int)) := by
  unfold pSorted
  simp only [asInts_ints]
theorem p_sumL {xs : List Int} : pSum (.list (xs.map PyData.int)) = .ok (.int xs.sum) := by
  unfold pSum
  simp only [asInts_ints]
theorem p_sumT {xs : List Int} : pSum (.tuple (xs.map PyData.int)) = .ok (.int xs.sum) := by
  unfold pSum
  simp only [asInts_ints]
theorem rs_rt : (Ot.rt x).rs = .ok x := rfl
theorem rs_nx : (Ot.nx ρ).rs = .ok .none := rfl
theorem rs_er {c : Nat} {p : Option PyData} : (Ot.er c p ρ).rs = .err c p := rfl
theorem if_bt {a b : Ot} : (if true = true then a else b) = a := if_pos rfl
end
/-! ### loops -/
theorem forLoop_inv {set : PyData → Sl → Option Sl} {body : Sl → Ot} (P : Nat → Sl → Prop) : ∀ (ds : List PyData) (k : Nat) (ρ : Sl), P k ρ →
    (∀ i d ρ, ds[i]? = some d → P (k + i) ρ → ∃ ρ1 ρ2, set d ρ = some ρ1 ∧ body ρ1 = .nx ρ2 ∧ P (k + i + 1) ρ2) → ∃ ρ', forLoop set body ds ρ = .nx ρ' ∧ P (k + ds.length) ρ'
  | [], k, ρ, h, _ => ⟨ρ, rfl, h⟩
  | d :: ds, k, ρ, h, st => by
    obtain ⟨ρ1, ρ2, e1, e2, h2⟩ := st 0 d ρ rfl h
    obtain ⟨ρ', e3, h3⟩ := forLoop_inv P ds (k + 1) ρ2 h2 fun i d' ρ' hd hp => by
      have := st (i + 1) d' ρ' (by simpa using hd) (by rw [show k + (i + 1) = k + 1 + i by omega]; exact hp)
      rw [show k + (i + 1) + 1 = k + 1 + i + 1 by omega] at this
      exact this
    refine ⟨ρ', ?_, by rw [List.length_cons, show k + (ds.length + 1) = k + 1 + ds.length by omega]; exact h3⟩
    unfold forLoop
    simp only [e1, e2]
    exact e3
theorem forLoop_cons {set : PyData → Sl → Option Sl} {body : Sl → Ot} {d : PyData} {ds : List PyData} {ρ ρ1 : Sl} (h : set d ρ = some ρ1) : forLoop set body (d :: ds) ρ = seqK (forLoop set body ds) (body ρ1) := by
  unfold forLoop
  rw [h]
  dsimp only
  cases body ρ1 <;> rfl
theorem lc_eq {set : PyData → Sl → Option Sl} {test : Sl → Rs Bool} {elt : Sl → Rs PyData} {ρ : Sl} (p : PyData → Bool) (f : PyData → PyData) : ∀ (ds : List PyData),
    (∀ d ∈ ds, ∃ ρ1, set d ρ = some ρ1 ∧ test ρ1 = .ok (p d) ∧ (p d = true → elt ρ1 = .ok (f d))) → lcLoop set test elt ρ ds = .ok ((ds.filter p).map f)
  | [], _ => rfl
  | d :: ds, h => by
    obtain ⟨ρ1, e1, e2, e3⟩ := h d List.mem_cons_self
    have ih := lc_eq p f ds fun d' hd => h d' (List.mem_cons_of_mem _ hd)
    unfold lcLoop
    simp only [e1, e2, noErr, Rs.bind]
    cases hp : p d with
    | false => rw [List.filter_cons_of_neg (by rw [hp]; exact Bool.false_ne_true), if_neg Bool.false_ne_true]; exact ih
    | true =>
      rw [List.filter_cons_of_pos hp, if_pos rfl, e3 hp, ih]
      rfl
theorem gLc_eq {vs : List Nat} {items : Sl → Rs (List PyData)} {set : PyData → Sl → Option Sl} {test : Sl → Rs Bool} {elt : Sl → Rs PyData} {ρ : Sl} {ds : List PyData} (p : PyData → Bool) (f : PyData → PyData) (h : items ρ = .ok ds) (hl : ds.length ≤ 100000)
    (hh : ∀ d ∈ ds, ∃ ρ1, set d (wipeS ρ vs) = some ρ1 ∧ test ρ1 = .ok (p d) ∧ (p d = true → elt ρ1 = .ok (f d))) : gLc vs items set test elt ρ = .ok (.list ((ds.filter p).map f)) := by
  unfold gLc
  rw [h, b_ok, if_pos (show ds.length ≤ sz from hl), lc_eq p f ds hh]
  rfl
theorem rgD_get2 {lo : Int} {n i : Nat} {d : PyData} (h : (rgD lo n)[i]? = some d) : d = .int (lo + (i : Nat)) ∧ i < n := ⟨rgD_get h, by
  obtain ⟨h1, _⟩ := List.getElem?_eq_some_iff.mp h
  rw [rgD_len] at h1; exact h1⟩
/-! ### lists of ints -/
theorem atI_ints (ns : List Int) (k : Int) (h0 : 0 ≤ k) (h : k < ns.length) : L2.atI (ns.map PyData.int) k = some (.int (ns.getD k.toNat 0)) := by
  unfold L2.atI L2.ixN
  rw [List.length_map, if_pos h0, if_pos h]
  have hk : k.toNat < ns.length := by omega
  simp [hk]
theorem ixN_pos {n : Nat} {k : Int} (h0 : 0 ≤ k) (h : k < n) : L2.ixN n k = some k.toNat := by
  unfold L2.ixN
  rw [if_pos h0, if_pos h]
theorem eqvAll_ints : ∀ xs ys : List Int, PyData.eqvAll (xs.map PyData.int) (ys.map PyData.int) = decide (xs = ys)
  | [], [] => by simp [PyData.eqvAll]
  | [], y :: ys => by simp [PyData.eqvAll]
  | x :: xs, [] => by simp [PyData.eqvAll]
  | x :: xs, y :: ys => by
    simp only [List.map_cons, PyData.eqvAll, PyData.eqv, eqvAll_ints xs ys, List.cons.injEq]
    by_cases h : x = y <;> simp [h]
theorem eqv_T (xs ys : List Int) : PyData.eqv (.tuple (xs.map PyData.int)) (.tuple (ys.map PyData.int)) = decide (xs = ys) := by
  rw [PyData.eqv]; exact eqvAll_ints xs ys
theorem eqv_I (a b : Int) : PyData.eqv (.int a) (.int b) = decide (a = b) := by
  rw [PyData.eqv]; by_cases h : a = b <;> simp [h]
theorem lay_ints : ∀ xs : List Int, PyData.canLayAll0 (xs.map PyData.int) = true ∧ PyData.depthAll (xs.map PyData.int) = 0
  | [] => by simp [PyData.canLayAll0, PyData.depthAll]
  | x :: xs => by
    obtain ⟨a, b⟩ := lay_ints xs
    simp [PyData.canLayAll0, PyData.canLay0, PyData.depthAll, PyData.depth, a, b]
theorem shp_i (a : Int) : SeqAt.shaped (.int a) = true := by simp [SeqAt.shaped, PyData.canLay0, PyData.depth]
theorem shp_b (a : Bool) : SeqAt.shaped (.bool a) = true := by simp [SeqAt.shaped, PyData.canLay0, PyData.depth]
theorem shp_n : SeqAt.shaped .none = true := by simp [SeqAt.shaped, PyData.canLay0, PyData.depth]
theorem shp_T (xs : List Int) : SeqAt.shaped (.tuple (xs.map PyData.int)) = true := by
  obtain ⟨a, b⟩ := lay_ints xs
  simp [SeqAt.shaped, PyData.canLay0, PyData.depth, a, b]
theorem shp_L (xs : List Int) : SeqAt.shaped (.list (xs.map PyData.int)) = true := by
  obtain ⟨a, b⟩ := lay_ints xs
  simp [SeqAt.shaped, PyData.canLay0, PyData.depth, a, b]
theorem flat_ints : ∀ xs : List Int, (xs.map PyData.int).all flatD = true
  | [] => rfl
  | x :: xs => by rw [List.map_cons, List.all_cons, flat_ints xs]; rfl
theorem any_ints (xs : List Int) (k : Int) : (xs.map PyData.int).any (fun z => PyData.eqv z (.int k)) = decide (k ∈ xs) := by
  induction xs with
  | nil => rfl
  | cons x xs ih =>
    rw [List.map_cons, List.any_cons, ih, eqv_I]
    by_cases h : x = k
    · simp [h]
    · have : ¬ k = x := fun e => h e.symm
      simp [h, this]
theorem p_inT {xs : List Int} {k : Int} : pIn false (.int k) (.tuple (xs.map PyData.int)) = .ok (.bool (decide (k ∈ xs))) := by
  show (if flatD (.int k) = true ∧ (xs.map PyData.int).all flatD = true then _ else _) = _
  rw [if_pos ⟨rfl, flat_ints xs⟩, any_ints]
  rfl
theorem p_ninT {xs : List Int} {k : Int} : pIn true (.int k) (.tuple (xs.map PyData.int)) = .ok (.bool (!decide (k ∈ xs))) := by
  show (if flatD (.int k) = true ∧ (xs.map PyData.int).all flatD = true then _ else _) = _
  rw [if_pos ⟨rfl, flat_ints xs⟩, any_ints]
  rfl
theorem p_inL {xs : List Int} {k : Int} : pIn false (.int k) (.list (xs.map PyData.int)) = .ok (.bool (decide (k ∈ xs))) := by
  show (if SeqAt.shaped (.int k) = true ∧ SeqAt.shaped (.list (xs.map PyData.int)) = true then _ else _) = _
  rw [if_pos ⟨shp_i k, shp_L xs⟩, any_ints]
  rfl
theorem sum_set : ∀ (l : List Int) (i : Nat) (v : Int), i < l.length → (l.set i v).sum = l.sum - l.getD i 0 + v
  | [], i, v, h => by simp at h
  | x :: l, 0, v, h => by simp; omega
  | x :: l, i + 1, v, h => by
    have := sum_set l i v (by simpa using h)
    simp at this ⊢
    omega
theorem mem_set {l : List Int} {i : Nat} {v x : Int} (h : x ∈ l.set i v) : x ∈ l ∨ x = v := by
  rcases List.mem_or_eq_of_mem_set h with h | h
  · exact .inl h
  · exact .inr h
theorem set_ints (xs : List Int) (i : Nat) (v : Int) : (xs.map PyData.int).set i (.int v) = (xs.set i v).map PyData.int := (List.map_set).symm
theorem getD_app {l m : List Int} {i : Nat} (h : i < l.length) : (l ++ m).getD i 0 = l.getD i 0 := by
  rw [List.getD_eq_getElem?_getD, List.getD_eq_getElem?_getD, List.getElem?_append_left h]
theorem getD_mem {xs : List Int} {i : Nat} (hi : i < xs.length) : xs.getD i 0 ∈ xs := by
  rw [List.getD_eq_getElem?_getD, List.getElem?_eq_getElem hi]
  exact List.getElem_mem hi
theorem perm_sum {xs ys : List Int} (h : xs.Perm ys) : xs.sum = ys.sum := by
  induction h with
  | nil => rfl
  | cons x _ ih => rw [List.sum_cons, List.sum_cons, ih]
  | swap x y l => rw [List.sum_cons, List.sum_cons, List.sum_cons, List.sum_cons]; omega
  | trans _ _ a b => exact a.trans b
def PosL (xs : List Int) : Prop := ∀ x ∈ xs, 1 ≤ x
end SB

namespace SBL
open PySem PySem.Spec PyProof.Rows L2 RZ SB
def kn : Nat → Bool := knOf [0, 2, 3, 4, 5]
def s__law_cell_0 : Sl → Ot := (sIf (gTest (gBin pLt (gVar 1) (gUn pLen (gVar 0)))) (sRet (gNl (gBin pIx (gVar 0) (gVar 1)))) sNext)
def s__law_cell_1 : Sl → Ot := (sRet (gC (.int 0)))
def h__law_cell : Sl → Ot := (sSeq s__law_cell_0
 s__law_cell_1)
def m__law_cell : List PyData → Rs PyData := fnM 2 2 h__law_cell
def s__law_row_0 : Sl → Ot := (sSet 2 (gCall m__law_cell (aCons (gVar 0) (aCons (gVar 1) aNil))))
def s__law_row_1 : Sl → Ot := (sSetO 3 (gLst aNil))
def b__law_row_0 : Sl → Ot := (sIf (gTest (gBin pLt (gCall m__law_cell (aCons (gVar 0) (aCons (gVar 1) aNil))) (gBin pPow (gC (.int 10)) (gC (.int 18))))) (sSeq (sSet 2 (gBin pMod (gBin pAdd (gBin pAdd (gBin pAdd (gBin pMul (gVar 2) (gC (.int 48271))) (gBin pMul (gC (.int 131)) (gVar 4))) (gC (.int 7))) (gCall m__law_cell (aCons (gVar 0) (aCons (gBin pMod (gBin pAdd (gBin pAdd (gVar 1) (gC (.int 1))) (gVar 4)) (gC (.int 20))) aNil)))) (gC (.int 2147483647))))
 (sApp 3 (gBin pMod (gBin pDiv (gVar 2) (gC (.int 11))) (gC (.int 1000))))) (sSeq (sApp 3 (gBin pMod (gVar 2) (gC (.int 1000))))
 (sSet 2 (gBin pDiv (gVar 2) (gC (.int 1000))))))
def s__law_row_2 : Sl → Ot := (sFor (gRg1 (gC (.int 60))) (tgN 4) b__law_row_0)
def s__law_row_3 : Sl → Ot := (sRet (gVarF 3))
def h__law_row : Sl → Ot := (sSeq s__law_row_0
 (sSeq s__law_row_1
 (sSeq s__law_row_2
 s__law_row_3)))
def m__law_row : List PyData → Rs PyData := fnM 2 5 h__law_row
def s__law_list_0 : Sl → Ot := (sSetO 4 (gLst (aCons (gVar 2) aNil)))
def b__law_list_0 : Sl → Ot := (sSeq (sSet 6 (gBin pMod (gBin pIx (gVar 0) (gBin pMod (gBin pAdd (gBin pAdd (gVar 1) (gC (.int 1))) (gBin pMul (gC (.int 2)) (gVar 5))) (gC (.int 60)))) (gUn pLen (gVarR 4))))
 (sIf (gTest (gBin pGt (gBin pIx (gVarR 4) (gVar 6)) (gC (.int 1)))) (sSeq (sSet 7 (gBin pAdd (gC (.int 1)) (gBin pMod (gBin pIx (gVar 0) (gBin pMod (gBin pAdd (gBin pAdd (gVar 1) (gC (.int 2))) (gBin pMul (gC (.int 2)) (gVar 5))) (gC (.int 60)))) (gBin pSub (gBin pIx (gVarR 4) (gVar 6)) (gC (.int 1))))))
 (sSeq (sSetO 4 (gBin pAdd (gVarR 4) (gLst (aCons (gVar 7) aNil))))
 (sItem 4 (gVar 6) (gBin pSub (gBin pIx (gVarR 4) (gVar 6)) (gVar 7))))) sNext))
def s__law_list_1 : Sl → Ot := (sFor (gRg1 (gBin pMod (gBin pIx (gVar 0) (gBin pMod (gVar 1) (gC (.int 60)))) (gVar 3))) (tgN 5) b__law_list_0)
def s__law_list_2 : Sl → Ot := (sRet (gUn pTuple (gUn pSorted (gVarR 4))))
def h__law_list : Sl → Ot := (sSeq s__law_list_0
 (sSeq s__law_list_1
 s__law_list_2))
def m__law_list : List PyData → Rs PyData := fnM 4 8 h__law_list
def s__law_two_0 : Sl → Ot := (sSet 4 (gCall m__law_row (aCons (gVar 0) (aCons (gVar 1) aNil))))
def s__law_two_1 : Sl → Ot := (sSet 5 (gBin pAdd (gC (.int 1)) (gBin pMod (gBin pIx (gVar 4) (gC (.int 0))) (gVar 2))))
def s__law_two_2 : Sl → Ot := (sSet 6 (gCall m__law_list (aCons (gVar 4) (aCons (gC (.int 2)) (aCons (gVar 5) (aCons (gVar 3) aNil))))))
def s__law_two_3 : Sl → Ot := (sSet 7 (gCall m__law_list (aCons (gVar 4) (aCons (gC (.int 22)) (aCons (gVar 5) (aCons (gVar 3) aNil))))))
def s__law_two_4 : Sl → Ot := (sSet 8 (gBin pMod (gBin pIx (gVar 4) (gC (.int 1))) (gC (.int 4))))
def b__law_two_0 : Sl → Ot := (sIf (gTest (gBin pGt (gUn pLen (gVarR 11)) (gC (.int 1)))) (sSeq (sPopAt 11 (tgN 13) (gBin pMod (gBin pIx (gVar 4) (gBin pAdd (gC (.int 42)) (gVar 12))) (gUn pLen (gVarR 11))))
 (sSeq (sSet 14 (gBin pMod (gBin pIx (gVar 4) (gBin pAdd (gC (.int 45)) (gVar 12))) (gUn pLen (gVarR 11))))
 (sItem 11 (gVar 14) (gBin pAdd (gBin pIx (gVarR 11) (gVar 14)) (gVar 13))))) sNext)
def s__law_two_5 : Sl → Ot := (sIf (gTest (gBin pEq (gVar 8) (gC (.int 0)))) (sSeq (sSet 9 (gLc [10] (gRg2 (gC (.int 1)) (gBin pAdd (gVar 3) (gC (.int 1)))) (tgN 10) (gTest (gBin pEq (gBin pMod (gVar 5) (gVar 10)) (gC (.int 0)))) (gVar 10)))
 (sSeq (sSet 10 (gBin pIx (gVar 9) (gBin pMod (gBin pIx (gVar 4) (gC (.int 40))) (gUn pLen (gVar 9)))))
 (sSet 6 (gBin pMul (gTup (aCons (gBin pDiv (gVar 5) (gVar 10)) aNil)) (gVar 10))))) (sIf (gTest (gBin pEq (gVar 8) (gC (.int 1)))) (sSeq (sSetO 11 (gUn pList (gVar 6)))
 (sSeq (sFor (gRg1 (gBin pAdd (gC (.int 1)) (gBin pMod (gBin pIx (gVar 4) (gC (.int 41))) (gC (.int 3))))) (tgN 12) b__law_two_0)
 (sSet 7 (gUn pTuple (gUn pSorted (gVarR 11)))))) sNext))
def s__law_two_6 : Sl → Ot := (sRet (gTup (aCons (gVar 6) (aCons (gVar 7) aNil))))
def h__law_two : Sl → Ot := (sSeq s__law_two_0
 (sSeq s__law_two_1
 (sSeq s__law_two_2
 (sSeq s__law_two_3
 (sSeq s__law_two_4
 (sSeq s__law_two_5
 s__law_two_6))))))
def m__law_two : List PyData → Rs PyData := fnM 4 15 h__law_two
def s_is_within_0 : Sl → Ot := (sRet (gB (gAnd (gIsi "int" (gVar 0)) (gAnd (gNot (gIsi "bool" (gVar 0))) (gTest (gChain (fun i j => decide (i ≤ j)) (fun i j => decide (i ≤ j)) (gVar 1) (gVar 0) (gVar 2)))))))
def h_is_within : Sl → Ot := s_is_within_0
def m_is_within : List PyData → Rs PyData := fnM 3 3 h_is_within
def s_is_rising_0 : Sl → Ot := (sIf (gOr (gNot (gTru (gB (gIsi "tuple" (gVar 0))))) (gNot (gTest (gChain (fun i j => decide (i ≤ j)) (fun i j => decide (i ≤ j)) (gC (.int 1)) (gUn pLen (gVar 0)) (gVar 1))))) (sRet (gC (.bool false))) sNext)
def s_is_rising_1 : Sl → Ot := (sIf (gTru (gLc [3] (gSeq (gVar 0)) (tgN 3) (gNot (gTru (gCall m_is_within (aCons (gVar 3) (aCons (gC (.int 1)) (aCons (gVar 2) aNil)))))) (gVar 3))) (sRet (gC (.bool false))) sNext)
def s_is_rising_2 : Sl → Ot := (sRet (gB (gNot (gTru (gLc [3, 4] (gZip (gVar 0) (gSl (gVar 0) (oSo (gC (.int 1))) oNo)) (tg2 3 4) (gTest (gBin pGt (gVar 3) (gVar 4))) (gC (.int 1)))))))
def h_is_rising : Sl → Ot := (sSeq s_is_rising_0
 (sSeq s_is_rising_1
 s_is_rising_2))
def m_is_rising : List PyData → Rs PyData := fnM 3 5 h_is_rising
def s_are_pieces_0 : Sl → Ot := (sRet (gCall m_is_rising (aCons (gVar 0) (aCons (gC (.int 13)) (aCons (gC (.int 99)) aNil)))))
def h_are_pieces : Sl → Ot := s_are_pieces_0
def m_are_pieces : List PyData → Rs PyData := fnM 1 1 h_are_pieces
def s_look_pieces_0 : Sl → Ot := (sIf (gNot (gTru (gCall m_are_pieces (aCons (gVar 0) aNil)))) (sRaise 2) sNext)
def h_look_pieces : Sl → Ot := s_look_pieces_0
def m_look_pieces : List PyData → Rs PyData := fnM 1 1 h_look_pieces
def s_is_list_0 : Sl → Ot := (sRet (gCall m_is_rising (aCons (gVar 0) (aCons (gC (.int 7)) (aCons (gC (.int 99)) aNil)))))
def h_is_list : Sl → Ot := s_is_list_0
def m_is_list : List PyData → Rs PyData := fnM 1 1 h_is_list
def s_look_0 : Sl → Ot := (sIf (gNot (gTru (gCall m_is_list (aCons (gVar 0) aNil)))) (sRaise 3) sNext)
def h_look : Sl → Ot := s_look_0
def m_look : List PyData → Rs PyData := fnM 1 1 h_look
def s_look_both_0 : Sl → Ot := (sDrop (gCall m_look_pieces (aCons (gVar 0) aNil)))
def s_look_both_1 : Sl → Ot := (sDrop (gCall m_look (aCons (gVar 1) aNil)))
def s_look_both_2 : Sl → Ot := (sIf (gTest (gBin pNe (gUn pSum (gVar 0)) (gUn pSum (gVar 1)))) (sRaise 4) sNext)
def h_look_both : Sl → Ot := (sSeq s_look_both_0
 (sSeq s_look_both_1
 s_look_both_2))
def m_look_both : List PyData → Rs PyData := fnM 2 2 h_look_both
def s_is_dealing_0 : Sl → Ot := (sDrop (gCall m_look_both (aCons (gVar 0) (aCons (gVar 1) aNil))))
def s_is_dealing_1 : Sl → Ot := (sIf (gOr (gNot (gTru (gB (gIsi "list" (gVar 2))))) (gOr (gTest (gBin pNe (gUn pLen (gVar 2)) (gUn pLen (gVar 1)))) (gTru (gLc [4] (gSeq (gVar 2)) (tgN 4) (gNot (gTru (gCall m_are_pieces (aCons (gVar 4) aNil)))) (gVar 4))))) (sRet (gC (.bool false))) sNext)
def s_is_dealing_2 : Sl → Ot := (sSetO 3 (gLst aNil))
def b_is_dealing_0 : Sl → Ot := (sSeq (sIf (gTest (gBin pNe (gUn pSum (gVar 4)) (gVar 5))) (sRet (gC (.bool false))) sNext)
 (sExt 3 (gVar 4)))
def s_is_dealing_3 : Sl → Ot := (sFor (gZipM (gVar 2) (gVar 1)) (tg2 4 5) b_is_dealing_0)
def s_is_dealing_4 : Sl → Ot := (sRet (gBin pEq (gUn pSorted (gVarR 3)) (gUn pList (gVar 0))))
def h_is_dealing : Sl → Ot := (sSeq s_is_dealing_0
 (sSeq s_is_dealing_1
 (sSeq s_is_dealing_2
 (sSeq s_is_dealing_3
 s_is_dealing_4))))
def m_is_dealing : List PyData → Rs PyData := fnM 3 6 h_is_dealing
def s__law_whole_0 : Sl → Ot := (sRet (gB (gAnd (gIsi "int" (gVar 0)) (gNot (gIsi "bool" (gVar 0))))))
def h__law_whole : Sl → Ot := s__law_whole_0
def m__law_whole : List PyData → Rs PyData := fnM 1 1 h__law_whole
def s__law_in_0 : Sl → Ot := (sRet (gB (gAnd (gTest (gCall m__law_whole (aCons (gVar 0) aNil))) (gTest (gChain (fun i j => decide (i ≤ j)) (fun i j => decide (i ≤ j)) (gVar 1) (gVar 0) (gVar 2))))))
def h__law_in : Sl → Ot := s__law_in_0
def m__law_in : List PyData → Rs PyData := fnM 3 3 h__law_in
def s__law_is_rising_0 : Sl → Ot := (sIf (gOr (gNot (gTru (gB (gIsi "tuple" (gVar 0))))) (gNot (gTest (gChain (fun i j => decide (i ≤ j)) (fun i j => decide (i ≤ j)) (gC (.int 1)) (gUn pLen (gVar 0)) (gVar 1))))) (sRet (gC (.bool false))) sNext)
def s__law_is_rising_1 : Sl → Ot := (sRet (gB (gAnd (gTest (gBin pEq (gLc [2] (gSeq (gVar 0)) (tgN 2) (gNot (gTru (gCall m__law_in (aCons (gVar 2) (aCons (gC (.int 1)) (aCons (gC (.int 99)) aNil)))))) (gVar 2)) (gLst aNil))) (gTest (gBin pEq (gUn pList (gVar 0)) (gUn pSorted (gVar 0)))))))
def h__law_is_rising : Sl → Ot := (sSeq s__law_is_rising_0
 s__law_is_rising_1)
def m__law_is_rising : List PyData → Rs PyData := fnM 2 3 h__law_is_rising
def s__law_is_dealing_0 : Sl → Ot := (sIf (gOr (gNot (gTru (gB (gIsi "list" (gVar 2))))) (gTest (gBin pNe (gUn pLen (gVar 2)) (gUn pLen (gVar 1))))) (sRet (gC (.bool false))) sNext)
def s__law_is_dealing_1 : Sl → Ot := (sSet 3 (gLst aNil))
def b__law_is_dealing_0 : Sl → Ot := (sSeq (sIf (gOr (gNot (gTru (gCall m__law_is_rising (aCons (gVar 4) (aCons (gC (.int 13)) aNil))))) (gTest (gBin pNe (gUn pSum (gVar 4)) (gVar 5)))) (sRet (gC (.bool false))) sNext)
 (sSet 3 (gBin pAdd (gVar 3) (gUn pList (gVar 4)))))
def s__law_is_dealing_2 : Sl → Ot := (sFor (gZipM (gVar 2) (gVar 1)) (tg2 4 5) b__law_is_dealing_0)
def s__law_is_dealing_3 : Sl → Ot := (sRet (gBin pEq (gUn pSorted (gVar 3)) (gUn pList (gVar 0))))
def h__law_is_dealing : Sl → Ot := (sSeq s__law_is_dealing_0
 (sSeq s__law_is_dealing_1
 (sSeq s__law_is_dealing_2
 s__law_is_dealing_3)))
def m__law_is_dealing : List PyData → Rs PyData := fnM 3 6 h__law_is_dealing
def m_serves_of : List PyData → Rs PyData := noF
def s_serves_0 : Sl → Ot := (sDrop (gCall m_look_both (aCons (gVar 0) (aCons (gVar 1) aNil))))
def s_serves_1 : Sl → Ot := (sRet (gCall m_serves_of (aCons (gVar 0) (aCons (gVar 1) aNil))))
def h_serves : Sl → Ot := (sSeq s_serves_0
 s_serves_1)
def m_serves : List PyData → Rs PyData := fnM 2 2 h_serves
def m_dealt : List PyData → Rs PyData := noF
def s_dealing_0 : Sl → Ot := (sDrop (gCall m_look_both (aCons (gVar 0) (aCons (gVar 1) aNil))))
def s_dealing_1 : Sl → Ot := (sSet 2 (gCall m_dealt (aCons (gVar 0) (aCons (gVar 1) aNil))))
def s_dealing_2 : Sl → Ot := (sIf (gTest (gBin pIs (gVar 2) (gC .none))) (sRaise 5) sNext)
def s_dealing_3 : Sl → Ot := (sRet (gVarF 2))
def h_dealing : Sl → Ot := (sSeq s_dealing_0
 (sSeq s_dealing_1
 (sSeq s_dealing_2
 s_dealing_3)))
def m_dealing : List PyData → Rs PyData := fnM 2 3 h_dealing
def m_ways_from : List PyData → Rs PyData := noF
def s_how_many_0 : Sl → Ot := (sDrop (gCall m_look_both (aCons (gVar 0) (aCons (gVar 1) aNil))))
def s_how_many_1 : Sl → Ot := (fun _ => .bad)
def h_how_many : Sl → Ot := (sSeq s_how_many_0
 s_how_many_1)
def m_how_many : List PyData → Rs PyData := fnM 2 2 h_how_many
def s__law_serve_word_0 : Sl → Ot := (sSetO 2 (gLst aNil))
def b__law_serve_word_0 : Sl → Ot := (sTryN kn 6 (sIf (gTest (gBin pEq (gVar 3) (gC (.int 0)))) (sDrop (gCall m_serves (aCons (gVar 0) (aCons (gVar 1) aNil)))) (sIf (gTest (gBin pEq (gVar 3) (gC (.int 1)))) (sDrop (gCall m_dealing (aCons (gVar 0) (aCons (gVar 1) aNil)))) (sIf (gTest (gBin pEq (gVar 3) (gC (.int 2)))) (sDrop (gCall m_how_many (aCons (gVar 0) (aCons (gVar 1) aNil)))) (sDrop (gCall m_is_dealing (aCons (gVar 0) (aCons (gVar 1) (aCons (gC .none) aNil)))))))) [(0, some 4, sdA 2 [2, 3, 4])])
def s__law_serve_word_1 : Sl → Ot := (sFor (gRg1 (gC (.int 4))) (tgN 3) b__law_serve_word_0)
def s__law_serve_word_2 : Sl → Ot := (sIf (gOr (gTest (gBin pLt (gUn pLen (gVarR 2)) (gC (.int 4)))) (gTest (gBin pNe (gLc [5] (gSeq (gVarR 2)) (tgN 5) (gOr (gTest (gBin pNe (gVar 5) (gBin pIx (gVarR 2) (gC (.int 0))))) (gTest (gBin pNe (gLCnt (gVar 5) (gC (.bool true))) (gC (.int 1))))) (gVar 5)) (gLst aNil)))) (sRet (gC (.str "other"))) sNext)
def s__law_serve_word_3 : Sl → Ot := (sRet (gNl (gBin pIx (gLst (aCons (gC (.str "pieces")) (aCons (gC (.str "list")) (aCons (gC (.str "unlike")) aNil)))) (gLIdx (gBin pIx (gVarR 2) (gC (.int 0))) (gC (.bool true))))))
def h__law_serve_word : Sl → Ot := (sSeq s__law_serve_word_0
 (sSeq s__law_serve_word_1
 (sSeq s__law_serve_word_2
 s__law_serve_word_3)))
def m__law_serve_word : List PyData → Rs PyData := fnM 2 6 h__law_serve_word
def s_law_0 : Sl → Ot := (sSet 1 (gCall m__law_row (aCons (gVar 0) (aCons (gC (.int 4)) aNil))))
def s_law_1 : Sl → Ot := (sSet 2 (gBin pIx (gCall m__law_two (aCons (gVar 0) (aCons (gC (.int 2)) (aCons (gC (.int 40)) (aCons (gC (.int 5)) aNil))))) (gC (.int 0))))
def s_law_2 : Sl → Ot := (sSet 3 (gLst aNil))
def s_law_3 : Sl → Ot := (sSetO 4 (gLst aNil))
def b_law_0 : Sl → Ot := (sSeq (sApp 4 (gCall m__law_list (aCons (gVar 1) (aCons (gBin pAdd (gC (.int 3)) (gBin pMul (gC (.int 6)) (gVar 5))) (aCons (gBin pIx (gVar 2) (gVar 5)) (aCons (gC (.int 3)) aNil))))))
 (sSet 3 (gBin pAdd (gVar 3) (gUn pList (gBin pIx (gVarR 4) (gC (.int (-1))))))))
def s_law_4 : Sl → Ot := (sFor (gRg1 (gUn pLen (gVar 2))) (tgN 5) b_law_0)
def s_law_5 : Sl → Ot := (sSet 3 (gUn pTuple (gUn pSorted (gVar 3))))
def s_law_6 : Sl → Ot := (sIf (gTest (gBin pGt (gUn pLen (gVar 3)) (gC (.int 13)))) (sRet (gBin pEq (gCall m__law_serve_word (aCons (gVar 3) (aCons (gVar 2) aNil))) (gC (.str "pieces")))) sNext)
def s_law_7 : Sl → Ot := (sSet 5 (gBin pMod (gBin pIx (gVar 1) (gC (.int 40))) (gUn pLen (gVar 2))))
def s_law_8 : Sl → Ot := (sSet 6 (gBin pIx (gVarR 4) (gVar 5)))
def s_law_9 : Sl → Ot := (sSet 7 (gLst (aCons (gUn pRev (gVar 6)) (aCons (gBin pAdd (gVar 6) (gTup (aCons (gC (.int 0)) aNil))) (aCons (gSl (gVar 6) (oSo (gC (.int 1))) oNo) (aCons (gBin pAdd (gVar 6) (gSl (gVar 6) oNo (oSo (gC (.int 1))))) (aCons (gUn pList (gVar 6)) (aCons (gC .none) (aCons (gTup (aCons (gUn pSum (gVar 6)) aNil)) (aCons (gUn pTuple (gBin pMul (gLst (aCons (gC (.int 1)) aNil)) (gBin pMin (gUn pSum (gVar 6)) (gC (.int 13))))) aNil))))))))))
def s_law_10 : Sl → Ot := (sSet 7 (gBin pAdd (gVar 7) (gLst (aCons (gCall m__law_list (aCons (gVar 1) (aCons (gC (.int 43)) (aCons (gUn pSum (gVar 6)) (aCons (gC (.int 3)) aNil))))) (aCons (gCall m__law_list (aCons (gVar 1) (aCons (gC (.int 50)) (aCons (gUn pSum (gVar 6)) (aCons (gC (.int 2)) aNil))))) aNil)))))
def s_law_11 : Sl → Ot := (sSet 8 (gLst (aCons (gVar 4) (aCons (gBin pAdd (gBin pAdd (gSl (gVar 4) oNo (oSo (gVar 5))) (gLst (aCons (gBin pIx (gVar 7) (gBin pMod (gBin pIx (gVar 1) (gC (.int 41))) (gC (.int 10)))) aNil))) (gSl (gVar 4) (oSo (gBin pAdd (gVar 5) (gC (.int 1)))) oNo)) (aCons (gUn pRev (gVar 4)) (aCons (gSl (gVar 4) (oSo (gC (.int 1))) oNo) aNil))))))
def s_law_12 : Sl → Ot := (sSet 8 (gBin pAdd (gVar 8) (gLst (aCons (gUn pTuple (gVar 4)) (aCons (gC .none) (aCons (gBin pAdd (gVar 4) (gLst (aCons (gTup (aCons (gC (.int 1)) aNil)) aNil))) (aCons (gLc [10] (gSeq (gVar 4)) (tgN 10) gYes (gBin pMul (gTup (aCons (gC (.bool true)) aNil)) (gUn pLen (gVar 10)))) aNil)))))))
def s_law_13 : Sl → Ot := (sSet 9 (gBin pIx (gVar 8) (gBin pMod (gBin pIx (gVar 1) (gC (.int 42))) (gC (.int 8)))))
def s_law_14 : Sl → Ot := (sRet (gBin pEq (gCall m_is_dealing (aCons (gVar 3) (aCons (gVar 2) (aCons (gVar 9) aNil)))) (gCall m__law_is_dealing (aCons (gVar 3) (aCons (gVar 2) (aCons (gVar 9) aNil))))))
def h_law : Sl → Ot := (sSeq s_law_0
 (sSeq s_law_1
 (sSeq s_law_2
 (sSeq s_law_3
 (sSeq s_law_4
 (sSeq s_law_5
 (sSeq s_law_6
 (sSeq s_law_7
 (sSeq s_law_8
 (sSeq s_law_9
 (sSeq s_law_10
 (sFrz 4 (sSeq s_law_11
 (sSeq s_law_12
 (sSeq s_law_13
 s_law_14)))))))))))))))
def m_law : List PyData → Rs PyData := fnM 1 11 h_law
end SBL

namespace SBL
open PySem PySem.Spec PyProof.Rows L2 RZ SB
def top (i : Nat) : Stmt := PySem.Challenge.pw_servesboth_k03_dealings_looked_at.main.body.getD i (.Pass ⟨0, 0, 0, 0⟩)
structure Tx (K : Frg) (mg : Str → Option Value) : Prop where
  xf : XF K (clOf K) kn
  b_bool : mg "bool" = none
  b_enumerate : mg "enumerate" = none
  b_int : mg "int" = none
  b_isinstance : mg "isinstance" = none
  b_len : mg "len" = none
  b_list : mg "list" = none
  b_min : mg "min" = none
  b_range : mg "range" = none
  b_sorted : mg "sorted" = none
  b_sum : mg "sum" = none
  b_tuple : mg "tuple" = none
  b_zip : mg "zip" = none
  c_MOST_SHARES : ∃ t, mg "MOST_SHARES" = some (.int 7 t)
  c_MOST_SHARE : ∃ t, mg "MOST_SHARE" = some (.int 99 t)
  c_MOST_PIECES : ∃ t, mg "MOST_PIECES" = some (.int 13 t)
  g_ShareError : mg "ShareError" = some (.ref (clOf K 0))
  x_BadPieces : EF K mg (clOf K) 2 "BadPieces"
  g_BadPieces : mg "BadPieces" = some (.ref (clOf K 2))
  x_BadList : EF K mg (clOf K) 3 "BadList"
  g_BadList : mg "BadList" = some (.ref (clOf K 3))
  x_Unlike : EF K mg (clOf K) 4 "Unlike"
  g_Unlike : mg "Unlike" = some (.ref (clOf K 4))
  x_CantServe : EF K mg (clOf K) 5 "CantServe"
  g_CantServe : mg "CantServe" = some (.ref (clOf K 5))
  d__law_cell : FA K mg "_law_cell" (top 27)
  d__law_row : FA K mg "_law_row" (top 29)
  d__law_list : FA K mg "_law_list" (top 31)
  d__law_two : FA K mg "_law_two" (top 32)
  d_is_within : FA K mg "is_within" (top 9)
  d_is_rising : FA K mg "is_rising" (top 10)
  d_are_pieces : FA K mg "are_pieces" (top 15)
  d_look_pieces : FA K mg "look_pieces" (top 16)
  d_is_list : FA K mg "is_list" (top 11)
  d_look : FA K mg "look" (top 12)
  d_look_both : FA K mg "look_both" (top 17)
  d_is_dealing : FA K mg "is_dealing" (top 23)
  d__law_whole : FA K mg "_law_whole" (top 28)
  d__law_in : FA K mg "_law_in" (top 30)
  d__law_is_rising : FA K mg "_law_is_rising" (top 33)
  d__law_is_dealing : FA K mg "_law_is_dealing" (top 35)
  d_serves_of : FA K mg "serves_of" (top 20)
  d_serves : FA K mg "serves" (top 21)
  d_dealt : FA K mg "dealt" (top 19)
  d_dealing : FA K mg "dealing" (top 22)
  d_ways_from : FA K mg "ways_from" (top 24)
  d_how_many : FA K mg "how_many" (top 25)
  d__law_serve_word : FA K mg "_law_serve_word" (top 34)
  d_law : FA K mg "law" (top 36)
section
variable {P : Program} {w : World} {K : Frg} {mg : Str → Option Value} {base : Heap}
theorem sc__law_cell : FnScope ["script", "k"] ["script", "k"] (defScope (top 27)) := ⟨rfl, rfl, rfl, by decide +kernel, rfl, by decide +kernel, by decide +kernel⟩
theorem ok__law_cell (T : Tx K mg) : FB P w K mg base (clOf K) 1 "_law_cell" ["script", "k"] m__law_cell :=
 fb_of T.d__law_cell sc__law_cell (fun _ _ _ _ _ _ us hl => match us, hl with | [_, _], _ => rfl) fun f cdv A outer s H E hr => ⟨_, dss_cons (ds_if (dt_cmp op_lt od_lt (DX.dr (dv 1)) (DX.fr (d_b1 mF (cr_lenK (K := K) rfl) c1_len (by exact rfl) T.b_len (by decide +kernel) (DX.dr (dv 0)))) (nomark _)) (dss_one (ds_ret (DX.nl (d_ixK (K := K) rfl (DX.dr (dv 0)) (DX.dr (dv 1)))))) (dss_nil))
 (dss_one (ds_ret (d_int)))⟩
theorem sc__law_row : FnScope ["script", "at", "cell", "found", "time"] ["script", "at"] (defScope (top 29)) := ⟨rfl, rfl, rfl, by decide +kernel, rfl, by decide +kernel, by decide +kernel⟩
theorem ok__law_row (T : Tx K mg) : FB P w K mg base (clOf K) 2 "_law_row" ["script", "at"] m__law_row :=
 fb_of T.d__law_row sc__law_row (fun _ _ _ _ _ _ us hl => match us, hl with | [_, _], _ => rfl) fun f cdv A outer s H E hr => ⟨_, dss_cons (ds_set (i := 2) sc__law_row.nd rfl (Or.inl rfl) (DX.fd (d_callF (ok__law_cell T) (hr.mono (by decide)) (by exact rfl) (takes_of rfl rfl rfl rfl) (da_cons (dv 0) (da_cons (dv 1) (da_nil))))))
 (dss_cons (ds_setO (i := 3) sc__law_row.nd rfl (Or.inl rfl) (d_lst (da_nil)))
 (dss_cons (ds_for (passes_of rfl) rfl (di_rg1 (by exact rfl) T.b_range (DX.fr (d_int))) (pg_name (i := 4) sc__law_row.nd rfl (Or.inl rfl)) (et_name 4) (dss_one (ds_if (dt_cmp op_lt od_lt (DX.fr (d_callF (ok__law_cell T) (hr.mono (by decide)) (by exact rfl) (takes_of rfl rfl rfl rfl) (da_cons (dv 0) (da_cons (dv 1) (da_nil))))) (DX.fr (d_op mF op_pow od_pow (DX.fr (d_int)) (DX.fr (d_int)))) (nomark _)) (dss_cons (ds_set (i := 2) sc__law_row.nd rfl (Or.inl rfl) (DX.fd (d_op mF op_mod od_mod (DX.fr (d_op mF (op_addK (K := K) rfl) od_add (DX.fr (d_op mF (op_addK (K := K) rfl) od_add (DX.fr (d_op mF (op_addK (K := K) rfl) od_add (DX.fr (d_op mF (op_mulK (K := K) rfl) od_mul (DX.dr (dv 2)) (DX.fr (d_int)))) (DX.fr (d_op mF (op_mulK (K := K) rfl) od_mul (DX.fr (d_int)) (DX.dr (dv 4)))))) (DX.fr (d_int)))) (DX.fr (d_callF (ok__law_cell T) (hr.mono (by decide)) (by exact rfl) (takes_of rfl rfl rfl rfl) (da_cons (dv 0) (da_cons (DX.fd (d_op mF op_mod od_mod (DX.fr (d_op mF (op_addK (K := K) rfl) od_add (DX.fr (d_op mF (op_addK (K := K) rfl) od_add (DX.dr (dv 1)) (DX.fr (d_int)))) (DX.dr (dv 4)))) (DX.fr (d_int)))) (da_nil))))))) (DX.fr (d_int)))))
 (dss_one (ds_app (i := 3) (DX.fd (d_op mF op_mod od_mod (DX.fr (d_op mF op_fdiv od_div (DX.dr (dv 2)) (DX.fr (d_int)))) (DX.fr (d_int))))))) (dss_cons (ds_app (i := 3) (DX.fd (d_op mF op_mod od_mod (DX.dr (dv 2)) (DX.fr (d_int)))))
 (dss_one (ds_set (i := 2) sc__law_row.nd rfl (Or.inl rfl) (DX.fd (d_op mF op_fdiv od_div (DX.dr (dv 2)) (DX.fr (d_int))))))))))
 (dss_one (ds_retV 3))))⟩
theorem sc__law_list : FnScope ["row", "at", "total", "most_shares", "found", "time", "spot", "part"] ["row", "at", "total", "most_shares"] (defScope (top 31)) := ⟨rfl, rfl, rfl, by decide +kernel, rfl, by decide +kernel, by decide +kernel⟩
theorem ok__law_list (T : Tx K mg) : FB P w K mg base (clOf K) 1 "_law_list" ["row", "at", "total", "most_shares"] m__law_list :=
 fb_of T.d__law_list sc__law_list (fun _ _ _ _ _ _ us hl => match us, hl with | [_, _, _, _], _ => rfl) fun f cdv A outer s H E hr => ⟨_, dss_cons (ds_setO (i := 4) sc__law_list.nd rfl (Or.inl rfl) (d_lst (da_cons (dv 2) (da_nil))))
 (dss_cons (ds_for (passes_of rfl) rfl (di_rg1 (by exact rfl) T.b_range (DX.fr (d_op mF op_mod od_mod (DX.dr (d_ixK (K := K) rfl (DX.dr (dv 0)) (DX.fr (d_op mF op_mod od_mod (DX.dr (dv 1)) (DX.fr (d_int)))))) (DX.dr (dv 3))))) (pg_name (i := 5) sc__law_list.nd rfl (Or.inl rfl)) (et_name 5) (dss_cons (ds_set (i := 6) sc__law_list.nd rfl (Or.inl rfl) (DX.fd (d_op mF op_mod od_mod (DX.dr (d_ixK (K := K) rfl (DX.dr (dv 0)) (DX.fr (d_op mF op_mod od_mod (DX.fr (d_op mF (op_addK (K := K) rfl) od_add (DX.fr (d_op mF (op_addK (K := K) rfl) od_add (DX.dr (dv 1)) (DX.fr (d_int)))) (DX.fr (d_op mF (op_mulK (K := K) rfl) od_mul (DX.fr (d_int)) (DX.dr (dv 5)))))) (DX.fr (d_int)))))) (DX.fr (d_b1 mF (cr_lenK (K := K) rfl) c1_len (by exact rfl) T.b_len (by decide +kernel) (dvR 4))))))
 (dss_one (ds_if (dt_cmp op_gt od_gt (DX.dr (d_ixK (K := K) rfl (dvR 4) (DX.dr (dv 6)))) (DX.fr (d_int)) (nomark _)) (dss_cons (ds_set (i := 7) sc__law_list.nd rfl (Or.inl rfl) (DX.fd (d_op mF (op_addK (K := K) rfl) od_add (DX.fr (d_int)) (DX.fr (d_op mF op_mod od_mod (DX.dr (d_ixK (K := K) rfl (DX.dr (dv 0)) (DX.fr (d_op mF op_mod od_mod (DX.fr (d_op mF (op_addK (K := K) rfl) od_add (DX.fr (d_op mF (op_addK (K := K) rfl) od_add (DX.dr (dv 1)) (DX.fr (d_int)))) (DX.fr (d_op mF (op_mulK (K := K) rfl) od_mul (DX.fr (d_int)) (DX.dr (dv 5)))))) (DX.fr (d_int)))))) (DX.fr (d_op mF op_sub od_sub (DX.dr (d_ixK (K := K) rfl (dvR 4) (DX.dr (dv 6)))) (DX.fr (d_int)))))))))
 (dss_cons (ds_setO (i := 4) sc__law_list.nd rfl (Or.inl rfl) (d_op mF (op_addK (K := K) rfl) od_add (dvR 4) (DX.fr (d_lst (da_cons (dv 7) (da_nil))))))
 (dss_one (ds_itemN (i := 4) (DX.fd (d_op mF op_sub od_sub (DX.dr (d_ixK (K := K) rfl (dvR 4) (DX.dr (dv 6)))) (DX.dr (dv 7)))) (DX.dr (dv 6)))))) (dss_nil)))))
 (dss_one (ds_ret (d_t1 mF (cr_tupleK (K := K) rfl) c1_tuple (by exact rfl) T.b_tuple (by decide +kernel) (DX.fr (d_b1 mF (cr_sortK (K := K) rfl) c1_sorted (by exact rfl) T.b_sorted (by decide +kernel) (dvR 4)))))))⟩
theorem sc__law_two : FnScope ["script", "at", "most_whole", "most_shares", "row", "total", "one", "other", "mode", "guests", "many", "some", "time", "much", "spot"] ["script", "at", "most_whole", "most_shares"] (defScope (top 32)) := ⟨rfl, rfl, rfl, by decide +kernel, rfl, by decide +kernel, by decide +kernel⟩
theorem ok__law_two (T : Tx K mg) : FB P w K mg base (clOf K) 3 "_law_two" ["script", "at", "most_whole", "most_shares"] m__law_two :=
 fb_of T.d__law_two sc__law_two (fun _ _ _ _ _ _ us hl => match us, hl with | [_, _, _, _], _ => rfl) fun f cdv A outer s H E hr => ⟨_, dss_cons (ds_set (i := 4) sc__law_two.nd rfl (Or.inl rfl) (DX.fd (d_callF (ok__law_row T) (hr.mono (by decide)) (by exact rfl) (takes_of rfl rfl rfl rfl) (da_cons (dv 0) (da_cons (dv 1) (da_nil))))))
 (dss_cons (ds_set (i := 5) sc__law_two.nd rfl (Or.inr rfl) (DX.fd (d_op mF (op_addK (K := K) rfl) od_add (DX.fr (d_int)) (DX.fr (d_op mF op_mod od_mod (DX.dr (d_ixK (K := K) rfl (DX.dr (dv 4)) (DX.fr (d_int)))) (DX.dr (dv 2)))))))
 (dss_cons (ds_set (i := 6) sc__law_two.nd rfl (Or.inl rfl) (DX.fd (d_callF (ok__law_list T) (hr.mono (by decide)) (by exact rfl) (takes_of rfl rfl rfl rfl) (da_cons (dv 4) (da_cons (DX.fd (d_int)) (da_cons (dv 5) (da_cons (dv 3) (da_nil))))))))
 (dss_cons (ds_set (i := 7) sc__law_two.nd rfl (Or.inl rfl) (DX.fd (d_callF (ok__law_list T) (hr.mono (by decide)) (by exact rfl) (takes_of rfl rfl rfl rfl) (da_cons (dv 4) (da_cons (DX.fd (d_int)) (da_cons (dv 5) (da_cons (dv 3) (da_nil))))))))
 (dss_cons (ds_set (i := 8) sc__law_two.nd rfl (Or.inl rfl) (DX.fd (d_op mF op_mod od_mod (DX.dr (d_ixK (K := K) rfl (DX.dr (dv 4)) (DX.fr (d_int)))) (DX.fr (d_int)))))
 (dss_cons (ds_if (dt_cmp (op_eqK (K := K) rfl (hu64 hr)) od_eq (DX.dr (dv 8)) (DX.fr (d_int)) (nomark _)) (dss_cons (ds_setLcIf (i := 9) (own := [("many", 10)]) rfl sc__law_two.nd rfl rfl (sw_true rfl rfl rfl rfl) (DI.c (di_rg2 (by exact rfl) T.b_range (DX.fr (d_int)) (DX.fr (d_op mF (op_addK (K := K) rfl) od_add (DX.dr (dv 3)) (DX.fr (d_int)))))) (blkOk_by (by show blkC ["script", "at", "most_whole", "most_shares", "row", "total", "one", "other", "mode", "guests", "many", "some", "time", "much", "spot"] (defScope (top 32)) _ _ = true; decide +kernel)) (fun _ _ _ _ _ => pg_name (i := 10) sc__law_two.nd rfl (Or.inl rfl)) (et_name 10) (by decide) (fun _ _ _ _ _ => dt_cmp (op_eqK (K := K) rfl (hu64 hr)) od_eq (DX.fr (d_op mF op_mod od_mod (DX.dr (dv 5)) (DX.dr (dv 10)))) (DX.fr (d_int)) (nomark _)) (fun _ _ _ _ _ => dv 10))
 (dss_cons (ds_set (i := 10) sc__law_two.nd rfl (Or.inl rfl) (d_ixK (K := K) rfl (DX.dr (dv 9)) (DX.fr (d_op mF op_mod od_mod (DX.dr (d_ixK (K := K) rfl (DX.dr (dv 4)) (DX.fr (d_int)))) (DX.fr (d_b1 mF (cr_lenK (K := K) rfl) c1_len (by exact rfl) T.b_len (by decide +kernel) (DX.dr (dv 9))))))))
 (dss_one (ds_set (i := 6) sc__law_two.nd rfl (Or.inl rfl) (DX.fd (d_op mF (op_mulK (K := K) rfl) od_mul (DX.fr (d_tup (da_cons (DX.fd (d_op mF op_fdiv od_div (DX.dr (dv 5)) (DX.dr (dv 10)))) (da_nil)))) (DX.dr (dv 10)))))))) (dss_one (ds_if (dt_cmp (op_eqK (K := K) rfl (hu64 hr)) od_eq (DX.dr (dv 8)) (DX.fr (d_int)) (nomark _)) (dss_cons (ds_setO (i := 11) sc__law_two.nd rfl (Or.inl rfl) (d_t1 mF (cr_listK (K := K) rfl) c1_list (by exact rfl) T.b_list (by decide +kernel) (DX.dr (dv 6))))
 (dss_cons (ds_for (passes_of rfl) rfl (di_rg1 (by exact rfl) T.b_range (DX.fr (d_op mF (op_addK (K := K) rfl) od_add (DX.fr (d_int)) (DX.fr (d_op mF op_mod od_mod (DX.dr (d_ixK (K := K) rfl (DX.dr (dv 4)) (DX.fr (d_int)))) (DX.fr (d_int))))))) (pg_name (i := 12) sc__law_two.nd rfl (Or.inl rfl)) (et_name 12) (dss_one (ds_if (dt_cmp op_gt od_gt (DX.fr (d_b1 mF (cr_lenK (K := K) rfl) c1_len (by exact rfl) T.b_len (by decide +kernel) (dvR 11))) (DX.fr (d_int)) (nomark _)) (dss_cons (ds_popAt (i := 11) (DX.fr (d_op mF op_mod od_mod (DX.dr (d_ixK (K := K) rfl (DX.dr (dv 4)) (DX.fr (d_op mF (op_addK (K := K) rfl) od_add (DX.fr (d_int)) (DX.dr (dv 12)))))) (DX.fr (d_b1 mF (cr_lenK (K := K) rfl) c1_len (by exact rfl) T.b_len (by decide +kernel) (dvR 11))))) (pg_name (i := 13) sc__law_two.nd rfl (Or.inl rfl)) (et_name 13))
 (dss_cons (ds_set (i := 14) sc__law_two.nd rfl (Or.inl rfl) (DX.fd (d_op mF op_mod od_mod (DX.dr (d_ixK (K := K) rfl (DX.dr (dv 4)) (DX.fr (d_op mF (op_addK (K := K) rfl) od_add (DX.fr (d_int)) (DX.dr (dv 12)))))) (DX.fr (d_b1 mF (cr_lenK (K := K) rfl) c1_len (by exact rfl) T.b_len (by decide +kernel) (dvR 11))))))
 (dss_one (ds_itemN (i := 11) (DX.fd (d_op mF (op_addK (K := K) rfl) od_add (DX.dr (d_ixK (K := K) rfl (dvR 11) (DX.dr (dv 14)))) (DX.dr (dv 13)))) (DX.dr (dv 14)))))) (dss_nil))))
 (dss_one (ds_set (i := 7) sc__law_two.nd rfl (Or.inl rfl) (DX.fd (d_t1 mF (cr_tupleK (K := K) rfl) c1_tuple (by exact rfl) T.b_tuple (by decide +kernel) (DX.fr (d_b1 mF (cr_sortK (K := K) rfl) c1_sorted (by exact rfl) T.b_sorted (by decide +kernel) (dvR 11))))))))) (dss_nil))))
 (dss_one (ds_ret (d_tup (da_cons (dv 6) (da_cons (dv 7) (da_nil)))))))))))⟩
theorem sc_is_within : FnScope ["thing", "low", "high"] ["thing", "low", "high"] (defScope (top 9)) := ⟨rfl, rfl, rfl, by decide +kernel, rfl, by decide +kernel, by decide +kernel⟩
theorem ok_is_within (T : Tx K mg) : FB P w K mg base (clOf K) 1 "is_within" ["thing", "low", "high"] m_is_within :=
 fb_of T.d_is_within sc_is_within (fun _ _ _ _ _ _ us hl => match us, hl with | [_, _, _], _ => rfl) fun f cdv A outer s H E hr => ⟨_, dss_one (ds_ret (d_and (P := pF) (d_isiK (K := K) (T := "int") rfl (by decide) (by exact rfl) T.b_isinstance (by exact rfl) T.b_int rfl (DX.dr (dv 0))) (d_and (P := pF) (d_notV (d_isiK (K := K) (T := "bool") rfl (by decide) (by exact rfl) T.b_isinstance (by exact rfl) T.b_bool rfl (DX.dr (dv 0)))) (d_one (d_asB (d_chain (p := (fun i j => decide (i ≤ j))) (q := (fun i j => decide (i ≤ j))) op_le op_le (DX.dr (dv 1)) (DX.dr (dv 0)) (DX.dr (dv 2))))))))⟩
theorem sc_is_rising : FnScope ["thing", "many", "most", "one", "other"] ["thing", "many", "most"] (defScope (top 10)) := ⟨rfl, rfl, rfl, by decide +kernel, rfl, by decide +kernel, by decide +kernel⟩
theorem ok_is_rising (T : Tx K mg) : FB P w K mg base (clOf K) 2 "is_rising" ["thing", "many", "most"] m_is_rising :=
 fb_of T.d_is_rising sc_is_rising (fun _ _ _ _ _ _ us hl => match us, hl with | [_, _, _], _ => rfl) fun f cdv A outer s H E hr => ⟨_, dss_cons (ds_if (DW.t (dw_or (dt_not (dt_truK (K := K) rfl (DX.fr (d_isiK (K := K) (T := "tuple") rfl (by decide) (by exact rfl) T.b_isinstance (by exact rfl) T.b_tuple rfl (DX.dr (dv 0)))))) (dw_or1 (dt_not (dt_chain (p := (fun i j => decide (i ≤ j))) (q := (fun i j => decide (i ≤ j))) op_le op_le (DX.fr (d_int)) (DX.fr (d_b1 mF (cr_lenK (K := K) rfl) c1_len (by exact rfl) T.b_len (by decide +kernel) (DX.dr (dv 0)))) (DX.dr (dv 1))))))) (dss_one (ds_ret (d_bl))) (dss_nil))
 (dss_cons (ds_if (dt_truK (K := K) rfl (DX.fr (d_lcIf (own := [("one", 3)]) rfl sc_is_rising.nd (di_seqCK (K := K) rfl (DX.dr (dv 0))) (blkOk_by (by show blkC ["thing", "many", "most", "one", "other"] (defScope (top 10)) _ _ = true; decide +kernel)) (fun _ _ _ _ _ => pg_name (i := 3) sc_is_rising.nd rfl (Or.inl rfl)) (et_name 3) (by decide) (fun _ _ _ _ _ => dt_not (dt_truK (K := K) rfl (DX.fr (d_callF (ok_is_within T) (hr.mono (by decide)) (by exact rfl) takes0 (da_cons (dv 3) (da_cons (DX.fd (d_int)) (da_cons (dv 2) (da_nil)))))))) (fun _ _ _ _ _ => dv 3)))) (dss_one (ds_ret (d_bl))) (dss_nil))
 (dss_one (ds_ret (d_notTK (K := K) rfl (DX.fr (d_lcIf (own := [("one", 3), ("other", 4)]) rfl sc_is_rising.nd (DI.c (di_zip (by exact rfl) T.b_zip (dv 0) (DX.fd (d_slK (K := K) rfl (DX.dr (dv 0)) (do_so (DX.fr (d_int))) (do_no))))) (blkOk_by (by show blkC ["thing", "many", "most", "one", "other"] (defScope (top 10)) _ _ = true; decide +kernel)) (fun _ _ _ _ _ => pg_tup (n := 2) rfl (pgs_cons (pg_name (i := 3) sc_is_rising.nd rfl (Or.inl rfl)) (pgs_cons (pg_name (i := 4) sc_is_rising.nd rfl (Or.inl rfl)) (pgs_nil)))) (et_2 3 4) (by decide) (fun _ _ _ _ _ => dt_cmp op_gt od_gt (DX.dr (dv 3)) (DX.dr (dv 4)) (nomark _)) (fun _ _ _ _ _ => DX.fd (d_int))))))))⟩
theorem sc_are_pieces : FnScope ["thing"] ["thing"] (defScope (top 15)) := ⟨rfl, rfl, rfl, by decide +kernel, rfl, by decide +kernel, by decide +kernel⟩
theorem ok_are_pieces (T : Tx K mg) : FB P w K mg base (clOf K) 3 "are_pieces" ["thing"] m_are_pieces :=
 fb_of T.d_are_pieces sc_are_pieces (fun _ _ _ _ _ _ us hl => match us, hl with | [_], _ => rfl) fun f cdv A outer s H E hr => ⟨_, dss_one (ds_ret (d_callF (ok_is_rising T) (hr.mono (by decide)) (by exact rfl) (takes_of rfl rfl rfl rfl) (da_cons (dv 0) (da_cons (DX.fd ((let ⟨_, h⟩ := T.c_MOST_PIECES; d_globI (by exact rfl) h))) (da_cons (DX.fd ((let ⟨_, h⟩ := T.c_MOST_SHARE; d_globI (by exact rfl) h))) (da_nil))))))⟩
theorem sc_look_pieces : FnScope ["pieces"] ["pieces"] (defScope (top 16)) := ⟨rfl, rfl, rfl, by decide +kernel, rfl, by decide +kernel, by decide +kernel⟩
theorem ok_look_pieces (T : Tx K mg) : FB P w K mg base (clOf K) 4 "look_pieces" ["pieces"] m_look_pieces :=
 fb_of T.d_look_pieces sc_look_pieces (fun _ _ _ _ _ _ us hl => match us, hl with | [_], _ => rfl) fun f cdv A outer s H E hr => ⟨_, dss_one (ds_if (dt_not (dt_truK (K := K) rfl (DX.fr (d_callF (ok_are_pieces T) (hr.mono (by decide)) (by exact rfl) (takes_of rfl rfl rfl rfl) (da_cons (dv 0) (da_nil)))))) (dss_one (ds_raiseN T.x_BadPieces rfl (takes_of rfl rfl rfl rfl) (by exact rfl))) (dss_nil))⟩
theorem sc_is_list : FnScope ["thing"] ["thing"] (defScope (top 11)) := ⟨rfl, rfl, rfl, by decide +kernel, rfl, by decide +kernel, by decide +kernel⟩
theorem ok_is_list (T : Tx K mg) : FB P w K mg base (clOf K) 3 "is_list" ["thing"] m_is_list :=
 fb_of T.d_is_list sc_is_list (fun _ _ _ _ _ _ us hl => match us, hl with | [_], _ => rfl) fun f cdv A outer s H E hr => ⟨_, dss_one (ds_ret (d_callF (ok_is_rising T) (hr.mono (by decide)) (by exact rfl) (takes_of rfl rfl rfl rfl) (da_cons (dv 0) (da_cons (DX.fd ((let ⟨_, h⟩ := T.c_MOST_SHARES; d_globI (by exact rfl) h))) (da_cons (DX.fd ((let ⟨_, h⟩ := T.c_MOST_SHARE; d_globI (by exact rfl) h))) (da_nil))))))⟩
theorem sc_look : FnScope ["shares"] ["shares"] (defScope (top 12)) := ⟨rfl, rfl, rfl, by decide +kernel, rfl, by decide +kernel, by decide +kernel⟩
theorem ok_look (T : Tx K mg) : FB P w K mg base (clOf K) 4 "look" ["shares"] m_look :=
 fb_of T.d_look sc_look (fun _ _ _ _ _ _ us hl => match us, hl with | [_], _ => rfl) fun f cdv A outer s H E hr => ⟨_, dss_one (ds_if (dt_not (dt_truK (K := K) rfl (DX.fr (d_callF (ok_is_list T) (hr.mono (by decide)) (by exact rfl) (takes_of rfl rfl rfl rfl) (da_cons (dv 0) (da_nil)))))) (dss_one (ds_raiseN T.x_BadList rfl (takes_of rfl rfl rfl rfl) (by exact rfl))) (dss_nil))⟩
theorem sc_look_both : FnScope ["pieces", "shares"] ["pieces", "shares"] (defScope (top 17)) := ⟨rfl, rfl, rfl, by decide +kernel, rfl, by decide +kernel, by decide +kernel⟩
theorem ok_look_both (T : Tx K mg) : FB P w K mg base (clOf K) 5 "look_both" ["pieces", "shares"] m_look_both :=
 fb_of T.d_look_both sc_look_both (fun _ _ _ _ _ _ us hl => match us, hl with | [_, _], _ => rfl) fun f cdv A outer s H E hr => ⟨_, dss_cons (ds_expr (d_callF (ok_look_pieces T) (hr.mono (by decide)) (by exact rfl) (takes_of rfl rfl rfl rfl) (da_cons (dv 0) (da_nil))))
 (dss_cons (ds_expr (d_callF (ok_look T) (hr.mono (by decide)) (by exact rfl) (takes_of rfl rfl rfl rfl) (da_cons (dv 1) (da_nil))))
 (dss_one (ds_if (dt_cmp (op_neK (K := K) rfl (hu64 hr)) od_ne (DX.fr (d_b1 mF (cr_sumK (K := K) rfl rfl) c1_sum (by exact rfl) T.b_sum (by decide +kernel) (DX.dr (dv 0)))) (DX.fr (d_b1 mF (cr_sumK (K := K) rfl rfl) c1_sum (by exact rfl) T.b_sum (by decide +kernel) (DX.dr (dv 1)))) (nomark _)) (dss_one (ds_raiseN T.x_Unlike rfl (takes_of rfl rfl rfl rfl) (by exact rfl))) (dss_nil))))⟩
theorem sc_is_dealing : FnScope ["pieces", "shares", "thing", "every", "lot", "share"] ["pieces", "shares", "thing"] (defScope (top 23)) := ⟨rfl, rfl, rfl, by decide +kernel, rfl, by decide +kernel, by decide +kernel⟩
theorem ok_is_dealing (T : Tx K mg) : FB P w K mg base (clOf K) 6 "is_dealing" ["pieces", "shares", "thing"] m_is_dealing :=
 fb_of T.d_is_dealing sc_is_dealing (fun _ _ _ _ _ _ us hl => match us, hl with | [_, _, _], _ => rfl) fun f cdv A outer s H E hr => ⟨_, dss_cons (ds_expr (d_callF (ok_look_both T) (hr.mono (by decide)) (by exact rfl) (takes_of rfl rfl rfl rfl) (da_cons (dv 0) (da_cons (dv 1) (da_nil)))))
 (dss_cons (ds_if (DW.t (dw_or (dt_not (dt_truK (K := K) rfl (DX.fr (d_isiK (K := K) (T := "list") rfl (by decide) (by exact rfl) T.b_isinstance (by exact rfl) T.b_list rfl (DX.dr (dv 2)))))) (dw_or (dt_cmp (op_neK (K := K) rfl (hu64 hr)) od_ne (DX.fr (d_b1 mF (cr_lenK (K := K) rfl) c1_len (by exact rfl) T.b_len (by decide +kernel) (DX.dr (dv 2)))) (DX.fr (d_b1 mF (cr_lenK (K := K) rfl) c1_len (by exact rfl) T.b_len (by decide +kernel) (DX.dr (dv 1)))) (nomark _)) (dw_or1 (dt_truK (K := K) rfl (DX.fr (d_lcIf (own := [("lot", 4)]) rfl sc_is_dealing.nd (di_seqCK (K := K) rfl (DX.dr (dv 2))) (blkOk_by (by show blkC ["pieces", "shares", "thing", "every", "lot", "share"] (defScope (top 23)) _ _ = true; decide +kernel)) (fun _ _ _ _ _ => pg_name (i := 4) sc_is_dealing.nd rfl (Or.inl rfl)) (et_name 4) (by decide) (fun _ _ _ _ _ => dt_not (dt_truK (K := K) rfl (DX.fr (d_callF (ok_are_pieces T) (hr.mono (by decide)) (by exact rfl) takes0 (da_cons (dv 4) (da_nil)))))) (fun _ _ _ _ _ => dv 4)))))))) (dss_one (ds_ret (d_bl))) (dss_nil))
 (dss_cons (ds_setO (i := 3) sc_is_dealing.nd rfl (Or.inl rfl) (d_lst (da_nil)))
 (dss_cons (ds_for (passes_of rfl) rfl (di_zipM (by exact rfl) T.b_zip (dv 2) (dv 1)) (pg_tup (n := 2) rfl (pgs_cons (pg_name (i := 4) sc_is_dealing.nd rfl (Or.inl rfl)) (pgs_cons (pg_name (i := 5) sc_is_dealing.nd rfl (Or.inl rfl)) (pgs_nil)))) (et_2 4 5) (dss_cons (ds_if (dt_cmp (op_neK (K := K) rfl (hu64 hr)) od_ne (DX.fr (d_b1 mF (cr_sumK (K := K) rfl rfl) c1_sum (by exact rfl) T.b_sum (by decide +kernel) (DX.dr (dv 4)))) (DX.dr (dv 5)) (nomark _)) (dss_one (ds_ret (d_bl))) (dss_nil))
 (dss_one (ds_ext (i := 3) (DX.dr (dv 4))))))
 (dss_one (ds_ret (d_cmp (op_eqK (K := K) rfl (hu64 hr)) od_eq (DX.fr (d_b1 mF (cr_sortK (K := K) rfl) c1_sorted (by exact rfl) T.b_sorted (by decide +kernel) (dvR 3))) (DX.fr (d_t1 mF (cr_listK (K := K) rfl) c1_list (by exact rfl) T.b_list (by decide +kernel) (DX.dr (dv 0)))) (nomark _)))))))⟩
theorem sc__law_whole : FnScope ["found"] ["found"] (defScope (top 28)) := ⟨rfl, rfl, rfl, by decide +kernel, rfl, by decide +kernel, by decide +kernel⟩
theorem ok__law_whole (T : Tx K mg) : FB P w K mg base (clOf K) 1 "_law_whole" ["found"] m__law_whole :=
 fb_of T.d__law_whole sc__law_whole (fun _ _ _ _ _ _ us hl => match us, hl with | [_], _ => rfl) fun f cdv A outer s H E hr => ⟨_, dss_one (ds_ret (d_and (P := pF) (d_isiK (K := K) (T := "int") rfl (by decide) (by exact rfl) T.b_isinstance (by exact rfl) T.b_int rfl (DX.dr (dv 0))) (d_one (d_notV (d_isiK (K := K) (T := "bool") rfl (by decide) (by exact rfl) T.b_isinstance (by exact rfl) T.b_bool rfl (DX.dr (dv 0)))))))⟩
theorem sc__law_in : FnScope ["thing", "low", "high"] ["thing", "low", "high"] (defScope (top 30)) := ⟨rfl, rfl, rfl, by decide +kernel, rfl, by decide +kernel, by decide +kernel⟩
theorem ok__law_in (T : Tx K mg) : FB P w K mg base (clOf K) 2 "_law_in" ["thing", "low", "high"] m__law_in :=
 fb_of T.d__law_in sc__law_in (fun _ _ _ _ _ _ us hl => match us, hl with | [_, _, _], _ => rfl) fun f cdv A outer s H E hr => ⟨_, dss_one (ds_ret (d_and (P := pF) (d_asB (d_callF (ok__law_whole T) (hr.mono (by decide)) (by exact rfl) (takes_of rfl rfl rfl rfl) (da_cons (dv 0) (da_nil)))) (d_one (d_asB (d_chain (p := (fun i j => decide (i ≤ j))) (q := (fun i j => decide (i ≤ j))) op_le op_le (DX.dr (dv 1)) (DX.dr (dv 0)) (DX.dr (dv 2)))))))⟩
theorem sc__law_is_rising : FnScope ["thing", "many", "one"] ["thing", "many"] (defScope (top 33)) := ⟨rfl, rfl, rfl, by decide +kernel, rfl, by decide +kernel, by decide +kernel⟩
theorem ok__law_is_rising (T : Tx K mg) : FB P w K mg base (clOf K) 3 "_law_is_rising" ["thing", "many"] m__law_is_rising :=
 fb_of T.d__law_is_rising sc__law_is_rising (fun _ _ _ _ _ _ us hl => match us, hl with | [_, _], _ => rfl) fun f cdv A outer s H E hr => ⟨_, dss_cons (ds_if (DW.t (dw_or (dt_not (dt_truK (K := K) rfl (DX.fr (d_isiK (K := K) (T := "tuple") rfl (by decide) (by exact rfl) T.b_isinstance (by exact rfl) T.b_tuple rfl (DX.dr (dv 0)))))) (dw_or1 (dt_not (dt_chain (p := (fun i j => decide (i ≤ j))) (q := (fun i j => decide (i ≤ j))) op_le op_le (DX.fr (d_int)) (DX.fr (d_b1 mF (cr_lenK (K := K) rfl) c1_len (by exact rfl) T.b_len (by decide +kernel) (DX.dr (dv 0)))) (DX.dr (dv 1))))))) (dss_one (ds_ret (d_bl))) (dss_nil))
 (dss_one (ds_ret (d_and (P := pF) (d_asB (d_cmp (op_eqK (K := K) rfl (hu64 hr)) od_eq (DX.fr (d_lcIf (own := [("one", 2)]) rfl sc__law_is_rising.nd (di_seqCK (K := K) rfl (DX.dr (dv 0))) (blkOk_by (by show blkC ["thing", "many", "one"] (defScope (top 33)) _ _ = true; decide +kernel)) (fun _ _ _ _ _ => pg_name (i := 2) sc__law_is_rising.nd rfl (Or.inl rfl)) (et_name 2) (by decide) (fun _ _ _ _ _ => dt_not (dt_truK (K := K) rfl (DX.fr (d_callF (ok__law_in T) (hr.mono (by decide)) (by exact rfl) takes0 (da_cons (dv 2) (da_cons (DX.fd (d_int)) (da_cons (DX.fd (d_int)) (da_nil)))))))) (fun _ _ _ _ _ => dv 2))) (DX.fr (d_lst (da_nil))) (nomark _))) (d_one (d_asB (d_cmp (op_eqK (K := K) rfl (hu64 hr)) od_eq (DX.fr (d_t1 mF (cr_listK (K := K) rfl) c1_list (by exact rfl) T.b_list (by decide +kernel) (DX.dr (dv 0)))) (DX.fr (d_b1 mF (cr_sortK (K := K) rfl) c1_sorted (by exact rfl) T.b_sorted (by decide +kernel) (DX.dr (dv 0)))) (nomark _)))))))⟩
theorem sc__law_is_dealing : FnScope ["some", "shares", "thing", "every", "lot", "share"] ["some", "shares", "thing"] (defScope (top 35)) := ⟨rfl, rfl, rfl, by decide +kernel, rfl, by decide +kernel, by decide +kernel⟩
theorem ok__law_is_dealing (T : Tx K mg) : FB P w K mg base (clOf K) 4 "_law_is_dealing" ["some", "shares", "thing"] m__law_is_dealing :=
 fb_of T.d__law_is_dealing sc__law_is_dealing (fun _ _ _ _ _ _ us hl => match us, hl with | [_, _, _], _ => rfl) fun f cdv A outer s H E hr => ⟨_, dss_cons (ds_if (DW.t (dw_or (dt_not (dt_truK (K := K) rfl (DX.fr (d_isiK (K := K) (T := "list") rfl (by decide) (by exact rfl) T.b_isinstance (by exact rfl) T.b_list rfl (DX.dr (dv 2)))))) (dw_or1 (dt_cmp (op_neK (K := K) rfl (hu64 hr)) od_ne (DX.fr (d_b1 mF (cr_lenK (K := K) rfl) c1_len (by exact rfl) T.b_len (by decide +kernel) (DX.dr (dv 2)))) (DX.fr (d_b1 mF (cr_lenK (K := K) rfl) c1_len (by exact rfl) T.b_len (by decide +kernel) (DX.dr (dv 1)))) (nomark _))))) (dss_one (ds_ret (d_bl))) (dss_nil))
 (dss_cons (ds_set (i := 3) sc__law_is_dealing.nd rfl (Or.inl rfl) (DX.fd (d_lst (da_nil))))
 (dss_cons (ds_for (passes_of rfl) rfl (di_zipM (by exact rfl) T.b_zip (dv 2) (dv 1)) (pg_tup (n := 2) rfl (pgs_cons (pg_name (i := 4) sc__law_is_dealing.nd rfl (Or.inl rfl)) (pgs_cons (pg_name (i := 5) sc__law_is_dealing.nd rfl (Or.inl rfl)) (pgs_nil)))) (et_2 4 5) (dss_cons (ds_if (DW.t (dw_or (dt_not (dt_truK (K := K) rfl (DX.fr (d_callF (ok__law_is_rising T) (hr.mono (by decide)) (by exact rfl) (takes_of rfl rfl rfl rfl) (da_cons (dv 4) (da_cons (DX.fd (d_int)) (da_nil))))))) (dw_or1 (dt_cmp (op_neK (K := K) rfl (hu64 hr)) od_ne (DX.fr (d_b1 mF (cr_sumK (K := K) rfl rfl) c1_sum (by exact rfl) T.b_sum (by decide +kernel) (DX.dr (dv 4)))) (DX.dr (dv 5)) (nomark _))))) (dss_one (ds_ret (d_bl))) (dss_nil))
 (dss_one (ds_set (i := 3) sc__law_is_dealing.nd rfl (Or.inl rfl) (DX.fd (d_op mF (op_addK (K := K) rfl) od_add (DX.dr (dv 3)) (DX.fr (d_t1 mF (cr_listK (K := K) rfl) c1_list (by exact rfl) T.b_list (by decide +kernel) (DX.dr (dv 4))))))))))
 (dss_one (ds_ret (d_cmp (op_eqK (K := K) rfl (hu64 hr)) od_eq (DX.fr (d_b1 mF (cr_sortK (K := K) rfl) c1_sorted (by exact rfl) T.b_sorted (by decide +kernel) (DX.dr (dv 3)))) (DX.fr (d_t1 mF (cr_listK (K := K) rfl) c1_list (by exact rfl) T.b_list (by decide +kernel) (DX.dr (dv 0)))) (nomark _))))))⟩
theorem ok_serves_of (T : Tx K mg) : FB P w K mg base (clOf K) 1 "serves_of" ["pieces", "shares"] m_serves_of := fb_no 1 T.d_serves_of (fun _ _ _ _ _ _ us hl => match us, hl with | [_, _], _ => rfl)
theorem sc_serves : FnScope ["pieces", "shares"] ["pieces", "shares"] (defScope (top 21)) := ⟨rfl, rfl, rfl, by decide +kernel, rfl, by decide +kernel, by decide +kernel⟩
theorem ok_serves (T : Tx K mg) : FB P w K mg base (clOf K) 6 "serves" ["pieces", "shares"] m_serves :=
 fb_of T.d_serves sc_serves (fun _ _ _ _ _ _ us hl => match us, hl with | [_, _], _ => rfl) fun f cdv A outer s H E hr => ⟨_, dss_cons (ds_expr (d_callF (ok_look_both T) (hr.mono (by decide)) (by exact rfl) (takes_of rfl rfl rfl rfl) (da_cons (dv 0) (da_cons (dv 1) (da_nil)))))
 (dss_one (ds_ret (d_callF (ok_serves_of T) (hr.mono (by decide)) (by exact rfl) (takes_of rfl rfl rfl rfl) (da_cons (dv 0) (da_cons (dv 1) (da_nil))))))⟩
theorem ok_dealt (T : Tx K mg) : FB P w K mg base (clOf K) 1 "dealt" ["pieces", "shares"] m_dealt := fb_no 1 T.d_dealt (fun _ _ _ _ _ _ us hl => match us, hl with | [_, _], _ => rfl)
theorem sc_dealing : FnScope ["pieces", "shares", "found"] ["pieces", "shares"] (defScope (top 22)) := ⟨rfl, rfl, rfl, by decide +kernel, rfl, by decide +kernel, by decide +kernel⟩
theorem ok_dealing (T : Tx K mg) : FB P w K mg base (clOf K) 6 "dealing" ["pieces", "shares"] m_dealing :=
 fb_of T.d_dealing sc_dealing (fun _ _ _ _ _ _ us hl => match us, hl with | [_, _], _ => rfl) fun f cdv A outer s H E hr => ⟨_, dss_cons (ds_expr (d_callF (ok_look_both T) (hr.mono (by decide)) (by exact rfl) (takes_of rfl rfl rfl rfl) (da_cons (dv 0) (da_cons (dv 1) (da_nil)))))
 (dss_cons (ds_set (i := 2) sc_dealing.nd rfl (Or.inl rfl) (DX.fd (d_callF (ok_dealt T) (hr.mono (by decide)) (by exact rfl) (takes_of rfl rfl rfl rfl) (da_cons (dv 0) (da_cons (dv 1) (da_nil))))))
 (dss_cons (ds_if (dt_cmp op_isN1 od_is (DX.dr (dv 2)) (DX.fr (d_non)) (nomark _)) (dss_one (ds_raiseN T.x_CantServe rfl (takes_of rfl rfl rfl rfl) (by exact rfl))) (dss_nil))
 (dss_one (ds_retV 2))))⟩
theorem ok_ways_from (T : Tx K mg) : FB P w K mg base (clOf K) 1 "ways_from" ["pieces", "left", "at", "known"] m_ways_from := fb_no 1 T.d_ways_from (fun _ _ _ _ _ _ us hl => match us, hl with | [_, _, _, _], _ => rfl)
theorem sc_how_many : FnScope ["pieces", "shares"] ["pieces", "shares"] (defScope (top 25)) := ⟨rfl, rfl, rfl, by decide +kernel, rfl, by decide +kernel, by decide +kernel⟩
theorem ok_how_many (T : Tx K mg) : FB P w K mg base (clOf K) 6 "how_many" ["pieces", "shares"] m_how_many :=
 fb_of T.d_how_many sc_how_many (fun _ _ _ _ _ _ us hl => match us, hl with | [_, _], _ => rfl) fun f cdv A outer s H E hr => ⟨_, dss_cons (ds_expr (d_callF (ok_look_both T) (hr.mono (by decide)) (by exact rfl) (takes_of rfl rfl rfl rfl) (da_cons (dv 0) (da_cons (dv 1) (da_nil)))))
 (dss_one (ds_bad))⟩
theorem sc__law_serve_word : FnScope ["some", "shares", "found", "mode", "e", "one"] ["some", "shares"] (defScope (top 34)) := ⟨rfl, rfl, rfl, by decide +kernel, rfl, by decide +kernel, by decide +kernel⟩
theorem ok__law_serve_word (T : Tx K mg) : FB P w K mg base (clOf K) 7 "_law_serve_word" ["some", "shares"] m__law_serve_word :=
 fb_of T.d__law_serve_word sc__law_serve_word (fun _ _ _ _ _ _ us hl => match us, hl with | [_, _], _ => rfl) fun f cdv A outer s H E hr => ⟨_, dss_cons (ds_setO (i := 2) sc__law_serve_word.nd rfl (Or.inr rfl) (d_lst (da_nil)))
 (dss_cons (ds_for (passes_of rfl) rfl (di_rg1 (by exact rfl) T.b_range (DX.fr (d_int))) (pg_name (i := 3) sc__law_serve_word.nd rfl (Or.inl rfl)) (et_name 3) (dss_one (ds_try T.xf rfl rfl (takes_of rfl rfl rfl rfl) (fun W' pn xe tk hp => dss_one (ds_if (dt_cmp (op_eqK (K := K) rfl (hu64 hr)) od_eq (DX.dr (dv 3)) (DX.fr (d_int)) (nomark _)) (dss_one (ds_expr (d_callF (ok_serves T) (hr.mono (by decide)) (by exact rfl) tk (da_cons (dv 0) (da_cons (dv 1) (da_nil)))))) (dss_one (ds_if (dt_cmp (op_eqK (K := K) rfl (hu64 hr)) od_eq (DX.dr (dv 3)) (DX.fr (d_int)) (nomark _)) (dss_one (ds_expr (d_callF (ok_dealing T) (hr.mono (by decide)) (by exact rfl) tk (da_cons (dv 0) (da_cons (dv 1) (da_nil)))))) (dss_one (ds_if (dt_cmp (op_eqK (K := K) rfl (hu64 hr)) od_eq (DX.dr (dv 3)) (DX.fr (d_int)) (nomark _)) (dss_one (ds_expr (d_callF (ok_how_many T) (hr.mono (by decide)) (by exact rfl) tk (da_cons (dv 0) (da_cons (dv 1) (da_nil)))))) (dss_one (ds_expr (d_callF (ok_is_dealing T) (hr.mono (by decide)) (by exact rfl) tk (da_cons (dv 0) (da_cons (dv 1) (da_cons (DX.fd (d_non)) (da_nil))))))))))))) (.as ⟨(by exact rfl), by decide, .inl T.g_ShareError⟩ sc__law_serve_word.nd rfl rfl (fun _ _ _ _ _ hz hf => ps_suiteA (i := 4) (j := 2) (ks := [2, 3, 4]) hz hf (by exact rfl) T.b_isinstance (.cons (by exact rfl) T.g_BadPieces (by decide) rfl rfl rfl rfl (.cons (by exact rfl) T.g_BadList (by decide) rfl rfl rfl rfl (.cons (by exact rfl) T.g_Unlike (by decide) rfl rfl rfl rfl (.nil))))) (.nil)) (.cons (hev_A T.xf (ks := [2, 3, 4]) rfl (by decide) (by decide)) (fun _ z => by cases z; exact (by decide : 4 < 6)) (.nil)))))
 (dss_cons (ds_if (DW.t (dw_or (dt_cmp op_lt od_lt (DX.fr (d_b1 mF (cr_lenK (K := K) rfl) c1_len (by exact rfl) T.b_len (by decide +kernel) (dvR 2))) (DX.fr (d_int)) (nomark _)) (dw_or1 (dt_cmp (op_neK (K := K) rfl (hu64 hr)) od_ne (DX.fr (d_lcIf (own := [("one", 5)]) rfl sc__law_serve_word.nd (di_seqCK (K := K) rfl (dvR 2)) (blkOk_by (by show blkC ["some", "shares", "found", "mode", "e", "one"] (defScope (top 34)) _ _ = true; decide +kernel)) (fun _ _ _ _ _ => pg_name (i := 5) sc__law_serve_word.nd rfl (Or.inl rfl)) (et_name 5) (by decide) (fun _ _ _ _ _ => DW.t (dw_or (dt_cmp (op_neK (K := K) rfl (hu64 hr)) od_ne (DX.dr (dv 5)) (DX.dr (d_ixK (K := K) rfl (dvR 2) (DX.fr (d_int)))) (nomark _)) (dw_or1 (dt_cmp (op_neK (K := K) rfl (hu64 hr)) od_ne (DX.fr (d_lcnt (K := K) rfl (DX.dr (dv 5)) (DX.fr (d_bl)))) (DX.fr (d_int)) (nomark _))))) (fun _ _ _ _ _ => dv 5))) (DX.fr (d_lst (da_nil))) (nomark _))))) (dss_one (ds_ret (d_str))) (dss_nil))
 (dss_one (ds_ret (DX.nl (d_ixK (K := K) rfl (DX.fr (d_lst (da_cons (DX.fd (d_str)) (da_cons (DX.fd (d_str)) (da_cons (DX.fd (d_str)) (da_nil)))))) (DX.fr (d_lidx (K := K) rfl (DX.dr (d_ixK (K := K) rfl (dvR 2) (DX.fr (d_int)))) (DX.fr (d_bl))))))))))⟩
theorem sc_law : FnScope ["script", "row", "shares", "some", "lots_here", "at", "lot", "bent", "others", "thing", "one"] ["script"] (defScope (top 36)) := ⟨rfl, rfl, rfl, by decide +kernel, rfl, by decide +kernel, by decide +kernel⟩
theorem ok_law (T : Tx K mg) : FB P w K mg base (clOf K) 8 "law" ["script"] m_law :=
 fb_of T.d_law sc_law (fun _ _ _ _ _ _ us hl => match us, hl with | [_], _ => rfl) fun f cdv A outer s H E hr => ⟨_, dss_cons (ds_set (i := 1) sc_law.nd rfl (Or.inl rfl) (DX.fd (d_callF (ok__law_row T) (hr.mono (by decide)) (by exact rfl) (takes_of rfl rfl rfl rfl) (da_cons (dv 0) (da_cons (DX.fd (d_int)) (da_nil))))))
 (dss_cons (ds_set (i := 2) sc_law.nd rfl (Or.inl rfl) (d_ixK (K := K) rfl (DX.fr (d_callF (ok__law_two T) (hr.mono (by decide)) (by exact rfl) (takes_of rfl rfl rfl rfl) (da_cons (dv 0) (da_cons (DX.fd (d_int)) (da_cons (DX.fd (d_int)) (da_cons (DX.fd (d_int)) (da_nil))))))) (DX.fr (d_int))))
 (dss_cons (ds_set (i := 3) sc_law.nd rfl (Or.inl rfl) (DX.fd (d_lst (da_nil))))
 (dss_cons (ds_setO (i := 4) sc_law.nd rfl (Or.inl rfl) (d_lst (da_nil)))
 (dss_cons (ds_for (passes_of rfl) rfl (di_rg1 (by exact rfl) T.b_range (DX.fr (d_b1 mF (cr_lenK (K := K) rfl) c1_len (by exact rfl) T.b_len (by decide +kernel) (DX.dr (dv 2))))) (pg_name (i := 5) sc_law.nd rfl (Or.inl rfl)) (et_name 5) (dss_cons (ds_app (i := 4) (DX.fd (d_callF (ok__law_list T) (hr.mono (by decide)) (by exact rfl) (takes_of rfl rfl rfl rfl) (da_cons (dv 1) (da_cons (DX.fd (d_op mF (op_addK (K := K) rfl) od_add (DX.fr (d_int)) (DX.fr (d_op mF (op_mulK (K := K) rfl) od_mul (DX.fr (d_int)) (DX.dr (dv 5)))))) (da_cons (d_ixK (K := K) rfl (DX.dr (dv 2)) (DX.dr (dv 5))) (da_cons (DX.fd (d_int)) (da_nil))))))))
 (dss_one (ds_set (i := 3) sc_law.nd rfl (Or.inl rfl) (DX.fd (d_op mF (op_addK (K := K) rfl) od_add (DX.dr (dv 3)) (DX.fr (d_t1 mF (cr_listK (K := K) rfl) c1_list (by exact rfl) T.b_list (by decide +kernel) (DX.dr (d_ixK (K := K) rfl (dvR 4) (DX.fr (d_negI))))))))))))
 (dss_cons (ds_set (i := 3) sc_law.nd rfl (Or.inl rfl) (DX.fd (d_t1 mF (cr_tupleK (K := K) rfl) c1_tuple (by exact rfl) T.b_tuple (by decide +kernel) (DX.fr (d_b1 mF (cr_sortK (K := K) rfl) c1_sorted (by exact rfl) T.b_sorted (by decide +kernel) (DX.dr (dv 3)))))))
 (dss_cons (ds_if (dt_cmp op_gt od_gt (DX.fr (d_b1 mF (cr_lenK (K := K) rfl) c1_len (by exact rfl) T.b_len (by decide +kernel) (DX.dr (dv 3)))) (DX.fr (d_int)) (nomark _)) (dss_one (ds_ret (d_cmp (op_eqK (K := K) rfl (hu64 hr)) od_eq (DX.fr (d_callF (ok__law_serve_word T) (hr.mono (by decide)) (by exact rfl) (takes_of rfl rfl rfl rfl) (da_cons (dv 3) (da_cons (dv 2) (da_nil))))) (DX.fr (d_str)) (nomark _)))) (dss_nil))
 (dss_cons (ds_set (i := 5) sc_law.nd rfl (Or.inl rfl) (DX.fd (d_op mF op_mod od_mod (DX.dr (d_ixK (K := K) rfl (DX.dr (dv 1)) (DX.fr (d_int)))) (DX.fr (d_b1 mF (cr_lenK (K := K) rfl) c1_len (by exact rfl) T.b_len (by decide +kernel) (DX.dr (dv 2)))))))
 (dss_cons (ds_set (i := 6) sc_law.nd rfl (Or.inl rfl) (d_ixK (K := K) rfl (dvR 4) (DX.dr (dv 5))))
 (dss_cons (ds_set (i := 7) sc_law.nd rfl (Or.inl rfl) (DX.fd (d_lst (da_cons (DX.fd (d_revK (K := K) rfl (DX.dr (dv 6)))) (da_cons (DX.fd (d_op mF (op_addK (K := K) rfl) od_add (DX.dr (dv 6)) (DX.fr (d_tup (da_cons (DX.fd (d_int)) (da_nil)))))) (da_cons (DX.fd (d_slK (K := K) rfl (DX.dr (dv 6)) (do_so (DX.fr (d_int))) (do_no))) (da_cons (DX.fd (d_op mF (op_addK (K := K) rfl) od_add (DX.dr (dv 6)) (DX.fr (d_slK (K := K) rfl (DX.dr (dv 6)) (do_no) (do_so (DX.fr (d_int))))))) (da_cons (DX.fd (d_t1 mF (cr_listK (K := K) rfl) c1_list (by exact rfl) T.b_list (by decide +kernel) (DX.dr (dv 6)))) (da_cons (DX.fd (d_non)) (da_cons (DX.fd (d_tup (da_cons (DX.fd (d_b1 mF (cr_sumK (K := K) rfl rfl) c1_sum (by exact rfl) T.b_sum (by decide +kernel) (DX.dr (dv 6)))) (da_nil)))) (da_cons (DX.fd (d_t1 mF (cr_tupleK (K := K) rfl) c1_tuple (by exact rfl) T.b_tuple (by decide +kernel) (DX.fr (d_op mF (op_mulK (K := K) rfl) od_mul (DX.fr (d_lst (da_cons (DX.fd (d_int)) (da_nil)))) (DX.fr (d_b2 mF (cr_min2 rfl) c2_min (by exact rfl) T.b_min (by decide +kernel) (DX.fr (d_b1 mF (cr_sumK (K := K) rfl rfl) c1_sum (by exact rfl) T.b_sum (by decide +kernel) (DX.dr (dv 6)))) (DX.fr (d_int)))))))) (da_nil))))))))))))
 (dss_cons (ds_set (i := 7) sc_law.nd rfl (Or.inl rfl) (DX.fd (d_op mF (op_addK (K := K) rfl) od_add (DX.dr (dv 7)) (DX.fr (d_lst (da_cons (DX.fd (d_callF (ok__law_list T) (hr.mono (by decide)) (by exact rfl) (takes_of rfl rfl rfl rfl) (da_cons (dv 1) (da_cons (DX.fd (d_int)) (da_cons (DX.fd (d_b1 mF (cr_sumK (K := K) rfl rfl) c1_sum (by exact rfl) T.b_sum (by decide +kernel) (DX.dr (dv 6)))) (da_cons (DX.fd (d_int)) (da_nil))))))) (da_cons (DX.fd (d_callF (ok__law_list T) (hr.mono (by decide)) (by exact rfl) (takes_of rfl rfl rfl rfl) (da_cons (dv 1) (da_cons (DX.fd (d_int)) (da_cons (DX.fd (d_b1 mF (cr_sumK (K := K) rfl rfl) c1_sum (by exact rfl) T.b_sum (by decide +kernel) (DX.dr (dv 6)))) (da_cons (DX.fd (d_int)) (da_nil))))))) (da_nil))))))))
 (dss_frz 4 (dss_cons (ds_set (i := 8) sc_law.nd rfl (Or.inl rfl) (DX.fd (d_lst (da_cons (dv 4) (da_cons (DX.fd (d_op mF (op_addK (K := K) rfl) od_add (DX.fr (d_op mF (op_addK (K := K) rfl) od_add (DX.fr (d_slK (K := K) rfl (DX.dr (dv 4)) (do_no) (do_so (DX.dr (dv 5))))) (DX.fr (d_lst (da_cons (d_ixK (K := K) rfl (DX.dr (dv 7)) (DX.fr (d_op mF op_mod od_mod (DX.dr (d_ixK (K := K) rfl (DX.dr (dv 1)) (DX.fr (d_int)))) (DX.fr (d_int))))) (da_nil)))))) (DX.fr (d_slK (K := K) rfl (DX.dr (dv 4)) (do_so (DX.fr (d_op mF (op_addK (K := K) rfl) od_add (DX.dr (dv 5)) (DX.fr (d_int))))) (do_no))))) (da_cons (DX.fd (d_revK (K := K) rfl (DX.dr (dv 4)))) (da_cons (DX.fd (d_slK (K := K) rfl (DX.dr (dv 4)) (do_so (DX.fr (d_int))) (do_no))) (da_nil))))))))
 (dss_cons (ds_set (i := 8) sc_law.nd rfl (Or.inl rfl) (DX.fd (d_op mF (op_addK (K := K) rfl) od_add (DX.dr (dv 8)) (DX.fr (d_lst (da_cons (DX.fd (d_t1 mF (cr_tupleK (K := K) rfl) c1_tuple (by exact rfl) T.b_tuple (by decide +kernel) (DX.dr (dv 4)))) (da_cons (DX.fd (d_non)) (da_cons (DX.fd (d_op mF (op_addK (K := K) rfl) od_add (DX.dr (dv 4)) (DX.fr (d_lst (da_cons (DX.fd (d_tup (da_cons (DX.fd (d_int)) (da_nil)))) (da_nil)))))) (da_cons (DX.fd (d_lcAll (own := [("one", 10)]) rfl sc_law.nd (di_seqCK (K := K) rfl (DX.dr (dv 4))) (blkOk_by (by show blkC ["script", "row", "shares", "some", "lots_here", "at", "lot", "bent", "others", "thing", "one"] (defScope (top 36)) _ _ = true; decide +kernel)) (fun _ _ _ _ _ => pg_name (i := 10) sc_law.nd rfl (Or.inl rfl)) (et_name 10) (by decide) (fun _ _ _ _ _ => DX.fd (d_op mF (op_mulK (K := K) rfl) od_mul (DX.fr (d_tup (da_cons (DX.fd (d_bl)) (da_nil)))) (DX.fr (d_b1 mF (cr_lenK (K := K) rfl) c1_len (by exact rfl) T.b_len (by decide +kernel) (DX.dr (dv 10)))))))) (da_nil))))))))))
 (dss_cons (ds_set (i := 9) sc_law.nd rfl (Or.inl rfl) (d_ixK (K := K) rfl (DX.dr (dv 8)) (DX.fr (d_op mF op_mod od_mod (DX.dr (d_ixK (K := K) rfl (DX.dr (dv 1)) (DX.fr (d_int)))) (DX.fr (d_int))))))
 (dss_one (ds_ret (d_cmp (op_eqK (K := K) rfl (hu64 hr)) od_eq (DX.fr (d_callF (ok_is_dealing T) (hr.mono (by decide)) (by exact rfl) (takes_of rfl rfl rfl rfl) (da_cons (dv 3) (da_cons (dv 2) (da_cons (dv 9) (da_nil)))))) (DX.fr (d_callF (ok__law_is_dealing T) (hr.mono (by decide)) (by exact rfl) (takes_of rfl rfl rfl rfl) (da_cons (dv 3) (da_cons (dv 2) (da_cons (dv 9) (da_nil)))))) (nomark _))))))))))))))))))⟩
end
end SBL

namespace SBL
open PySem SB
/-! ### the row -/
def cellF (ns : List Int) (k : Int) : Int := if k < ns.length then ns.getD k.toNat 0 else 0
theorem cell_ok (ns : List Int) (k : Int) (h0 : 0 ≤ k) : m__law_cell [.list (ns.map PyData.int), .int k] = .ok (.int (cellF ns k)) := by
  show (h__law_cell [some (.d (.list (ns.map PyData.int))), some (.d (.int k))]).rs = _
  by_cases h : k < ns.length
  · simp [h__law_cell, s__law_cell_0, s__law_cell_1, b_ok, b_err, b_bad, o_ok, o_err, n_ok, sSeq_K, seqK_nx, seqK_rt, seqK_er, v_d, v_Rd, v_Ro, v_Fo, v_Fi, v_Fb, v_Fs, v_Ft, v_Fn, f_o, f_d, a_i, a_b, a_l, a_sl, a_st, l_i, l_b, l_s, l_t, l_n, t_b, t_l, t_t, p_add, p_addT, p_addL, p_sub, p_mul, p_mod, p_div, p_pow, p_lt, p_le, p_gt, p_ge, p_min, p_max, p_lenL, p_lenT, p_tupL, p_tupT, p_lstL, p_lstT, p_ixL, p_ixT, p_slL, p_slT, p_eq, p_ne, p_isN, p_isNotN, r_1, r_2, c_k, c_j, i_non, i_bl, i_int, i_str, i_lst, i_tup, gTup_b, gLst_b, mkT_ok, mkL_ok, sap, sit, itK_ok, sex, exK_ok, sre, reK_ok, p_srtL, p_srtT, p_sumL, p_sumT, rs_rt, rs_nx, rs_er, p_inT, p_ninT, p_inL, shp_i, shp_b, shp_n, shp_T, shp_L, eqv_T, eqv_I, sIf, sRet, sSet, sSetO, sDrop, sNext, sRaise, sFrz, gTest, gBin, gUn, gC, gNl, gB, gAnd, gOr, gNot, gIf, gTru, aNil, aCons, gCall, gChain, gIsi, gSeq, gRg1, gRg2, sFor, tgN, gYes, sAsg, tg2, tg3, sPar, gSl, oSo, oNo, gEnum, gZip, gZipM, gR1, gR2, gLRg, gTRg, gLCnt, gLIdx, h, atI_ints ns k h0 h, cellF]
  · simp [h__law_cell, s__law_cell_0, s__law_cell_1, b_ok, b_err, b_bad, o_ok, o_err, n_ok, sSeq_K, seqK_nx, seqK_rt, seqK_er, v_d, v_Rd, v_Ro, v_Fo, v_Fi, v_Fb, v_Fs, v_Ft, v_Fn, f_o, f_d, a_i, a_b, a_l, a_sl, a_st, l_i, l_b, l_s, l_t, l_n, t_b, t_l, t_t, p_add, p_addT, p_addL, p_sub, p_mul, p_mod, p_div, p_pow, p_lt, p_le, p_gt, p_ge, p_min, p_max, p_lenL, p_lenT, p_tupL, p_tupT, p_lstL, p_lstT, p_ixL, p_ixT, p_slL, p_slT, p_eq, p_ne, p_isN, p_isNotN, r_1, r_2, c_k, c_j, i_non, i_bl, i_int, i_str, i_lst, i_tup, gTup_b, gLst_b, mkT_ok, mkL_ok, sap, sit, itK_ok, sex, exK_ok, sre, reK_ok, p_srtL, p_srtT, p_sumL, p_sumT, rs_rt, rs_nx, rs_er, p_inT, p_ninT, p_inL, shp_i, shp_b, shp_n, shp_T, shp_L, eqv_T, eqv_I, sIf, sRet, sSet, sSetO, sDrop, sNext, sRaise, sFrz, gTest, gBin, gUn, gC, gNl, gB, gAnd, gOr, gNot, gIf, gTru, aNil, aCons, gCall, gChain, gIsi, gSeq, gRg1, gRg2, sFor, tgN, gYes, sAsg, tg2, tg3, sPar, gSl, oSo, oNo, gEnum, gZip, gZipM, gR1, gR2, gLRg, gTRg, gLCnt, gLIdx, h, cellF]
def RowOk (r : List Int) : Prop := r.length = 60 ∧ ∀ x ∈ r, 0 ≤ x ∧ x < 1000
theorem row_ok (ns : List Int) (at_ : Int) (h0 : 0 ≤ at_) : ∃ r : List Int, m__law_row [.list (ns.map PyData.int), .int at_] = .ok (.list (r.map PyData.int)) ∧ RowOk r := by
  have hb : ∀ (i : Nat) (c : Int) (xs : List Int), (∀ x ∈ xs, 0 ≤ x ∧ x < 1000) → xs.length = i → i < 60 → ∃ (c' x : Int), (0 ≤ x ∧ x < 1000) ∧
      b__law_row_0 [some (.d (.list (ns.map PyData.int))), some (.d (.int at_)), some (.d (.int c)), some (.own (xs.map PyData.int)), some (.d (.int i))] = .nx [some (.d (.list (ns.map PyData.int))), some (.d (.int at_)), some (.d (.int c')), some (.own ((xs ++ [x]).map PyData.int)), some (.d (.int i))] := by
    intro i c xs hx hl hi
    have hm : mulOk c 48271 := .inr (by decide)
    have hm2 : mulOk 131 (i : Int) := .inl (by decide)
    have hk : 0 ≤ (at_ + 1 + i) % 20 := by omega
    have hp : L2.CPow 10 18 := by decide
    have hd : L2.CDiv ((c * 48271 + 131 * i + 7 + cellF ns ((at_ + 1 + i) % 20)) % 2147483647) 11 := by unfold L2.CDiv; omega
    have hd2 : L2.CDiv c 1000 := by unfold L2.CDiv; omega
    by_cases hc : cellF ns at_ < 10 ^ 18
    · refine ⟨(c * 48271 + 131 * i + 7 + cellF ns ((at_ + 1 + i) % 20)) % 2147483647, ((c * 48271 + 131 * i + 7 + cellF ns ((at_ + 1 + i) % 20)) % 2147483647) / 11 % 1000, by omega, ?_⟩
      have hc' : cellF ns at_ < 1000000000000000000 := hc
      simp [b__law_row_0, b_ok, b_err, b_bad, o_ok, o_err, n_ok, sSeq_K, seqK_nx, seqK_rt, seqK_er, v_d, v_Rd, v_Ro, v_Fo, v_Fi, v_Fb, v_Fs, v_Ft, v_Fn, f_o, f_d, a_i, a_b, a_l, a_sl, a_st, l_i, l_b, l_s, l_t, l_n, t_b, t_l, t_t, p_add, p_addT, p_addL, p_sub, p_mul, p_mod, p_div, p_pow, p_lt, p_le, p_gt, p_ge, p_min, p_max, p_lenL, p_lenT, p_tupL, p_tupT, p_lstL, p_lstT, p_ixL, p_ixT, p_slL, p_slT, p_eq, p_ne, p_isN, p_isNotN, r_1, r_2, c_k, c_j, i_non, i_bl, i_int, i_str, i_lst, i_tup, gTup_b, gLst_b, mkT_ok, mkL_ok, sap, sit, itK_ok, sex, exK_ok, sre, reK_ok, p_srtL, p_srtT, p_sumL, p_sumT, rs_rt, rs_nx, rs_er, p_inT, p_ninT, p_inL, shp_i, shp_b, shp_n, shp_T, shp_L, eqv_T, eqv_I, sIf, sRet, sSet, sSetO, sDrop, sNext, sRaise, sFrz, gTest, gBin, gUn, gC, gNl, gB, gAnd, gOr, gNot, gIf, gTru, aNil, aCons, gCall, gChain, gIsi, gSeq, gRg1, gRg2, sFor, tgN, gYes, sAsg, tg2, tg3, sPar, gSl, oSo, oNo, gEnum, gZip, gZipM, gR1, gR2, gLRg, gTRg, gLCnt, gLIdx, cell_ok ns at_ h0, hp, hc', hm, hm2, cell_ok ns _ hk, hd, show xs.length < 100000 by omega]
    · refine ⟨c / 1000, c % 1000, by omega, ?_⟩
      have hc' : ¬ cellF ns at_ < 1000000000000000000 := hc
      simp [b__law_row_0, b_ok, b_err, b_bad, o_ok, o_err, n_ok, sSeq_K, seqK_nx, seqK_rt, seqK_er, v_d, v_Rd, v_Ro, v_Fo, v_Fi, v_Fb, v_Fs, v_Ft, v_Fn, f_o, f_d, a_i, a_b, a_l, a_sl, a_st, l_i, l_b, l_s, l_t, l_n, t_b, t_l, t_t, p_add, p_addT, p_addL, p_sub, p_mul, p_mod, p_div, p_pow, p_lt, p_le, p_gt, p_ge, p_min, p_max, p_lenL, p_lenT, p_tupL, p_tupT, p_lstL, p_lstT, p_ixL, p_ixT, p_slL, p_slT, p_eq, p_ne, p_isN, p_isNotN, r_1, r_2, c_k, c_j, i_non, i_bl, i_int, i_str, i_lst, i_tup, gTup_b, gLst_b, mkT_ok, mkL_ok, sap, sit, itK_ok, sex, exK_ok, sre, reK_ok, p_srtL, p_srtT, p_sumL, p_sumT, rs_rt, rs_nx, rs_er, p_inT, p_ninT, p_inL, shp_i, shp_b, shp_n, shp_T, shp_L, eqv_T, eqv_I, sIf, sRet, sSet, sSetO, sDrop, sNext, sRaise, sFrz, gTest, gBin, gUn, gC, gNl, gB, gAnd, gOr, gNot, gIf, gTru, aNil, aCons, gCall, gChain, gIsi, gSeq, gRg1, gRg2, sFor, tgN, gYes, sAsg, tg2, tg3, sPar, gSl, oSo, oNo, gEnum, gZip, gZipM, gR1, gR2, gLRg, gTRg, gLCnt, gLIdx, cell_ok ns at_ h0, hp, hc', hd2, show xs.length < 100000 by omega]
  obtain ⟨ρ', e, c, xs, t, rfl, hl, hx⟩ := forLoop_inv (set := tgN 4) (body := b__law_row_0) (fun i ρ => ∃ (c : Int) (xs : List Int) (t : Option Cl), ρ = [some (.d (.list (ns.map PyData.int))), some (.d (.int at_)), some (.d (.int c)), some (.own (xs.map PyData.int)), t] ∧ xs.length = i ∧ ∀ x ∈ xs, 0 ≤ x ∧ x < 1000)
    (rgD 0 60) 0 [some (.d (.list (ns.map PyData.int))), some (.d (.int at_)), some (.d (.int (cellF ns at_))), some (.own []), none] ⟨_, [], none, rfl, rfl, fun x h => nomatch h⟩ fun i d ρ hd hp => by
      obtain ⟨c, xs, t, rfl, hl, hx⟩ := hp
      obtain ⟨rfl, hi⟩ := rgD_get2 hd
      obtain ⟨c', x, hx', e⟩ := hb i c xs hx (by omega) hi
      have hi0 : (0 : Int) + (i : Nat) = (i : Int) := by omega
      rw [hi0]
      refine ⟨_, _, rfl, e, c', xs ++ [x], _, rfl, by rw [List.length_append, hl]; rfl, fun y hy => ?_⟩
      rcases List.mem_append.mp hy with hy | hy
      · exact hx y hy
      · rw [List.mem_singleton.mp hy]; exact hx'
  refine ⟨xs, ?_, by rw [hl, rgD_len], hx⟩
  show (h__law_row [some (.d (.list (ns.map PyData.int))), some (.d (.int at_)), none, none, none]).rs = _
  have e1 : s__law_row_0 [some (.d (.list (ns.map PyData.int))), some (.d (.int at_)), none, none, none] = .nx [some (.d (.list (ns.map PyData.int))), some (.d (.int at_)), some (.d (.int (cellF ns at_))), none, none] := by
    simp [s__law_row_0, b_ok, b_err, b_bad, o_ok, o_err, n_ok, sSeq_K, seqK_nx, seqK_rt, seqK_er, v_d, v_Rd, v_Ro, v_Fo, v_Fi, v_Fb, v_Fs, v_Ft, v_Fn, f_o, f_d, a_i, a_b, a_l, a_sl, a_st, l_i, l_b, l_s, l_t, l_n, t_b, t_l, t_t, p_add, p_addT, p_addL, p_sub, p_mul, p_mod, p_div, p_pow, p_lt, p_le, p_gt, p_ge, p_min, p_max, p_lenL, p_lenT, p_tupL, p_tupT, p_lstL, p_lstT, p_ixL, p_ixT, p_slL, p_slT, p_eq, p_ne, p_isN, p_isNotN, r_1, r_2, c_k, c_j, i_non, i_bl, i_int, i_str, i_lst, i_tup, gTup_b, gLst_b, mkT_ok, mkL_ok, sap, sit, itK_ok, sex, exK_ok, sre, reK_ok, p_srtL, p_srtT, p_sumL, p_sumT, rs_rt, rs_nx, rs_er, p_inT, p_ninT, p_inL, shp_i, shp_b, shp_n, shp_T, shp_L, eqv_T, eqv_I, sIf, sRet, sSet, sSetO, sDrop, sNext, sRaise, sFrz, gTest, gBin, gUn, gC, gNl, gB, gAnd, gOr, gNot, gIf, gTru, aNil, aCons, gCall, gChain, gIsi, gSeq, gRg1, gRg2, sFor, tgN, gYes, sAsg, tg2, tg3, sPar, gSl, oSo, oNo, gEnum, gZip, gZipM, gR1, gR2, gLRg, gTRg, gLCnt, gLIdx, cell_ok ns at_ h0]
  unfold h__law_row
  rw [q_nx e1, q_nx (a := s__law_row_1) (ρ' := [some (.d (.list (ns.map PyData.int))), some (.d (.int at_)), some (.d (.int (cellF ns at_))), some (.own []), none]) rfl, q_nx (a := s__law_row_2) (ρ' := [some (.d (.list (ns.map PyData.int))), some (.d (.int at_)), some (.d (.int c)), some (.own (xs.map PyData.int)), t]) e]
  rfl
end SBL

namespace SBL
open PySem SB
/-! ### the list -/
theorem rowAt {r : List Int} (h : RowOk r) (k : Int) : 0 ≤ r.getD k.toNat 0 ∧ r.getD k.toNat 0 < 1000 := by
  rw [List.getD_eq_getElem?_getD]
  cases e : r[k.toNat]? with
  | none => exact ⟨by decide, by decide⟩
  | some x => exact h.2 x (List.mem_of_getElem? e)
theorem rowIx {r : List Int} (h : RowOk r) {k : Int} (h0 : 0 ≤ k) (h1 : k < 60) : L2.atI (r.map PyData.int) k = some (.int (r.getD k.toNat 0)) := atI_ints r k h0 (by rw [h.1]; exact h1)
theorem posAt {xs : List Int} (h : PosL xs) {i : Nat} (hi : i < xs.length) : 1 ≤ xs.getD i 0 := by
  rw [List.getD_eq_getElem?_getD, List.getElem?_eq_getElem hi]
  exact h _ (List.getElem_mem hi)
structure LOk (xs : List Int) (total : Int) (most : Nat) : Prop where
  srt : xs.Pairwise (· ≤ ·)
  pos : PosL xs
  sum : xs.sum = total
  one : 1 ≤ xs.length
  len : xs.length ≤ most
theorem list_ok {r : List Int} (hr : RowOk r) {at_ total most : Int} (h0 : 0 ≤ at_) (ht : 1 ≤ total) (hm : 1 ≤ most) (hm2 : most ≤ 1000) :
    ∃ xs : List Int, m__law_list [.list (r.map PyData.int), .int at_, .int total, .int most] = .ok (.tuple (xs.map PyData.int)) ∧ LOk xs total most.toNat := by
  have hb : ∀ (i : Nat) (xs : List Int) (a b : Option Cl), PosL xs → xs.sum = total → 1 ≤ xs.length → xs.length ≤ 1 + i → i < 1000 → ∃ (ys : List Int) (a' b' : Option Cl), PosL ys ∧ ys.sum = total ∧ 1 ≤ ys.length ∧ ys.length ≤ 1 + (i + 1) ∧
      b__law_list_0 [some (.d (.list (r.map PyData.int))), some (.d (.int at_)), some (.d (.int total)), some (.d (.int most)), some (.own (xs.map PyData.int)), some (.d (.int i)), a, b] = .nx [some (.d (.list (r.map PyData.int))), some (.d (.int at_)), some (.d (.int total)), some (.d (.int most)), some (.own (ys.map PyData.int)), some (.d (.int i)), a', b'] := by
    intro i xs a b hp hs h1 hl hi
    have m1 : mulOk 2 (i : Int) := .inl (by decide)
    have k1 : 0 ≤ (at_ + 1 + 2 * i) % 60 := by omega
    have k2 : (at_ + 1 + 2 * i) % 60 < 60 := by omega
    have k3 : 0 ≤ (at_ + 2 + 2 * i) % 60 := by omega
    have k4 : (at_ + 2 + 2 * i) % 60 < 60 := by omega
    have e1 := rowIx hr k1 k2
    have e2 := rowIx hr k3 k4
    generalize hu : r.getD ((at_ + 1 + 2 * i) % 60).toNat 0 = u at e1
    generalize hv : r.getD ((at_ + 2 + 2 * i) % 60).toNat 0 = v at e2
    have bu := rowAt hr ((at_ + 1 + 2 * i) % 60)
    have bv := rowAt hr ((at_ + 2 + 2 * i) % 60)
    rw [hu] at bu
    rw [hv] at bv
    have hpos : (0 : Int) < xs.length := by omega
    have hposN : 0 < xs.length := by omega
    have s0 : 0 ≤ u % xs.length := Int.emod_nonneg _ (by omega)
    have s1 : u % xs.length < xs.length := Int.emod_lt_of_pos _ hpos
    generalize hsp : u % (xs.length : Int) = sp at s0 s1
    have e3 := atI_ints xs sp s0 s1
    have pA := posAt hp (i := sp.toNat) (by omega)
    generalize hw : xs.getD sp.toNat 0 = w at e3 pA
    by_cases hw1 : 1 < w
    · have d0 : (0 : Int) < w - 1 := by omega
      have g0 : 0 ≤ v % (w - 1) := Int.emod_nonneg _ (by omega)
      have g1 : v % (w - 1) < w - 1 := Int.emod_lt_of_pos _ d0
      have ix : L2.ixN (xs.length + 1) sp = some sp.toNat := by
        unfold L2.ixN
        rw [if_pos s0, if_pos (by omega)]
      have at2 : L2.atI ((xs ++ [1 + v % (w - 1)]).map PyData.int) sp = some (.int w) := by
        rw [atI_ints _ sp s0 (by simp; omega), getD_app (by omega), hw]
      simp only [List.map_append, List.map_cons, List.map_nil] at at2
      refine ⟨(xs ++ [1 + v % (w - 1)]).set sp.toNat (w - (1 + v % (w - 1))), some (.d (.int sp)), some (.d (.int (1 + v % (w - 1)))), fun x hx => ?_, ?_, by simp, by simp; omega, ?_⟩
      · rcases mem_set hx with hx | hx
        · rcases List.mem_append.mp hx with hx | hx
          · exact hp x hx
          · rw [List.mem_singleton.mp hx]; omega
        · omega
      · rw [sum_set _ _ _ (by simp; omega), getD_app (by omega), hw, List.sum_append, hs]
        simp
        omega
      · rw [← set_ints]
        simp [b__law_list_0, b_ok, b_err, b_bad, o_ok, o_err, n_ok, sSeq_K, seqK_nx, seqK_rt, seqK_er, v_d, v_Rd, v_Ro, v_Fo, v_Fi, v_Fb, v_Fs, v_Ft, v_Fn, f_o, f_d, a_i, a_b, a_l, a_sl, a_st, l_i, l_b, l_s, l_t, l_n, t_b, t_l, t_t, p_add, p_addT, p_addL, p_sub, p_mul, p_mod, p_div, p_pow, p_lt, p_le, p_gt, p_ge, p_min, p_max, p_lenL, p_lenT, p_tupL, p_tupT, p_lstL, p_lstT, p_ixL, p_ixT, p_slL, p_slT, p_eq, p_ne, p_isN, p_isNotN, r_1, r_2, c_k, c_j, i_non, i_bl, i_int, i_str, i_lst, i_tup, gTup_b, gLst_b, mkT_ok, mkL_ok, sap, sit, itK_ok, sex, exK_ok, sre, reK_ok, p_srtL, p_srtT, p_sumL, p_sumT, rs_rt, rs_nx, rs_er, p_inT, p_ninT, p_inL, shp_i, shp_b, shp_n, shp_T, shp_L, eqv_T, eqv_I, sIf, sRet, sSet, sSetO, sDrop, sNext, sRaise, sFrz, gTest, gBin, gUn, gC, gNl, gB, gAnd, gOr, gNot, gIf, gTru, aNil, aCons, gCall, gChain, gIsi, gSeq, gRg1, gRg2, sFor, tgN, gYes, sAsg, tg2, tg3, sPar, gSl, oSo, oNo, gEnum, gZip, gZipM, gR1, gR2, gLRg, gTRg, gLCnt, gLIdx, m1, e1, hpos, hposN, hsp, e3, hw1, e2, d0, show xs.length + 1 ≤ 100000 by omega, at2, ix]
    · exact ⟨xs, some (.d (.int sp)), b, hp, hs, h1, by omega, by simp [b__law_list_0, b_ok, b_err, b_bad, o_ok, o_err, n_ok, sSeq_K, seqK_nx, seqK_rt, seqK_er, v_d, v_Rd, v_Ro, v_Fo, v_Fi, v_Fb, v_Fs, v_Ft, v_Fn, f_o, f_d, a_i, a_b, a_l, a_sl, a_st, l_i, l_b, l_s, l_t, l_n, t_b, t_l, t_t, p_add, p_addT, p_addL, p_sub, p_mul, p_mod, p_div, p_pow, p_lt, p_le, p_gt, p_ge, p_min, p_max, p_lenL, p_lenT, p_tupL, p_tupT, p_lstL, p_lstT, p_ixL, p_ixT, p_slL, p_slT, p_eq, p_ne, p_isN, p_isNotN, r_1, r_2, c_k, c_j, i_non, i_bl, i_int, i_str, i_lst, i_tup, gTup_b, gLst_b, mkT_ok, mkL_ok, sap, sit, itK_ok, sex, exK_ok, sre, reK_ok, p_srtL, p_srtT, p_sumL, p_sumT, rs_rt, rs_nx, rs_er, p_inT, p_ninT, p_inL, shp_i, shp_b, shp_n, shp_T, shp_L, eqv_T, eqv_I, sIf, sRet, sSet, sSetO, sDrop, sNext, sRaise, sFrz, gTest, gBin, gUn, gC, gNl, gB, gAnd, gOr, gNot, gIf, gTru, aNil, aCons, gCall, gChain, gIsi, gSeq, gRg1, gRg2, sFor, tgN, gYes, sAsg, tg2, tg3, sPar, gSl, oSo, oNo, gEnum, gZip, gZipM, gR1, gR2, gLRg, gTRg, gLCnt, gLIdx, m1, e1, hpos, hposN, hsp, e3, hw1]⟩
  have j0 : 0 ≤ at_ % 60 := by omega
  have j1 : at_ % 60 < 60 := by omega
  have ej := rowIx hr j0 j1
  have bj := rowAt hr (at_ % 60)
  generalize hz : r.getD (at_ % 60).toNat 0 = z at ej bj
  have z0 : 0 ≤ z % most := Int.emod_nonneg _ (by omega)
  have z1 : z % most < most := Int.emod_lt_of_pos _ (by omega)
  obtain ⟨ρ', e, xs, t, a, b, rfl, hp, hs, h1, hl⟩ := forLoop_inv (set := tgN 5) (body := b__law_list_0) (fun i ρ => ∃ (xs : List Int) (t a b : Option Cl), ρ = [some (.d (.list (r.map PyData.int))), some (.d (.int at_)), some (.d (.int total)), some (.d (.int most)), some (.own (xs.map PyData.int)), t, a, b] ∧ PosL xs ∧ xs.sum = total ∧ 1 ≤ xs.length ∧ xs.length ≤ 1 + i)
    (rgD 0 (z % most).toNat) 0 [some (.d (.list (r.map PyData.int))), some (.d (.int at_)), some (.d (.int total)), some (.d (.int most)), some (.own [.int total]), none, none, none] ⟨[total], none, none, none, rfl, fun x hx => by rw [List.mem_singleton.mp hx]; exact ht, by simp, by simp, by simp⟩ fun i d ρ hd hp => by
      obtain ⟨xs, t, a, b, rfl, hp, hs, h1, hl⟩ := hp
      obtain ⟨rfl, hi⟩ := rgD_get2 hd
      obtain ⟨ys, a', b', q1, q2, q3, q4, e⟩ := hb i xs a b hp hs h1 (by omega) (by omega)
      have hi0 : (0 : Int) + (i : Nat) = (i : Int) := by omega
      rw [hi0]
      exact ⟨_, _, rfl, e, ys, _, a', b', rfl, q1, q2, q3, by omega⟩
  rw [rgD_len] at hl
  refine ⟨sortI xs, ?_, sortI_sorted xs, fun x hx => hp x ((sortI_perm xs).mem_iff.mp hx), by rw [perm_sum (sortI_perm xs)]; exact hs, by rw [sortI_len]; exact h1, by rw [sortI_len]; omega⟩
  show (h__law_list [some (.d (.list (r.map PyData.int))), some (.d (.int at_)), some (.d (.int total)), some (.d (.int most)), none, none, none, none]).rs = _
  unfold h__law_list
  rw [q_nx (a := s__law_list_0) (ρ' := [some (.d (.list (r.map PyData.int))), some (.d (.int at_)), some (.d (.int total)), some (.d (.int most)), some (.own [.int total]), none, none, none]) rfl]
  have e2 : s__law_list_1 [some (.d (.list (r.map PyData.int))), some (.d (.int at_)), some (.d (.int total)), some (.d (.int most)), some (.own [.int total]), none, none, none] = .nx [some (.d (.list (r.map PyData.int))), some (.d (.int at_)), some (.d (.int total)), some (.d (.int most)), some (.own (xs.map PyData.int)), t, a, b] := by
    unfold s__law_list_1 sFor
    have : gRg1 (gBin pMod (gBin pIx (gVar 0) (gBin pMod (gVar 1) (gC (.int 60)))) (gVar 3)) [some (.d (.list (r.map PyData.int))), some (.d (.int at_)), some (.d (.int total)), some (.d (.int most)), some (.own [.int total]), none, none, none] = .ok (rgD 0 (z % most).toNat) := by
      have y1 : -1000000000 ≤ z % most := by omega
      have y2 : z % most ≤ 1000000000 := by omega
      simp [b_ok, b_err, b_bad, o_ok, o_err, n_ok, sSeq_K, seqK_nx, seqK_rt, seqK_er, v_d, v_Rd, v_Ro, v_Fo, v_Fi, v_Fb, v_Fs, v_Ft, v_Fn, f_o, f_d, a_i, a_b, a_l, a_sl, a_st, l_i, l_b, l_s, l_t, l_n, t_b, t_l, t_t, p_add, p_addT, p_addL, p_sub, p_mul, p_mod, p_div, p_pow, p_lt, p_le, p_gt, p_ge, p_min, p_max, p_lenL, p_lenT, p_tupL, p_tupT, p_lstL, p_lstT, p_ixL, p_ixT, p_slL, p_slT, p_eq, p_ne, p_isN, p_isNotN, r_1, r_2, c_k, c_j, i_non, i_bl, i_int, i_str, i_lst, i_tup, gTup_b, gLst_b, mkT_ok, mkL_ok, sap, sit, itK_ok, sex, exK_ok, sre, reK_ok, p_srtL, p_srtT, p_sumL, p_sumT, rs_rt, rs_nx, rs_er, p_inT, p_ninT, p_inL, shp_i, shp_b, shp_n, shp_T, shp_L, eqv_T, eqv_I, sIf, sRet, sSet, sSetO, sDrop, sNext, sRaise, sFrz, gTest, gBin, gUn, gC, gNl, gB, gAnd, gOr, gNot, gIf, gTru, aNil, aCons, gCall, gChain, gIsi, gSeq, gRg1, gRg2, sFor, tgN, gYes, sAsg, tg2, tg3, sPar, gSl, oSo, oNo, gEnum, gZip, gZipM, gR1, gR2, gLRg, gTRg, gLCnt, gLIdx, ej, show (0 : Int) < most by omega, y1, y2]
    rw [this]
    exact e
  rw [q_nx e2]
  simp [s__law_list_2, b_ok, b_err, b_bad, o_ok, o_err, n_ok, sSeq_K, seqK_nx, seqK_rt, seqK_er, v_d, v_Rd, v_Ro, v_Fo, v_Fi, v_Fb, v_Fs, v_Ft, v_Fn, f_o, f_d, a_i, a_b, a_l, a_sl, a_st, l_i, l_b, l_s, l_t, l_n, t_b, t_l, t_t, p_add, p_addT, p_addL, p_sub, p_mul, p_mod, p_div, p_pow, p_lt, p_le, p_gt, p_ge, p_min, p_max, p_lenL, p_lenT, p_tupL, p_tupT, p_lstL, p_lstT, p_ixL, p_ixT, p_slL, p_slT, p_eq, p_ne, p_isN, p_isNotN, r_1, r_2, c_k, c_j, i_non, i_bl, i_int, i_str, i_lst, i_tup, gTup_b, gLst_b, mkT_ok, mkL_ok, sap, sit, itK_ok, sex, exK_ok, sre, reK_ok, p_srtL, p_srtT, p_sumL, p_sumT, rs_rt, rs_nx, rs_er, p_inT, p_ninT, p_inL, shp_i, shp_b, shp_n, shp_T, shp_L, eqv_T, eqv_I, sIf, sRet, sSet, sSetO, sDrop, sNext, sRaise, sFrz, gTest, gBin, gUn, gC, gNl, gB, gAnd, gOr, gNot, gIf, gTru, aNil, aCons, gCall, gChain, gIsi, gSeq, gRg1, gRg2, sFor, tgN, gYes, sAsg, tg2, tg3, sPar, gSl, oSo, oNo, gEnum, gZip, gZipM, gR1, gR2, gLRg, gTRg, gLCnt, gLIdx, pSorted, asInts_ints]
end SBL

namespace SBL
open PySem SB
/-! ### what rises -/
def nd : PyData → Bool
  | .dict _ => false
  | _ => true
def isW : PyData → Int → Int → Bool
  | .int i, lo, hi => decide (lo ≤ i) && decide (i ≤ hi)
  | _, _, _ => false
theorem within_ok {x : PyData} (hx : nd x = true) (lo hi : Int) : m_is_within [x, .int lo, .int hi] = .ok (.bool (isW x lo hi)) := by
  show (h_is_within [some (.d x), some (.d (.int lo)), some (.d (.int hi))]).rs = _
  cases x with
  | int i => by_cases h : lo ≤ i <;> simp [h_is_within, s_is_within_0, b_ok, b_err, b_bad, o_ok, o_err, n_ok, sSeq_K, seqK_nx, seqK_rt, seqK_er, v_d, v_Rd, v_Ro, v_Fo, v_Fi, v_Fb, v_Fs, v_Ft, v_Fn, f_o, f_d, a_i, a_b, a_l, a_sl, a_st, l_i, l_b, l_s, l_t, l_n, t_b, t_l, t_t, p_add, p_addT, p_addL, p_sub, p_mul, p_mod, p_div, p_pow, p_lt, p_le, p_gt, p_ge, p_min, p_max, p_lenL, p_lenT, p_tupL, p_tupT, p_lstL, p_lstT, p_ixL, p_ixT, p_slL, p_slT, p_eq, p_ne, p_isN, p_isNotN, r_1, r_2, c_k, c_j, i_non, i_bl, i_int, i_str, i_lst, i_tup, gTup_b, gLst_b, mkT_ok, mkL_ok, sap, sit, itK_ok, sex, exK_ok, sre, reK_ok, p_srtL, p_srtT, p_sumL, p_sumT, rs_rt, rs_nx, rs_er, p_inT, p_ninT, p_inL, shp_i, shp_b, shp_n, shp_T, shp_L, eqv_T, eqv_I, sIf, sRet, sSet, sSetO, sDrop, sNext, sRaise, sFrz, gTest, gBin, gUn, gC, gNl, gB, gAnd, gOr, gNot, gIf, gTru, aNil, aCons, gCall, gChain, gIsi, gSeq, gRg1, gRg2, sFor, tgN, gYes, sAsg, tg2, tg3, sPar, gSl, oSo, oNo, gEnum, gZip, gZipM, gR1, gR2, gLRg, gTRg, gLCnt, gLIdx, isW, h]
  | dict kv => cases hx
  | _ => simp [h_is_within, s_is_within_0, b_ok, b_err, b_bad, o_ok, o_err, n_ok, sSeq_K, seqK_nx, seqK_rt, seqK_er, v_d, v_Rd, v_Ro, v_Fo, v_Fi, v_Fb, v_Fs, v_Ft, v_Fn, f_o, f_d, a_i, a_b, a_l, a_sl, a_st, l_i, l_b, l_s, l_t, l_n, t_b, t_l, t_t, p_add, p_addT, p_addL, p_sub, p_mul, p_mod, p_div, p_pow, p_lt, p_le, p_gt, p_ge, p_min, p_max, p_lenL, p_lenT, p_tupL, p_tupT, p_lstL, p_lstT, p_ixL, p_ixT, p_slL, p_slT, p_eq, p_ne, p_isN, p_isNotN, r_1, r_2, c_k, c_j, i_non, i_bl, i_int, i_str, i_lst, i_tup, gTup_b, gLst_b, mkT_ok, mkL_ok, sap, sit, itK_ok, sex, exK_ok, sre, reK_ok, p_srtL, p_srtT, p_sumL, p_sumT, rs_rt, rs_nx, rs_er, p_inT, p_ninT, p_inL, shp_i, shp_b, shp_n, shp_T, shp_L, eqv_T, eqv_I, sIf, sRet, sSet, sSetO, sDrop, sNext, sRaise, sFrz, gTest, gBin, gUn, gC, gNl, gB, gAnd, gOr, gNot, gIf, gTru, aNil, aCons, gCall, gChain, gIsi, gSeq, gRg1, gRg2, sFor, tgN, gYes, sAsg, tg2, tg3, sPar, gSl, oSo, oNo, gEnum, gZip, gZipM, gR1, gR2, gLRg, gTRg, gLCnt, gLIdx, isW]
def srt : List Int → Bool
  | a :: b :: r => decide (a ≤ b) && srt (b :: r)
  | _ => true
theorem srt_iff : ∀ xs : List Int, srt xs = true ↔ xs.Pairwise (· ≤ ·)
  | [] => by simp [srt]
  | [a] => by simp [srt]
  | a :: b :: r => by
    rw [srt, Bool.and_eq_true, srt_iff (b :: r), decide_eq_true_eq, List.pairwise_cons (l := b :: r)]
    constructor
    · rintro ⟨h1, h2⟩
      refine ⟨fun x hx => ?_, h2⟩
      rcases List.mem_cons.mp hx with rfl | hx
      · exact h1
      · exact Int.le_trans h1 ((List.pairwise_cons.mp h2).1 x hx)
    · rintro ⟨h1, h2⟩
      exact ⟨h1 b List.mem_cons_self, h2⟩
def gtP : PyData → Bool
  | .tuple [.int a, .int b] => decide (b < a)
  | _ => false
theorem zip_srt : ∀ xs : List Int, ((zipD (xs.map PyData.int) (xs.map PyData.int).tail).filter gtP).isEmpty = srt xs
  | [] => rfl
  | [a] => rfl
  | a :: b :: r => by
    have ih := zip_srt (b :: r)
    have e : zipD ((a :: b :: r).map PyData.int) ((a :: b :: r).map PyData.int).tail = .tuple [.int a, .int b] :: zipD ((b :: r).map PyData.int) ((b :: r).map PyData.int).tail := rfl
    rw [e, srt]
    by_cases h : b < a
    · rw [List.filter_cons_of_pos (by simp [gtP, h])]
      have : ¬ a ≤ b := by omega
      simp [this]
    · rw [List.filter_cons_of_neg (by simp [gtP, h]), ih]
      have : a ≤ b := by omega
      simp [this]
theorem zipD_mem {xs ys : List Int} {d : PyData} (h : d ∈ zipD (xs.map PyData.int) (ys.map PyData.int)) : ∃ a b, d = .tuple [.int a, .int b] := by
  obtain ⟨i, hi, e⟩ := List.mem_iff_getElem.mp h
  obtain ⟨x, y, hx, hy, rfl⟩ := zipD_get (i := i) (d := d) (by rw [List.getElem?_eq_getElem hi, e])
  rw [List.getElem?_map] at hx hy
  cases e1 : xs[i]? with
  | none => rw [e1] at hx; cases hx
  | some a =>
    cases e2 : ys[i]? with
    | none => rw [e2] at hy; cases hy
    | some b =>
      rw [e1] at hx; rw [e2] at hy
      cases hx; cases hy
      exact ⟨a, b, rfl⟩
theorem cut_tail {α : Type} (ds : List α) : cutD ds (some 1) none = ds.tail := by
  unfold cutD
  have e : HT.sIx ds.length 0 (some 1) = min 1 ds.length := HT.sIx_nat ds.length 0 1
  rw [e, HT.sIx_none]
  cases ds with
  | nil => rfl
  | cons a r =>
    rw [List.length_cons, Nat.min_eq_left (by omega)]
    simp
def isR (ds : List PyData) (many most : Int) : Bool := decide (1 ≤ ds.length ∧ (ds.length : Int) ≤ many) && (ds.all (isW · 1 most) && (match asInts ds with
  | some xs => srt xs
  | none => false))
theorem all_isW : ∀ {ds : List PyData} {most : Int}, ds.all (isW · 1 most) = true → ∃ xs : List Int, ds = xs.map PyData.int ∧ ∀ x ∈ xs, 1 ≤ x ∧ x ≤ most
  | [], _, _ => ⟨[], rfl, fun x h => nomatch h⟩
  | d :: ds, most, h => by
    rw [List.all_cons, Bool.and_eq_true] at h
    obtain ⟨xs, rfl, hx⟩ := all_isW h.2
    cases d with
    | int i =>
      have hi := h.1
      simp [isW] at hi
      refine ⟨i :: xs, rfl, fun x hx' => ?_⟩
      rcases List.mem_cons.mp hx' with rfl | hx'
      · exact hi
      · exact hx x hx'
    | _ => exact absurd h.1 (by simp [isW])
theorem isW_ints {xs : List Int} {most : Int} : (xs.map PyData.int).all (isW · 1 most) = true ↔ ∀ x ∈ xs, 1 ≤ x ∧ x ≤ most := by
  rw [List.all_map, List.all_eq_true]
  simp [isW]
theorem rising_tup {ds : List PyData} (hn : ds.all nd = true) (hl : ds.length ≤ 100000) (many most : Int) : m_is_rising [.tuple ds, .int many, .int most] = .ok (.bool (isR ds many most)) := by
  show (h_is_rising [some (.d (.tuple ds)), some (.d (.int many)), some (.d (.int most)), none, none]).rs = _
  unfold h_is_rising isR
  by_cases h1 : 1 ≤ ds.length
  · by_cases h2 : (ds.length : Int) ≤ many
    · have e0 : s_is_rising_0 [some (.d (.tuple ds)), some (.d (.int many)), some (.d (.int most)), none, none] = .nx [some (.d (.tuple ds)), some (.d (.int many)), some (.d (.int most)), none, none] := by
        have h1' : (1 : Int) ≤ ds.length := by omega
        simp [s_is_rising_0, b_ok, b_err, b_bad, o_ok, o_err, n_ok, sSeq_K, seqK_nx, seqK_rt, seqK_er, v_d, v_Rd, v_Ro, v_Fo, v_Fi, v_Fb, v_Fs, v_Ft, v_Fn, f_o, f_d, a_i, a_b, a_l, a_sl, a_st, l_i, l_b, l_s, l_t, l_n, t_b, t_l, t_t, p_add, p_addT, p_addL, p_sub, p_mul, p_mod, p_div, p_pow, p_lt, p_le, p_gt, p_ge, p_min, p_max, p_lenL, p_lenT, p_tupL, p_tupT, p_lstL, p_lstT, p_ixL, p_ixT, p_slL, p_slT, p_eq, p_ne, p_isN, p_isNotN, r_1, r_2, c_k, c_j, i_non, i_bl, i_int, i_str, i_lst, i_tup, gTup_b, gLst_b, mkT_ok, mkL_ok, sap, sit, itK_ok, sex, exK_ok, sre, reK_ok, p_srtL, p_srtT, p_sumL, p_sumT, rs_rt, rs_nx, rs_er, p_inT, p_ninT, p_inL, shp_i, shp_b, shp_n, shp_T, shp_L, eqv_T, eqv_I, sIf, sRet, sSet, sSetO, sDrop, sNext, sRaise, sFrz, gTest, gBin, gUn, gC, gNl, gB, gAnd, gOr, gNot, gIf, gTru, aNil, aCons, gCall, gChain, gIsi, gSeq, gRg1, gRg2, sFor, tgN, gYes, sAsg, tg2, tg3, sPar, gSl, oSo, oNo, gEnum, gZip, gZipM, gR1, gR2, gLRg, gTRg, gLCnt, gLIdx, h2, h1']
      rw [q_nx e0]
      have e1 : gLc [3] (gSeq (gVar 0)) (tgN 3) (gNot (gTru (gCall m_is_within (aCons (gVar 3) (aCons (gC (.int 1)) (aCons (gVar 2) aNil)))))) (gVar 3) [some (.d (.tuple ds)), some (.d (.int many)), some (.d (.int most)), none, none] = .ok (.list ((ds.filter fun d => !isW d 1 most).map id)) := by
        refine gLc_eq _ _ rfl hl fun d hd => ⟨_, rfl, ?_, fun _ => rfl⟩
        have hd' := within_ok (List.all_eq_true.mp hn d hd) 1 most
        simp [b_ok, b_err, b_bad, o_ok, o_err, n_ok, sSeq_K, seqK_nx, seqK_rt, seqK_er, v_d, v_Rd, v_Ro, v_Fo, v_Fi, v_Fb, v_Fs, v_Ft, v_Fn, f_o, f_d, a_i, a_b, a_l, a_sl, a_st, l_i, l_b, l_s, l_t, l_n, t_b, t_l, t_t, p_add, p_addT, p_addL, p_sub, p_mul, p_mod, p_div, p_pow, p_lt, p_le, p_gt, p_ge, p_min, p_max, p_lenL, p_lenT, p_tupL, p_tupT, p_lstL, p_lstT, p_ixL, p_ixT, p_slL, p_slT, p_eq, p_ne, p_isN, p_isNotN, r_1, r_2, c_k, c_j, i_non, i_bl, i_int, i_str, i_lst, i_tup, gTup_b, gLst_b, mkT_ok, mkL_ok, sap, sit, itK_ok, sex, exK_ok, sre, reK_ok, p_srtL, p_srtT, p_sumL, p_sumT, rs_rt, rs_nx, rs_er, p_inT, p_ninT, p_inL, shp_i, shp_b, shp_n, shp_T, shp_L, eqv_T, eqv_I, sIf, sRet, sSet, sSetO, sDrop, sNext, sRaise, sFrz, gTest, gBin, gUn, gC, gNl, gB, gAnd, gOr, gNot, gIf, gTru, aNil, aCons, gCall, gChain, gIsi, gSeq, gRg1, gRg2, sFor, tgN, gYes, sAsg, tg2, tg3, sPar, gSl, oSo, oNo, gEnum, gZip, gZipM, gR1, gR2, gLRg, gTRg, gLCnt, gLIdx, wipeS, hd']
      by_cases h3 : ds.all (isW · 1 most) = true
      · obtain ⟨xs, rfl, hx⟩ := all_isW h3
        have e2 : ((xs.map PyData.int).filter fun d => !isW d 1 most) = [] := by
          rw [List.filter_eq_nil_iff]
          intro d hd
          rw [List.all_eq_true.mp h3 d hd]
          exact Bool.false_ne_true
        rw [e2] at e1
        have e3 : s_is_rising_1 [some (.d (.tuple (xs.map PyData.int))), some (.d (.int many)), some (.d (.int most)), none, none] = .nx [some (.d (.tuple (xs.map PyData.int))), some (.d (.int many)), some (.d (.int most)), none, none] := by
          simp [s_is_rising_1, b_ok, b_err, b_bad, o_ok, o_err, n_ok, sSeq_K, seqK_nx, seqK_rt, seqK_er, v_d, v_Rd, v_Ro, v_Fo, v_Fi, v_Fb, v_Fs, v_Ft, v_Fn, f_o, f_d, a_i, a_b, a_l, a_sl, a_st, l_i, l_b, l_s, l_t, l_n, t_b, t_l, t_t, p_add, p_addT, p_addL, p_sub, p_mul, p_mod, p_div, p_pow, p_lt, p_le, p_gt, p_ge, p_min, p_max, p_lenL, p_lenT, p_tupL, p_tupT, p_lstL, p_lstT, p_ixL, p_ixT, p_slL, p_slT, p_eq, p_ne, p_isN, p_isNotN, r_1, r_2, c_k, c_j, i_non, i_bl, i_int, i_str, i_lst, i_tup, gTup_b, gLst_b, mkT_ok, mkL_ok, sap, sit, itK_ok, sex, exK_ok, sre, reK_ok, p_srtL, p_srtT, p_sumL, p_sumT, rs_rt, rs_nx, rs_er, p_inT, p_ninT, p_inL, shp_i, shp_b, shp_n, shp_T, shp_L, eqv_T, eqv_I, sIf, sRet, sSet, sSetO, sDrop, sNext, sRaise, sFrz, gTest, gBin, gUn, gC, gNl, gB, gAnd, gOr, gNot, gIf, gTru, aNil, aCons, gCall, gChain, gIsi, gSeq, gRg1, gRg2, sFor, tgN, gYes, sAsg, tg2, tg3, sPar, gSl, oSo, oNo, gEnum, gZip, gZipM, gR1, gR2, gLRg, gTRg, gLCnt, gLIdx, e1]
        rw [q_nx e3]
        have e4 : gLc [3, 4] (gZip (gVar 0) (gSl (gVar 0) (oSo (gC (.int 1))) oNo)) (tg2 3 4) (gTest (gBin pGt (gVar 3) (gVar 4))) (gC (.int 1)) [some (.d (.tuple (xs.map PyData.int))), some (.d (.int many)), some (.d (.int most)), none, none] = .ok (.list (((zipD (xs.map PyData.int) (xs.map PyData.int).tail).filter gtP).map fun _ => .int 1)) := by
          refine gLc_eq _ _ ?_ ?_ fun d hd => ?_
          · show Rs.ok (zipD (xs.map PyData.int) (cutD (xs.map PyData.int) (some 1) none)) = _
            rw [cut_tail]
          · rw [zipD_len]; omega
          · rw [← List.map_tail] at hd
            obtain ⟨a, b, rfl⟩ := zipD_mem hd
            exact ⟨_, rfl, rfl, fun _ => rfl⟩
        have e5 := zip_srt xs
        rw [List.length_map] at h1 h2
        simp [s_is_rising_2, b_ok, b_err, b_bad, o_ok, o_err, n_ok, sSeq_K, seqK_nx, seqK_rt, seqK_er, v_d, v_Rd, v_Ro, v_Fo, v_Fi, v_Fb, v_Fs, v_Ft, v_Fn, f_o, f_d, a_i, a_b, a_l, a_sl, a_st, l_i, l_b, l_s, l_t, l_n, t_b, t_l, t_t, p_add, p_addT, p_addL, p_sub, p_mul, p_mod, p_div, p_pow, p_lt, p_le, p_gt, p_ge, p_min, p_max, p_lenL, p_lenT, p_tupL, p_tupT, p_lstL, p_lstT, p_ixL, p_ixT, p_slL, p_slT, p_eq, p_ne, p_isN, p_isNotN, r_1, r_2, c_k, c_j, i_non, i_bl, i_int, i_str, i_lst, i_tup, gTup_b, gLst_b, mkT_ok, mkL_ok, sap, sit, itK_ok, sex, exK_ok, sre, reK_ok, p_srtL, p_srtT, p_sumL, p_sumT, rs_rt, rs_nx, rs_er, p_inT, p_ninT, p_inL, shp_i, shp_b, shp_n, shp_T, shp_L, eqv_T, eqv_I, sIf, sRet, sSet, sSetO, sDrop, sNext, sRaise, sFrz, gTest, gBin, gUn, gC, gNl, gB, gAnd, gOr, gNot, gIf, gTru, aNil, aCons, gCall, gChain, gIsi, gSeq, gRg1, gRg2, sFor, tgN, gYes, sAsg, tg2, tg3, sPar, gSl, oSo, oNo, gEnum, gZip, gZipM, gR1, gR2, gLRg, gTRg, gLCnt, gLIdx, e4, asInts_ints, h1, h2, h3, e5, isW_ints.mp h3]
      · obtain ⟨d, hd, hw⟩ : ∃ d ∈ ds, isW d 1 most = false := by
          rw [List.all_eq_true] at h3
          simpa using h3
        have ne : ((ds.filter fun d => !isW d 1 most).map id).isEmpty = false := by
          rw [List.map_id, List.isEmpty_eq_false_iff_exists_mem]
          exact ⟨d, List.mem_filter.mpr ⟨hd, by rw [hw]; rfl⟩⟩
        have e3 : s_is_rising_1 [some (.d (.tuple ds)), some (.d (.int many)), some (.d (.int most)), none, none] = .rt (.bool false) := by
          simp only [s_is_rising_1, b_ok, b_err, b_bad, o_ok, o_err, n_ok, sSeq_K, seqK_nx, seqK_rt, seqK_er, v_d, v_Rd, v_Ro, v_Fo, v_Fi, v_Fb, v_Fs, v_Ft, v_Fn, f_o, f_d, a_i, a_b, a_l, a_sl, a_st, l_i, l_b, l_s, l_t, l_n, t_b, t_l, t_t, p_add, p_addT, p_addL, p_sub, p_mul, p_mod, p_div, p_pow, p_lt, p_le, p_gt, p_ge, p_min, p_max, p_lenL, p_lenT, p_tupL, p_tupT, p_lstL, p_lstT, p_ixL, p_ixT, p_slL, p_slT, p_eq, p_ne, p_isN, p_isNotN, r_1, r_2, c_k, c_j, i_non, i_bl, i_int, i_str, i_lst, i_tup, gTup_b, gLst_b, mkT_ok, mkL_ok, sap, sit, itK_ok, sex, exK_ok, sre, reK_ok, p_srtL, p_srtT, p_sumL, p_sumT, rs_rt, rs_nx, rs_er, p_inT, p_ninT, p_inL, shp_i, shp_b, shp_n, shp_T, shp_L, eqv_T, eqv_I, sIf, sRet, sSet, sSetO, sDrop, sNext, sRaise, sFrz, gTest, gBin, gUn, gC, gNl, gB, gAnd, gOr, gNot, gIf, gTru, aNil, aCons, gCall, gChain, gIsi, gSeq, gRg1, gRg2, sFor, tgN, gYes, sAsg, tg2, tg3, sPar, gSl, oSo, oNo, gEnum, gZip, gZipM, gR1, gR2, gLRg, gTRg, gLCnt, gLIdx, e1, ne]
          rfl
        rw [q_rt e3]
        simp only [Bool.not_eq_true] at h3
        simp [h3, b_ok, b_err, b_bad, o_ok, o_err, n_ok, sSeq_K, seqK_nx, seqK_rt, seqK_er, v_d, v_Rd, v_Ro, v_Fo, v_Fi, v_Fb, v_Fs, v_Ft, v_Fn, f_o, f_d, a_i, a_b, a_l, a_sl, a_st, l_i, l_b, l_s, l_t, l_n, t_b, t_l, t_t, p_add, p_addT, p_addL, p_sub, p_mul, p_mod, p_div, p_pow, p_lt, p_le, p_gt, p_ge, p_min, p_max, p_lenL, p_lenT, p_tupL, p_tupT, p_lstL, p_lstT, p_ixL, p_ixT, p_slL, p_slT, p_eq, p_ne, p_isN, p_isNotN, r_1, r_2, c_k, c_j, i_non, i_bl, i_int, i_str, i_lst, i_tup, gTup_b, gLst_b, mkT_ok, mkL_ok, sap, sit, itK_ok, sex, exK_ok, sre, reK_ok, p_srtL, p_srtT, p_sumL, p_sumT, rs_rt, rs_nx, rs_er, p_inT, p_ninT, p_inL, shp_i, shp_b, shp_n, shp_T, shp_L, eqv_T, eqv_I, sIf, sRet, sSet, sSetO, sDrop, sNext, sRaise, sFrz, gTest, gBin, gUn, gC, gNl, gB, gAnd, gOr, gNot, gIf, gTru, aNil, aCons, gCall, gChain, gIsi, gSeq, gRg1, gRg2, sFor, tgN, gYes, sAsg, tg2, tg3, sPar, gSl, oSo, oNo, gEnum, gZip, gZipM, gR1, gR2, gLRg, gTRg, gLCnt, gLIdx]
    · have e0 : s_is_rising_0 [some (.d (.tuple ds)), some (.d (.int many)), some (.d (.int most)), none, none] = .rt (.bool false) := by
        simp [s_is_rising_0, b_ok, b_err, b_bad, o_ok, o_err, n_ok, sSeq_K, seqK_nx, seqK_rt, seqK_er, v_d, v_Rd, v_Ro, v_Fo, v_Fi, v_Fb, v_Fs, v_Ft, v_Fn, f_o, f_d, a_i, a_b, a_l, a_sl, a_st, l_i, l_b, l_s, l_t, l_n, t_b, t_l, t_t, p_add, p_addT, p_addL, p_sub, p_mul, p_mod, p_div, p_pow, p_lt, p_le, p_gt, p_ge, p_min, p_max, p_lenL, p_lenT, p_tupL, p_tupT, p_lstL, p_lstT, p_ixL, p_ixT, p_slL, p_slT, p_eq, p_ne, p_isN, p_isNotN, r_1, r_2, c_k, c_j, i_non, i_bl, i_int, i_str, i_lst, i_tup, gTup_b, gLst_b, mkT_ok, mkL_ok, sap, sit, itK_ok, sex, exK_ok, sre, reK_ok, p_srtL, p_srtT, p_sumL, p_sumT, rs_rt, rs_nx, rs_er, p_inT, p_ninT, p_inL, shp_i, shp_b, shp_n, shp_T, shp_L, eqv_T, eqv_I, sIf, sRet, sSet, sSetO, sDrop, sNext, sRaise, sFrz, gTest, gBin, gUn, gC, gNl, gB, gAnd, gOr, gNot, gIf, gTru, aNil, aCons, gCall, gChain, gIsi, gSeq, gRg1, gRg2, sFor, tgN, gYes, sAsg, tg2, tg3, sPar, gSl, oSo, oNo, gEnum, gZip, gZipM, gR1, gR2, gLRg, gTRg, gLCnt, gLIdx, h2]
      rw [q_rt e0]
      simp [h2, b_ok, b_err, b_bad, o_ok, o_err, n_ok, sSeq_K, seqK_nx, seqK_rt, seqK_er, v_d, v_Rd, v_Ro, v_Fo, v_Fi, v_Fb, v_Fs, v_Ft, v_Fn, f_o, f_d, a_i, a_b, a_l, a_sl, a_st, l_i, l_b, l_s, l_t, l_n, t_b, t_l, t_t, p_add, p_addT, p_addL, p_sub, p_mul, p_mod, p_div, p_pow, p_lt, p_le, p_gt, p_ge, p_min, p_max, p_lenL, p_lenT, p_tupL, p_tupT, p_lstL, p_lstT, p_ixL, p_ixT, p_slL, p_slT, p_eq, p_ne, p_isN, p_isNotN, r_1, r_2, c_k, c_j, i_non, i_bl, i_int, i_str, i_lst, i_tup, gTup_b, gLst_b, mkT_ok, mkL_ok, sap, sit, itK_ok, sex, exK_ok, sre, reK_ok, p_srtL, p_srtT, p_sumL, p_sumT, rs_rt, rs_nx, rs_er, p_inT, p_ninT, p_inL, shp_i, shp_b, shp_n, shp_T, shp_L, eqv_T, eqv_I, sIf, sRet, sSet, sSetO, sDrop, sNext, sRaise, sFrz, gTest, gBin, gUn, gC, gNl, gB, gAnd, gOr, gNot, gIf, gTru, aNil, aCons, gCall, gChain, gIsi, gSeq, gRg1, gRg2, sFor, tgN, gYes, sAsg, tg2, tg3, sPar, gSl, oSo, oNo, gEnum, gZip, gZipM, gR1, gR2, gLRg, gTRg, gLCnt, gLIdx]
  · have e0 : s_is_rising_0 [some (.d (.tuple ds)), some (.d (.int many)), some (.d (.int most)), none, none] = .rt (.bool false) := by
      have : ds = [] := List.eq_nil_of_length_eq_zero (by omega)
      subst this
      simp [s_is_rising_0, b_ok, b_err, b_bad, o_ok, o_err, n_ok, sSeq_K, seqK_nx, seqK_rt, seqK_er, v_d, v_Rd, v_Ro, v_Fo, v_Fi, v_Fb, v_Fs, v_Ft, v_Fn, f_o, f_d, a_i, a_b, a_l, a_sl, a_st, l_i, l_b, l_s, l_t, l_n, t_b, t_l, t_t, p_add, p_addT, p_addL, p_sub, p_mul, p_mod, p_div, p_pow, p_lt, p_le, p_gt, p_ge, p_min, p_max, p_lenL, p_lenT, p_tupL, p_tupT, p_lstL, p_lstT, p_ixL, p_ixT, p_slL, p_slT, p_eq, p_ne, p_isN, p_isNotN, r_1, r_2, c_k, c_j, i_non, i_bl, i_int, i_str, i_lst, i_tup, gTup_b, gLst_b, mkT_ok, mkL_ok, sap, sit, itK_ok, sex, exK_ok, sre, reK_ok, p_srtL, p_srtT, p_sumL, p_sumT, rs_rt, rs_nx, rs_er, p_inT, p_ninT, p_inL, shp_i, shp_b, shp_n, shp_T, shp_L, eqv_T, eqv_I, sIf, sRet, sSet, sSetO, sDrop, sNext, sRaise, sFrz, gTest, gBin, gUn, gC, gNl, gB, gAnd, gOr, gNot, gIf, gTru, aNil, aCons, gCall, gChain, gIsi, gSeq, gRg1, gRg2, sFor, tgN, gYes, sAsg, tg2, tg3, sPar, gSl, oSo, oNo, gEnum, gZip, gZipM, gR1, gR2, gLRg, gTRg, gLCnt, gLIdx]
    rw [q_rt e0]
    simp [h1, b_ok, b_err, b_bad, o_ok, o_err, n_ok, sSeq_K, seqK_nx, seqK_rt, seqK_er, v_d, v_Rd, v_Ro, v_Fo, v_Fi, v_Fb, v_Fs, v_Ft, v_Fn, f_o, f_d, a_i, a_b, a_l, a_sl, a_st, l_i, l_b, l_s, l_t, l_n, t_b, t_l, t_t, p_add, p_addT, p_addL, p_sub, p_mul, p_mod, p_div, p_pow, p_lt, p_le, p_gt, p_ge, p_min, p_max, p_lenL, p_lenT, p_tupL, p_tupT, p_lstL, p_lstT, p_ixL, p_ixT, p_slL, p_slT, p_eq, p_ne, p_isN, p_isNotN, r_1, r_2, c_k, c_j, i_non, i_bl, i_int, i_str, i_lst, i_tup, gTup_b, gLst_b, mkT_ok, mkL_ok, sap, sit, itK_ok, sex, exK_ok, sre, reK_ok, p_srtL, p_srtT, p_sumL, p_sumT, rs_rt, rs_nx, rs_er, p_inT, p_ninT, p_inL, shp_i, shp_b, shp_n, shp_T, shp_L, eqv_T, eqv_I, sIf, sRet, sSet, sSetO, sDrop, sNext, sRaise, sFrz, gTest, gBin, gUn, gC, gNl, gB, gAnd, gOr, gNot, gIf, gTru, aNil, aCons, gCall, gChain, gIsi, gSeq, gRg1, gRg2, sFor, tgN, gYes, sAsg, tg2, tg3, sPar, gSl, oSo, oNo, gEnum, gZip, gZipM, gR1, gR2, gLRg, gTRg, gLCnt, gLIdx]
def notT : PyData → Bool
  | .tuple _ => false
  | .dict _ => false
  | _ => true
theorem rising_no {x : PyData} (hx : notT x = true) (many most : Int) : m_is_rising [x, .int many, .int most] = .ok (.bool false) := by
  show (h_is_rising [some (.d x), some (.d (.int many)), some (.d (.int most)), none, none]).rs = _
  unfold h_is_rising
  have e0 : s_is_rising_0 [some (.d x), some (.d (.int many)), some (.d (.int most)), none, none] = .rt (.bool false) := by
    cases x with
    | tuple ds => cases hx
    | dict kv => cases hx
    | _ => simp [s_is_rising_0, b_ok, b_err, b_bad, o_ok, o_err, n_ok, sSeq_K, seqK_nx, seqK_rt, seqK_er, v_d, v_Rd, v_Ro, v_Fo, v_Fi, v_Fb, v_Fs, v_Ft, v_Fn, f_o, f_d, a_i, a_b, a_l, a_sl, a_st, l_i, l_b, l_s, l_t, l_n, t_b, t_l, t_t, p_add, p_addT, p_addL, p_sub, p_mul, p_mod, p_div, p_pow, p_lt, p_le, p_gt, p_ge, p_min, p_max, p_lenL, p_lenT, p_tupL, p_tupT, p_lstL, p_lstT, p_ixL, p_ixT, p_slL, p_slT, p_eq, p_ne, p_isN, p_isNotN, r_1, r_2, c_k, c_j, i_non, i_bl, i_int, i_str, i_lst, i_tup, gTup_b, gLst_b, mkT_ok, mkL_ok, sap, sit, itK_ok, sex, exK_ok, sre, reK_ok, p_srtL, p_srtT, p_sumL, p_sumT, rs_rt, rs_nx, rs_er, p_inT, p_ninT, p_inL, shp_i, shp_b, shp_n, shp_T, shp_L, eqv_T, eqv_I, sIf, sRet, sSet, sSetO, sDrop, sNext, sRaise, sFrz, gTest, gBin, gUn, gC, gNl, gB, gAnd, gOr, gNot, gIf, gTru, aNil, aCons, gCall, gChain, gIsi, gSeq, gRg1, gRg2, sFor, tgN, gYes, sAsg, tg2, tg3, sPar, gSl, oSo, oNo, gEnum, gZip, gZipM, gR1, gR2, gLRg, gTRg, gLCnt, gLIdx]
  rw [q_rt e0]
  rfl
theorem isR_ints {xs : List Int} {many most : Int} : isR (xs.map PyData.int) many most = true ↔ (1 ≤ xs.length ∧ (xs.length : Int) ≤ many) ∧ (∀ x ∈ xs, 1 ≤ x ∧ x ≤ most) ∧ xs.Pairwise (· ≤ ·) := by
  unfold isR
  rw [asInts_ints]
  simp only [Bool.and_eq_true, decide_eq_true_eq, isW_ints, srt_iff, List.length_map]
theorem nd_ints (xs : List Int) : (xs.map PyData.int).all nd = true := by
  rw [List.all_map, List.all_eq_true]; intro x _; rfl
end SBL

namespace SBL
open PySem SB
/-! ### two lists of one whole -/
theorem spa {ρ ρ' : Sl} {i : Nat} {set : PyData → Sl → Option Sl} {fk : Sl → Rs PyData} {xs : List PyData} {k : Int} {d : PyData} (h : ρ[i]? = some (some (.own xs))) (hk : fk ρ = .ok (.int k)) (h0 : 0 ≤ k) (h1 : k < 1000000) (hx : xs[k.toNat]? = some d) (hs : set d (ρ.set i (some (.own (xs.eraseIdx k.toNat)))) = some ρ') : sPopAt i set fk ρ = .nx ρ' := by
  unfold sPopAt
  simp only [h, hk, b_ok, a_i, o_ok, if_pos (And.intro h0 h1), hx, hs]
theorem sum_erase : ∀ (l : List Int) (i : Nat), i < l.length → (l.eraseIdx i).sum = l.sum - l.getD i 0
  | [], i, h => by simp at h
  | x :: l, 0, h => by simp; omega
  | x :: l, i + 1, h => by
    have := sum_erase l i (by simpa using h)
    simp at this ⊢
    omega
theorem erase_ints (xs : List Int) (i : Nat) : (xs.map PyData.int).eraseIdx i = (xs.eraseIdx i).map PyData.int := by
  induction xs generalizing i with
  | nil => rfl
  | cons x xs ih =>
    cases i with
    | zero => rfl
    | succ i => simp [ih]
theorem rep_int (k : Nat) (a : Int) : repD k [.int a] = (List.replicate k a).map PyData.int := by
  unfold repD
  induction k with
  | zero => rfl
  | succ k ih => rw [List.replicate_succ, List.flatten_cons, ih, List.replicate_succ]; rfl
theorem sum_rep (k : Nat) (a : Int) : (List.replicate k a).sum = k * a := by
  induction k with
  | zero => simp
  | succ k ih =>
    rw [List.replicate_succ, List.sum_cons, ih]
    have : ((k + 1 : Nat) : Int) * a = k * a + a := by rw [Int.natCast_add, Int.add_mul]; simp
    rw [this]; omega
theorem srt_rep (k : Nat) (a : Int) : (List.replicate k a).Pairwise (· ≤ ·) := by
  rw [List.pairwise_replicate]
  exact .inr (Int.le_refl _)
theorem eq_self_i (a b : Int) (h : a = b) : decide (a = b) = true := by simp [h]
theorem two_ok (ns : List Int) {at_ mw ms : Int} (h0 : 0 ≤ at_) (w1 : 1 ≤ mw) (m1 : 1 ≤ ms) (m2 : ms ≤ 100) :
    ∃ (one other : List Int) (total : Int), m__law_two [.list (ns.map PyData.int), .int at_, .int mw, .int ms] = .ok (.tuple [.tuple (one.map PyData.int), .tuple (other.map PyData.int)]) ∧ LOk one total ms.toNat ∧ LOk other total ms.toNat ∧ 1 ≤ total ∧ total ≤ mw := by
  obtain ⟨r, er, hr⟩ := row_ok ns at_ h0
  have i0 := rowIx hr (k := 0) (by decide) (by decide)
  have i1 := rowIx hr (k := 1) (by decide) (by decide)
  have i40 := rowIx hr (k := 40) (by decide) (by decide)
  have i41 := rowIx hr (k := 41) (by decide) (by decide)
  have b0 := rowAt hr 0
  have b1 := rowAt hr 1
  have b40 := rowAt hr 40
  have b41 := rowAt hr 41
  generalize r.getD (0 : Int).toNat 0 = u0 at i0 b0
  generalize r.getD (1 : Int).toNat 0 = u1 at i1 b1
  generalize r.getD (40 : Int).toNat 0 = u40 at i40 b40
  generalize r.getD (41 : Int).toNat 0 = u41 at i41 b41
  have t0 : 0 ≤ u0 % mw := Int.emod_nonneg _ (by omega)
  have t1 : u0 % mw < mw := Int.emod_lt_of_pos _ (by omega)
  generalize ht : 1 + u0 % mw = total
  obtain ⟨one, eo, ho⟩ := list_ok hr (at_ := 2) (total := total) (most := ms) (by decide) (by omega) m1 (by omega)
  obtain ⟨oth, et, hot⟩ := list_ok hr (at_ := 22) (total := total) (most := ms) (by decide) (by omega) m1 (by omega)
  generalize hS : PyData.list (ns.map PyData.int) = S at er
  generalize hR : PyData.list (r.map PyData.int) = R at er eo et
  have fin : ∀ (a b : List Int) (ρ : Sl), ρ[6]? = some (some (.d (.tuple (a.map PyData.int)))) → ρ[7]? = some (some (.d (.tuple (b.map PyData.int)))) → (s__law_two_6 ρ).rs = .ok (.tuple [.tuple (a.map PyData.int), .tuple (b.map PyData.int)]) := fun a b ρ e1 e2 => by
    simp [s__law_two_6, b_ok, b_err, b_bad, o_ok, o_err, n_ok, sSeq_K, seqK_nx, seqK_rt, seqK_er, v_d, v_Rd, v_Ro, v_Fo, v_Fi, v_Fb, v_Fs, v_Ft, v_Fn, f_o, f_d, a_i, a_b, a_l, a_sl, a_st, l_i, l_b, l_s, l_t, l_n, t_b, t_l, t_t, p_add, p_addT, p_addL, p_sub, p_mul, p_mod, p_div, p_pow, p_lt, p_le, p_gt, p_ge, p_min, p_max, p_lenL, p_lenT, p_tupL, p_tupT, p_lstL, p_lstT, p_ixL, p_ixT, p_slL, p_slT, p_eq, p_ne, p_isN, p_isNotN, r_1, r_2, c_k, c_j, i_non, i_bl, i_int, i_str, i_lst, i_tup, gTup_b, gLst_b, mkT_ok, mkL_ok, sap, sit, itK_ok, sex, exK_ok, sre, reK_ok, p_srtL, p_srtT, p_sumL, p_sumT, rs_rt, rs_nx, rs_er, p_inT, p_ninT, p_inL, shp_i, shp_b, shp_n, shp_T, shp_L, eqv_T, eqv_I, sIf, sRet, sSet, sSetO, sDrop, sNext, sRaise, sFrz, gTest, gBin, gUn, gC, gNl, gB, gAnd, gOr, gNot, gIf, gTru, aNil, aCons, gCall, gChain, gIsi, gSeq, gRg1, gRg2, sFor, tgN, gYes, sAsg, tg2, tg3, sPar, gSl, oSo, oNo, gEnum, gZip, gZipM, gR1, gR2, gLRg, gTRg, gLCnt, gLIdx, v_d e1, v_d e2]
  have start : ∀ (X : Rs PyData), (sSeq s__law_two_5 s__law_two_6 [some (.d S), some (.d (.int at_)), some (.d (.int mw)), some (.d (.int ms)), some (.d R), some (.d (.int total)), some (.d (.tuple (one.map PyData.int))), some (.d (.tuple (oth.map PyData.int))), some (.d (.int (u1 % 4))), none, none, none, none, none, none]).rs = X → m__law_two [S, .int at_, .int mw, .int ms] = X := fun X hX => by
    show (h__law_two [some (.d S), some (.d (.int at_)), some (.d (.int mw)), some (.d (.int ms)), none, none, none, none, none, none, none, none, none, none, none]).rs = X
    unfold h__law_two
    have e0 : s__law_two_0 [some (.d S), some (.d (.int at_)), some (.d (.int mw)), some (.d (.int ms)), none, none, none, none, none, none, none, none, none, none, none] = .nx [some (.d S), some (.d (.int at_)), some (.d (.int mw)), some (.d (.int ms)), some (.d R), none, none, none, none, none, none, none, none, none, none] := by
      simp [s__law_two_0, b_ok, b_err, b_bad, o_ok, o_err, n_ok, sSeq_K, seqK_nx, seqK_rt, seqK_er, v_d, v_Rd, v_Ro, v_Fo, v_Fi, v_Fb, v_Fs, v_Ft, v_Fn, f_o, f_d, a_i, a_b, a_l, a_sl, a_st, l_i, l_b, l_s, l_t, l_n, t_b, t_l, t_t, p_add, p_addT, p_addL, p_sub, p_mul, p_mod, p_div, p_pow, p_lt, p_le, p_gt, p_ge, p_min, p_max, p_lenL, p_lenT, p_tupL, p_tupT, p_lstL, p_lstT, p_ixL, p_ixT, p_slL, p_slT, p_eq, p_ne, p_isN, p_isNotN, r_1, r_2, c_k, c_j, i_non, i_bl, i_int, i_str, i_lst, i_tup, gTup_b, gLst_b, mkT_ok, mkL_ok, sap, sit, itK_ok, sex, exK_ok, sre, reK_ok, p_srtL, p_srtT, p_sumL, p_sumT, rs_rt, rs_nx, rs_er, p_inT, p_ninT, p_inL, shp_i, shp_b, shp_n, shp_T, shp_L, eqv_T, eqv_I, sIf, sRet, sSet, sSetO, sDrop, sNext, sRaise, sFrz, gTest, gBin, gUn, gC, gNl, gB, gAnd, gOr, gNot, gIf, gTru, aNil, aCons, gCall, gChain, gIsi, gSeq, gRg1, gRg2, sFor, tgN, gYes, sAsg, tg2, tg3, sPar, gSl, oSo, oNo, gEnum, gZip, gZipM, gR1, gR2, gLRg, gTRg, gLCnt, gLIdx, er]
    have e1 : s__law_two_1 [some (.d S), some (.d (.int at_)), some (.d (.int mw)), some (.d (.int ms)), some (.d R), none, none, none, none, none, none, none, none, none, none] = .nx [some (.d S), some (.d (.int at_)), some (.d (.int mw)), some (.d (.int ms)), some (.d R), some (.d (.int total)), none, none, none, none, none, none, none, none, none] := by
      subst hR
      simp [s__law_two_1, b_ok, b_err, b_bad, o_ok, o_err, n_ok, sSeq_K, seqK_nx, seqK_rt, seqK_er, v_d, v_Rd, v_Ro, v_Fo, v_Fi, v_Fb, v_Fs, v_Ft, v_Fn, f_o, f_d, a_i, a_b, a_l, a_sl, a_st, l_i, l_b, l_s, l_t, l_n, t_b, t_l, t_t, p_add, p_addT, p_addL, p_sub, p_mul, p_mod, p_div, p_pow, p_lt, p_le, p_gt, p_ge, p_min, p_max, p_lenL, p_lenT, p_tupL, p_tupT, p_lstL, p_lstT, p_ixL, p_ixT, p_slL, p_slT, p_eq, p_ne, p_isN, p_isNotN, r_1, r_2, c_k, c_j, i_non, i_bl, i_int, i_str, i_lst, i_tup, gTup_b, gLst_b, mkT_ok, mkL_ok, sap, sit, itK_ok, sex, exK_ok, sre, reK_ok, p_srtL, p_srtT, p_sumL, p_sumT, rs_rt, rs_nx, rs_er, p_inT, p_ninT, p_inL, shp_i, shp_b, shp_n, shp_T, shp_L, eqv_T, eqv_I, sIf, sRet, sSet, sSetO, sDrop, sNext, sRaise, sFrz, gTest, gBin, gUn, gC, gNl, gB, gAnd, gOr, gNot, gIf, gTru, aNil, aCons, gCall, gChain, gIsi, gSeq, gRg1, gRg2, sFor, tgN, gYes, sAsg, tg2, tg3, sPar, gSl, oSo, oNo, gEnum, gZip, gZipM, gR1, gR2, gLRg, gTRg, gLCnt, gLIdx, i0, show (0 : Int) < mw by omega, ht]
    have e2 : s__law_two_2 [some (.d S), some (.d (.int at_)), some (.d (.int mw)), some (.d (.int ms)), some (.d R), some (.d (.int total)), none, none, none, none, none, none, none, none, none] = .nx [some (.d S), some (.d (.int at_)), some (.d (.int mw)), some (.d (.int ms)), some (.d R), some (.d (.int total)), some (.d (.tuple (one.map PyData.int))), none, none, none, none, none, none, none, none] := by
      simp [s__law_two_2, b_ok, b_err, b_bad, o_ok, o_err, n_ok, sSeq_K, seqK_nx, seqK_rt, seqK_er, v_d, v_Rd, v_Ro, v_Fo, v_Fi, v_Fb, v_Fs, v_Ft, v_Fn, f_o, f_d, a_i, a_b, a_l, a_sl, a_st, l_i, l_b, l_s, l_t, l_n, t_b, t_l, t_t, p_add, p_addT, p_addL, p_sub, p_mul, p_mod, p_div, p_pow, p_lt, p_le, p_gt, p_ge, p_min, p_max, p_lenL, p_lenT, p_tupL, p_tupT, p_lstL, p_lstT, p_ixL, p_ixT, p_slL, p_slT, p_eq, p_ne, p_isN, p_isNotN, r_1, r_2, c_k, c_j, i_non, i_bl, i_int, i_str, i_lst, i_tup, gTup_b, gLst_b, mkT_ok, mkL_ok, sap, sit, itK_ok, sex, exK_ok, sre, reK_ok, p_srtL, p_srtT, p_sumL, p_sumT, rs_rt, rs_nx, rs_er, p_inT, p_ninT, p_inL, shp_i, shp_b, shp_n, shp_T, shp_L, eqv_T, eqv_I, sIf, sRet, sSet, sSetO, sDrop, sNext, sRaise, sFrz, gTest, gBin, gUn, gC, gNl, gB, gAnd, gOr, gNot, gIf, gTru, aNil, aCons, gCall, gChain, gIsi, gSeq, gRg1, gRg2, sFor, tgN, gYes, sAsg, tg2, tg3, sPar, gSl, oSo, oNo, gEnum, gZip, gZipM, gR1, gR2, gLRg, gTRg, gLCnt, gLIdx, eo]
    have e3 : s__law_two_3 [some (.d S), some (.d (.int at_)), some (.d (.int mw)), some (.d (.int ms)), some (.d R), some (.d (.int total)), some (.d (.tuple (one.map PyData.int))), none, none, none, none, none, none, none, none] = .nx [some (.d S), some (.d (.int at_)), some (.d (.int mw)), some (.d (.int ms)), some (.d R), some (.d (.int total)), some (.d (.tuple (one.map PyData.int))), some (.d (.tuple (oth.map PyData.int))), none, none, none, none, none, none, none] := by
      simp [s__law_two_3, b_ok, b_err, b_bad, o_ok, o_err, n_ok, sSeq_K, seqK_nx, seqK_rt, seqK_er, v_d, v_Rd, v_Ro, v_Fo, v_Fi, v_Fb, v_Fs, v_Ft, v_Fn, f_o, f_d, a_i, a_b, a_l, a_sl, a_st, l_i, l_b, l_s, l_t, l_n, t_b, t_l, t_t, p_add, p_addT, p_addL, p_sub, p_mul, p_mod, p_div, p_pow, p_lt, p_le, p_gt, p_ge, p_min, p_max, p_lenL, p_lenT, p_tupL, p_tupT, p_lstL, p_lstT, p_ixL, p_ixT, p_slL, p_slT, p_eq, p_ne, p_isN, p_isNotN, r_1, r_2, c_k, c_j, i_non, i_bl, i_int, i_str, i_lst, i_tup, gTup_b, gLst_b, mkT_ok, mkL_ok, sap, sit, itK_ok, sex, exK_ok, sre, reK_ok, p_srtL, p_srtT, p_sumL, p_sumT, rs_rt, rs_nx, rs_er, p_inT, p_ninT, p_inL, shp_i, shp_b, shp_n, shp_T, shp_L, eqv_T, eqv_I, sIf, sRet, sSet, sSetO, sDrop, sNext, sRaise, sFrz, gTest, gBin, gUn, gC, gNl, gB, gAnd, gOr, gNot, gIf, gTru, aNil, aCons, gCall, gChain, gIsi, gSeq, gRg1, gRg2, sFor, tgN, gYes, sAsg, tg2, tg3, sPar, gSl, oSo, oNo, gEnum, gZip, gZipM, gR1, gR2, gLRg, gTRg, gLCnt, gLIdx, et]
    have e4 : s__law_two_4 [some (.d S), some (.d (.int at_)), some (.d (.int mw)), some (.d (.int ms)), some (.d R), some (.d (.int total)), some (.d (.tuple (one.map PyData.int))), some (.d (.tuple (oth.map PyData.int))), none, none, none, none, none, none, none] = .nx [some (.d S), some (.d (.int at_)), some (.d (.int mw)), some (.d (.int ms)), some (.d R), some (.d (.int total)), some (.d (.tuple (one.map PyData.int))), some (.d (.tuple (oth.map PyData.int))), some (.d (.int (u1 % 4))), none, none, none, none, none, none] := by
      subst hR
      simp [s__law_two_4, b_ok, b_err, b_bad, o_ok, o_err, n_ok, sSeq_K, seqK_nx, seqK_rt, seqK_er, v_d, v_Rd, v_Ro, v_Fo, v_Fi, v_Fb, v_Fs, v_Ft, v_Fn, f_o, f_d, a_i, a_b, a_l, a_sl, a_st, l_i, l_b, l_s, l_t, l_n, t_b, t_l, t_t, p_add, p_addT, p_addL, p_sub, p_mul, p_mod, p_div, p_pow, p_lt, p_le, p_gt, p_ge, p_min, p_max, p_lenL, p_lenT, p_tupL, p_tupT, p_lstL, p_lstT, p_ixL, p_ixT, p_slL, p_slT, p_eq, p_ne, p_isN, p_isNotN, r_1, r_2, c_k, c_j, i_non, i_bl, i_int, i_str, i_lst, i_tup, gTup_b, gLst_b, mkT_ok, mkL_ok, sap, sit, itK_ok, sex, exK_ok, sre, reK_ok, p_srtL, p_srtT, p_sumL, p_sumT, rs_rt, rs_nx, rs_er, p_inT, p_ninT, p_inL, shp_i, shp_b, shp_n, shp_T, shp_L, eqv_T, eqv_I, sIf, sRet, sSet, sSetO, sDrop, sNext, sRaise, sFrz, gTest, gBin, gUn, gC, gNl, gB, gAnd, gOr, gNot, gIf, gTru, aNil, aCons, gCall, gChain, gIsi, gSeq, gRg1, gRg2, sFor, tgN, gYes, sAsg, tg2, tg3, sPar, gSl, oSo, oNo, gEnum, gZip, gZipM, gR1, gR2, gLRg, gTRg, gLCnt, gLIdx, i1]
    rw [q_nx e0, q_nx e1, q_nx e2, q_nx e3, q_nx e4]
    exact hX
  have hmd0 : 0 ≤ u1 % 4 := by omega
  generalize hmd : u1 % 4 = md at start hmd0
  by_cases c0 : md = 0
  · -- equal shares
    subst c0
    have lc : gLc [10] (gRg2 (gC (.int 1)) (gBin pAdd (gVar 3) (gC (.int 1)))) (tgN 10) (gTest (gBin pEq (gBin pMod (gVar 5) (gVar 10)) (gC (.int 0)))) (gVar 10) [some (.d S), some (.d (.int at_)), some (.d (.int mw)), some (.d (.int ms)), some (.d R), some (.d (.int total)), some (.d (.tuple (one.map PyData.int))), some (.d (.tuple (oth.map PyData.int))), some (.d (.int 0)), none, none, none, none, none, none] = .ok (.list (((rgD 1 (ms + 1 - 1).toNat).filter fun d => match d with | .int m => decide (total % m = 0) | _ => false).map id)) := by
      refine gLc_eq _ _ (by show rg2 (.int 1) (.int (ms + 1)) = _; exact r_2 ⟨⟨by decide, by decide⟩, by omega, by omega⟩) (by rw [rgD_len]; omega) fun d hd => ?_
      obtain ⟨j, hj, e⟩ := List.mem_iff_getElem.mp hd
      obtain ⟨rfl, hj2⟩ := rgD_get2 (i := j) (d := d) (by rw [List.getElem?_eq_getElem hj, e])
      refine ⟨_, rfl, ?_, fun _ => rfl⟩
      simp [b_ok, b_err, b_bad, o_ok, o_err, n_ok, sSeq_K, seqK_nx, seqK_rt, seqK_er, v_d, v_Rd, v_Ro, v_Fo, v_Fi, v_Fb, v_Fs, v_Ft, v_Fn, f_o, f_d, a_i, a_b, a_l, a_sl, a_st, l_i, l_b, l_s, l_t, l_n, t_b, t_l, t_t, p_add, p_addT, p_addL, p_sub, p_mul, p_mod, p_div, p_pow, p_lt, p_le, p_gt, p_ge, p_min, p_max, p_lenL, p_lenT, p_tupL, p_tupT, p_lstL, p_lstT, p_ixL, p_ixT, p_slL, p_slT, p_eq, p_ne, p_isN, p_isNotN, r_1, r_2, c_k, c_j, i_non, i_bl, i_int, i_str, i_lst, i_tup, gTup_b, gLst_b, mkT_ok, mkL_ok, sap, sit, itK_ok, sex, exK_ok, sre, reK_ok, p_srtL, p_srtT, p_sumL, p_sumT, rs_rt, rs_nx, rs_er, p_inT, p_ninT, p_inL, shp_i, shp_b, shp_n, shp_T, shp_L, eqv_T, eqv_I, sIf, sRet, sSet, sSetO, sDrop, sNext, sRaise, sFrz, gTest, gBin, gUn, gC, gNl, gB, gAnd, gOr, gNot, gIf, gTru, aNil, aCons, gCall, gChain, gIsi, gSeq, gRg1, gRg2, sFor, tgN, gYes, sAsg, tg2, tg3, sPar, gSl, oSo, oNo, gEnum, gZip, gZipM, gR1, gR2, gLRg, gTRg, gLCnt, gLIdx, wipeS, show (0 : Int) < 1 + (j : Nat) by omega]
    have hg : ∃ gs : List Int, ((rgD 1 (ms + 1 - 1).toNat).filter fun d => match d with | .int m => decide (total % m = 0) | _ => false).map id = gs.map PyData.int ∧ 1 ≤ gs.length ∧ gs.length ≤ 100 ∧ ∀ g ∈ gs, (1 ≤ g ∧ g ≤ ms) ∧ total % g = 0 := by
      refine ⟨((List.range (ms + 1 - 1).toNat).map fun i => (1 : Int) + (i : Nat)).filter fun m => decide (total % m = 0), ?_, ?_, ?_, fun g hg => ?_⟩
      · rw [List.map_id]
        unfold rgD
        rw [List.filter_map, List.filter_map, List.map_map]
        rfl
      · apply List.length_pos_of_mem (a := 1)
        rw [List.mem_filter]
        refine ⟨List.mem_map.mpr ⟨0, List.mem_range.mpr (by omega), by simp⟩, by simp⟩
      · refine Nat.le_trans (List.length_filter_le _ _) ?_
        rw [List.length_map, List.length_range]; omega
      · rw [List.mem_filter] at hg
        obtain ⟨h1, h2⟩ := hg
        obtain ⟨i, hi, rfl⟩ := List.mem_map.mp h1
        have := List.mem_range.mp hi
        exact ⟨by omega, by simpa using h2⟩
    obtain ⟨gs, eg, g1, g2, g3⟩ := hg
    rw [eg] at lc
    have gp : (0 : Int) < gs.length := by omega
    have gi0 : 0 ≤ u40 % gs.length := Int.emod_nonneg _ (by omega)
    have gi1 : u40 % gs.length < gs.length := Int.emod_lt_of_pos _ gp
    have ga := atI_ints gs _ gi0 gi1
    have gm := SB.getD_mem (xs := gs) (i := (u40 % (gs.length : Int)).toNat) (by omega)
    generalize gs.getD (u40 % (gs.length : Int)).toNat 0 = g at ga gm
    obtain ⟨⟨k1, k2⟩, k3⟩ := g3 g gm
    have dv : L2.CDiv total g := ⟨by omega, by omega⟩
    have hq : total / g * g = total := by
      have := Int.mul_ediv_add_emod total g
      rw [k3] at this
      rw [Int.mul_comm]; omega
    have hq1 : 1 ≤ total / g := by
      have : 0 < total / g := by
        apply Int.ediv_pos_of_pos_of_dvd (by omega) (by omega)
        exact Int.dvd_of_emod_eq_zero k3
      omega
    refine ⟨List.replicate g.toNat (total / g), oth, total, start _ ?_, ⟨srt_rep _ _, fun x hx => ?_, ?_, ?_, ?_⟩, hot, by omega, by omega⟩
    · have m1' : pMul (.tuple [.int (total / g)]) (.int g) = .ok (.tuple ((List.replicate g.toNat (total / g)).map PyData.int)) := by
        show (if _ then _ else _) = _
        rw [if_pos ⟨by simp, k1, by omega, by simp⟩, rep_int]
      have e5 : s__law_two_5 [some (.d S), some (.d (.int at_)), some (.d (.int mw)), some (.d (.int ms)), some (.d R), some (.d (.int total)), some (.d (.tuple (one.map PyData.int))), some (.d (.tuple (oth.map PyData.int))), some (.d (.int 0)), none, none, none, none, none, none] = .nx [some (.d S), some (.d (.int at_)), some (.d (.int mw)), some (.d (.int ms)), some (.d R), some (.d (.int total)), some (.d (.tuple ((List.replicate g.toNat (total / g)).map PyData.int))), some (.d (.tuple (oth.map PyData.int))), some (.d (.int 0)), some (.d (.list (gs.map PyData.int))), some (.d (.int g)), none, none, none, none] := by
        subst hR
        simp [s__law_two_5, b_ok, b_err, b_bad, o_ok, o_err, n_ok, sSeq_K, seqK_nx, seqK_rt, seqK_er, v_d, v_Rd, v_Ro, v_Fo, v_Fi, v_Fb, v_Fs, v_Ft, v_Fn, f_o, f_d, a_i, a_b, a_l, a_sl, a_st, l_i, l_b, l_s, l_t, l_n, t_b, t_l, t_t, p_add, p_addT, p_addL, p_sub, p_mul, p_mod, p_div, p_pow, p_lt, p_le, p_gt, p_ge, p_min, p_max, p_lenL, p_lenT, p_tupL, p_tupT, p_lstL, p_lstT, p_ixL, p_ixT, p_slL, p_slT, p_eq, p_ne, p_isN, p_isNotN, r_1, r_2, c_k, c_j, i_non, i_bl, i_int, i_str, i_lst, i_tup, gTup_b, gLst_b, mkT_ok, mkL_ok, sap, sit, itK_ok, sex, exK_ok, sre, reK_ok, p_srtL, p_srtT, p_sumL, p_sumT, rs_rt, rs_nx, rs_er, p_inT, p_ninT, p_inL, shp_i, shp_b, shp_n, shp_T, shp_L, eqv_T, eqv_I, sIf, sRet, sSet, sSetO, sDrop, sNext, sRaise, sFrz, gTest, gBin, gUn, gC, gNl, gB, gAnd, gOr, gNot, gIf, gTru, aNil, aCons, gCall, gChain, gIsi, gSeq, gRg1, gRg2, sFor, tgN, gYes, sAsg, tg2, tg3, sPar, gSl, oSo, oNo, gEnum, gZip, gZipM, gR1, gR2, gLRg, gTRg, gLCnt, gLIdx, lc, i40, gp, show 0 < gs.length by omega, ga, dv, m1']
      rw [q_nx e5]
      exact fin _ _ _ rfl rfl
    · rw [(List.mem_replicate.mp hx).2]; exact hq1
    · rw [sum_rep]
      have : ((g.toNat : Nat) : Int) = g := by omega
      rw [this, Int.mul_comm]; exact hq
    · rw [List.length_replicate]; omega
    · rw [List.length_replicate]; omega
  · by_cases c1 : md = 1
    · subst c1
      have hb : ∀ (i : Nat) (xs : List Int) (a b : Option Cl), PosL xs → xs.sum = total → 1 ≤ xs.length → xs.length ≤ ms.toNat → i < 3 → ∃ (ys : List Int) (a' b' : Option Cl), PosL ys ∧ ys.sum = total ∧ 1 ≤ ys.length ∧ ys.length ≤ ms.toNat ∧
          b__law_two_0 [some (.d S), some (.d (.int at_)), some (.d (.int mw)), some (.d (.int ms)), some (.d R), some (.d (.int total)), some (.d (.tuple (one.map PyData.int))), some (.d (.tuple (oth.map PyData.int))), some (.d (.int 1)), none, none, some (.own (xs.map PyData.int)), some (.d (.int i)), a, b] = .nx [some (.d S), some (.d (.int at_)), some (.d (.int mw)), some (.d (.int ms)), some (.d R), some (.d (.int total)), some (.d (.tuple (one.map PyData.int))), some (.d (.tuple (oth.map PyData.int))), some (.d (.int 1)), none, none, some (.own (ys.map PyData.int)), some (.d (.int i)), a', b'] := by
        intro i xs a b hp hs h1 h2 hi
        by_cases hl : (1 : Int) < xs.length
        · have j42 := rowIx hr (k := 42 + i) (by omega) (by omega)
          have j45 := rowIx hr (k := 45 + i) (by omega) (by omega)
          have c42 := rowAt hr (42 + i)
          have c45 := rowAt hr (45 + i)
          generalize r.getD (42 + (i : Int)).toNat 0 = v1 at j42 c42
          generalize r.getD (45 + (i : Int)).toNat 0 = v2 at j45 c45
          have hlN : 1 < xs.length := by omega
          have s0 : 0 ≤ v1 % xs.length := Int.emod_nonneg _ (by omega)
          have s1 : v1 % xs.length < xs.length := Int.emod_lt_of_pos _ (by omega)
          generalize hsp : v1 % (xs.length : Int) = sp at s0 s1
          have hspN : sp.toNat < xs.length := by omega
          have le := List.length_eraseIdx_of_lt hspN
          have hmem : xs.getD sp.toNat 0 ∈ xs := SB.getD_mem hspN
          have hsum := sum_erase xs sp.toNat hspN
          have hget : (xs.map PyData.int)[sp.toNat]? = some (.int (xs.getD sp.toNat 0)) := by
            rw [List.getElem?_map, List.getElem?_eq_getElem hspN, List.getD_eq_getElem?_getD, List.getElem?_eq_getElem hspN]
            rfl
          generalize hmuch : xs.getD sp.toNat 0 = much at hmem hsum hget
          generalize hys : xs.eraseIdx sp.toNat = ys at le hsum
          have hyp : PosL ys := fun x hx => hp x (by rw [← hys] at hx; exact List.mem_of_mem_eraseIdx hx)
          have q0 : 0 ≤ v2 % ys.length := Int.emod_nonneg _ (by omega)
          have q1 : v2 % ys.length < ys.length := Int.emod_lt_of_pos _ (by omega)
          generalize hsq : v2 % (ys.length : Int) = sq at q0 q1
          have hsqN : sq.toNat < ys.length := by omega
          have e6 := atI_ints ys sq q0 q1
          have ix := ixN_pos (n := ys.length) q0 q1
          have hsum2 := sum_set ys sq.toNat (ys.getD sq.toNat 0 + much) hsqN
          have hpos2 := hyp _ (SB.getD_mem hsqN)
          generalize hw : ys.getD sq.toNat 0 = w at e6 hsum2 hpos2
          have hmp := hp much hmem
          refine ⟨ys.set sq.toNat (w + much), some (.d (.int much)), some (.d (.int sq)), fun x hx => ?_, by omega, by rw [List.length_set]; omega, by rw [List.length_set]; omega, ?_⟩
          · rcases SB.mem_set hx with hx | hx
            · exact hyp x hx
            · omega
          · subst hR
            have hk : gBin pMod (gBin pIx (gVar 4) (gBin pAdd (gC (.int 42)) (gVar 12))) (gUn pLen (gVarR 11)) [some (.d S), some (.d (.int at_)), some (.d (.int mw)), some (.d (.int ms)), some (.d (.list (r.map PyData.int))), some (.d (.int total)), some (.d (.tuple (one.map PyData.int))), some (.d (.tuple (oth.map PyData.int))), some (.d (.int 1)), none, none, some (.own (xs.map PyData.int)), some (.d (.int i)), a, b] = .ok (.int sp) := by
              simp [b_ok, b_err, b_bad, o_ok, o_err, n_ok, sSeq_K, seqK_nx, seqK_rt, seqK_er, v_d, v_Rd, v_Ro, v_Fo, v_Fi, v_Fb, v_Fs, v_Ft, v_Fn, f_o, f_d, a_i, a_b, a_l, a_sl, a_st, l_i, l_b, l_s, l_t, l_n, t_b, t_l, t_t, p_add, p_addT, p_addL, p_sub, p_mul, p_mod, p_div, p_pow, p_lt, p_le, p_gt, p_ge, p_min, p_max, p_lenL, p_lenT, p_tupL, p_tupT, p_lstL, p_lstT, p_ixL, p_ixT, p_slL, p_slT, p_eq, p_ne, p_isN, p_isNotN, r_1, r_2, c_k, c_j, i_non, i_bl, i_int, i_str, i_lst, i_tup, gTup_b, gLst_b, mkT_ok, mkL_ok, sap, sit, itK_ok, sex, exK_ok, sre, reK_ok, p_srtL, p_srtT, p_sumL, p_sumT, rs_rt, rs_nx, rs_er, p_inT, p_ninT, p_inL, shp_i, shp_b, shp_n, shp_T, shp_L, eqv_T, eqv_I, sIf, sRet, sSet, sSetO, sDrop, sNext, sRaise, sFrz, gTest, gBin, gUn, gC, gNl, gB, gAnd, gOr, gNot, gIf, gTru, aNil, aCons, gCall, gChain, gIsi, gSeq, gRg1, gRg2, sFor, tgN, gYes, sAsg, tg2, tg3, sPar, gSl, oSo, oNo, gEnum, gZip, gZipM, gR1, gR2, gLRg, gTRg, gLCnt, gLIdx, j42, show (0 : Int) < xs.length by omega, show 0 < xs.length by omega, hsp]
            have pop := spa (i := 11) (set := tgN 13) (ρ' := [some (.d S), some (.d (.int at_)), some (.d (.int mw)), some (.d (.int ms)), some (.d (.list (r.map PyData.int))), some (.d (.int total)), some (.d (.tuple (one.map PyData.int))), some (.d (.tuple (oth.map PyData.int))), some (.d (.int 1)), none, none, some (.own (ys.map PyData.int)), some (.d (.int i)), some (.d (.int much)), b]) rfl hk s0 (by omega) hget (by rw [erase_ints, hys]; rfl)
            have e7 : (xs.map PyData.int).length = xs.length := List.length_map ..
            unfold b__law_two_0
            simp only [b_ok, b_err, b_bad, o_ok, o_err, n_ok, sSeq_K, seqK_nx, seqK_rt, seqK_er, v_d, v_Rd, v_Ro, v_Fo, v_Fi, v_Fb, v_Fs, v_Ft, v_Fn, f_o, f_d, a_i, a_b, a_l, a_sl, a_st, l_i, l_b, l_s, l_t, l_n, t_b, t_l, t_t, p_add, p_addT, p_addL, p_sub, p_mul, p_mod, p_div, p_pow, p_lt, p_le, p_gt, p_ge, p_min, p_max, p_lenL, p_lenT, p_tupL, p_tupT, p_lstL, p_lstT, p_ixL, p_ixT, p_slL, p_slT, p_eq, p_ne, p_isN, p_isNotN, r_1, r_2, c_k, c_j, i_non, i_bl, i_int, i_str, i_lst, i_tup, gTup_b, gLst_b, mkT_ok, mkL_ok, sap, sit, itK_ok, sex, exK_ok, sre, reK_ok, p_srtL, p_srtT, p_sumL, p_sumT, rs_rt, rs_nx, rs_er, p_inT, p_ninT, p_inL, shp_i, shp_b, shp_n, shp_T, shp_L, eqv_T, eqv_I, sIf, sRet, sSet, sSetO, sDrop, sNext, sRaise, sFrz, gTest, gBin, gUn, gC, gNl, gB, gAnd, gOr, gNot, gIf, gTru, aNil, aCons, gCall, gChain, gIsi, gSeq, gRg1, gRg2, sFor, tgN, gYes, sAsg, tg2, tg3, sPar, gSl, oSo, oNo, gEnum, gZip, gZipM, gR1, gR2, gLRg, gTRg, gLCnt, gLIdx]
            rw [← set_ints]
            simp [b_ok, b_err, b_bad, o_ok, o_err, n_ok, sSeq_K, seqK_nx, seqK_rt, seqK_er, v_d, v_Rd, v_Ro, v_Fo, v_Fi, v_Fb, v_Fs, v_Ft, v_Fn, f_o, f_d, a_i, a_b, a_l, a_sl, a_st, l_i, l_b, l_s, l_t, l_n, t_b, t_l, t_t, p_add, p_addT, p_addL, p_sub, p_mul, p_mod, p_div, p_pow, p_lt, p_le, p_gt, p_ge, p_min, p_max, p_lenL, p_lenT, p_tupL, p_tupT, p_lstL, p_lstT, p_ixL, p_ixT, p_slL, p_slT, p_eq, p_ne, p_isN, p_isNotN, r_1, r_2, c_k, c_j, i_non, i_bl, i_int, i_str, i_lst, i_tup, gTup_b, gLst_b, mkT_ok, mkL_ok, sap, sit, itK_ok, sex, exK_ok, sre, reK_ok, p_srtL, p_srtT, p_sumL, p_sumT, rs_rt, rs_nx, rs_er, p_inT, p_ninT, p_inL, shp_i, shp_b, shp_n, shp_T, shp_L, eqv_T, eqv_I, sIf, sRet, sSet, sSetO, sDrop, sNext, sRaise, sFrz, gTest, gBin, gUn, gC, gNl, gB, gAnd, gOr, gNot, gIf, gTru, aNil, aCons, gCall, gChain, gIsi, gSeq, gRg1, gRg2, sFor, tgN, gYes, sAsg, tg2, tg3, sPar, gSl, oSo, oNo, gEnum, gZip, gZipM, gR1, gR2, gLRg, gTRg, gLCnt, gLIdx, hl, hlN, pop, j45, show (0 : Int) < ys.length by omega, show 0 < ys.length by omega, hsq, e6, ix]
        · exact ⟨xs, a, b, hp, hs, h1, h2, by simp [b__law_two_0, b_ok, b_err, b_bad, o_ok, o_err, n_ok, sSeq_K, seqK_nx, seqK_rt, seqK_er, v_d, v_Rd, v_Ro, v_Fo, v_Fi, v_Fb, v_Fs, v_Ft, v_Fn, f_o, f_d, a_i, a_b, a_l, a_sl, a_st, l_i, l_b, l_s, l_t, l_n, t_b, t_l, t_t, p_add, p_addT, p_addL, p_sub, p_mul, p_mod, p_div, p_pow, p_lt, p_le, p_gt, p_ge, p_min, p_max, p_lenL, p_lenT, p_tupL, p_tupT, p_lstL, p_lstT, p_ixL, p_ixT, p_slL, p_slT, p_eq, p_ne, p_isN, p_isNotN, r_1, r_2, c_k, c_j, i_non, i_bl, i_int, i_str, i_lst, i_tup, gTup_b, gLst_b, mkT_ok, mkL_ok, sap, sit, itK_ok, sex, exK_ok, sre, reK_ok, p_srtL, p_srtT, p_sumL, p_sumT, rs_rt, rs_nx, rs_er, p_inT, p_ninT, p_inL, shp_i, shp_b, shp_n, shp_T, shp_L, eqv_T, eqv_I, sIf, sRet, sSet, sSetO, sDrop, sNext, sRaise, sFrz, gTest, gBin, gUn, gC, gNl, gB, gAnd, gOr, gNot, gIf, gTru, aNil, aCons, gCall, gChain, gIsi, gSeq, gRg1, gRg2, sFor, tgN, gYes, sAsg, tg2, tg3, sPar, gSl, oSo, oNo, gEnum, gZip, gZipM, gR1, gR2, gLRg, gTRg, gLCnt, gLIdx, hl, show ¬ 1 < xs.length by omega]⟩
      obtain ⟨ρ', e, xs, t, a, b, rfl, hp, hs, h1, hl⟩ := forLoop_inv (set := tgN 12) (body := b__law_two_0) (fun i ρ => ∃ (xs : List Int) (t a b : Option Cl), ρ = [some (.d S), some (.d (.int at_)), some (.d (.int mw)), some (.d (.int ms)), some (.d R), some (.d (.int total)), some (.d (.tuple (one.map PyData.int))), some (.d (.tuple (oth.map PyData.int))), some (.d (.int 1)), none, none, some (.own (xs.map PyData.int)), t, a, b] ∧ PosL xs ∧ xs.sum = total ∧ 1 ≤ xs.length ∧ xs.length ≤ ms.toNat)
        (rgD 0 (1 + u41 % 3).toNat) 0 [some (.d S), some (.d (.int at_)), some (.d (.int mw)), some (.d (.int ms)), some (.d R), some (.d (.int total)), some (.d (.tuple (one.map PyData.int))), some (.d (.tuple (oth.map PyData.int))), some (.d (.int 1)), none, none, some (.own (one.map PyData.int)), none, none, none] ⟨one, none, none, none, rfl, ho.pos, ho.sum, ho.one, ho.len⟩ fun i d ρ hd hp => by
          obtain ⟨xs, t, a, b, rfl, hp, hs, h1, hl⟩ := hp
          obtain ⟨rfl, hi⟩ := rgD_get2 hd
          obtain ⟨ys, a', b', q1, q2, q3, q4, e⟩ := hb i xs a b hp hs h1 hl (by omega)
          have hi0 : (0 : Int) + (i : Nat) = (i : Int) := by omega
          rw [hi0]
          exact ⟨_, _, rfl, e, ys, _, a', b', rfl, q1, q2, q3, q4⟩
      refine ⟨one, sortI xs, total, start _ ?_, ho, ⟨sortI_sorted xs, fun x hx => hp x ((sortI_perm xs).mem_iff.mp hx), by rw [perm_sum (sortI_perm xs)]; exact hs, by rw [sortI_len]; exact h1, by rw [sortI_len]; exact hl⟩, by omega, by omega⟩
      have e5 : s__law_two_5 [some (.d S), some (.d (.int at_)), some (.d (.int mw)), some (.d (.int ms)), some (.d R), some (.d (.int total)), some (.d (.tuple (one.map PyData.int))), some (.d (.tuple (oth.map PyData.int))), some (.d (.int 1)), none, none, none, none, none, none] = .nx [some (.d S), some (.d (.int at_)), some (.d (.int mw)), some (.d (.int ms)), some (.d R), some (.d (.int total)), some (.d (.tuple (one.map PyData.int))), some (.d (.tuple ((sortI xs).map PyData.int))), some (.d (.int 1)), none, none, some (.own (xs.map PyData.int)), t, a, b] := by
        have y1 : -1000000000 ≤ 1 + u41 % 3 := by omega
        have y2 : 1 + u41 % 3 ≤ 1000000000 := by omega
        have er1 := r_1 ⟨y1, y2⟩
        subst hR
        unfold s__law_two_5
        simp [b_ok, b_err, b_bad, o_ok, o_err, n_ok, sSeq_K, seqK_nx, seqK_rt, seqK_er, v_d, v_Rd, v_Ro, v_Fo, v_Fi, v_Fb, v_Fs, v_Ft, v_Fn, f_o, f_d, a_i, a_b, a_l, a_sl, a_st, l_i, l_b, l_s, l_t, l_n, t_b, t_l, t_t, p_add, p_addT, p_addL, p_sub, p_mul, p_mod, p_div, p_pow, p_lt, p_le, p_gt, p_ge, p_min, p_max, p_lenL, p_lenT, p_tupL, p_tupT, p_lstL, p_lstT, p_ixL, p_ixT, p_slL, p_slT, p_eq, p_ne, p_isN, p_isNotN, r_1, r_2, c_k, c_j, i_non, i_bl, i_int, i_str, i_lst, i_tup, gTup_b, gLst_b, mkT_ok, mkL_ok, sap, sit, itK_ok, sex, exK_ok, sre, reK_ok, p_srtL, p_srtT, p_sumL, p_sumT, rs_rt, rs_nx, rs_er, p_inT, p_ninT, p_inL, shp_i, shp_b, shp_n, shp_T, shp_L, eqv_T, eqv_I, sIf, sRet, sSet, sSetO, sDrop, sNext, sRaise, sFrz, gTest, gBin, gUn, gC, gNl, gB, gAnd, gOr, gNot, gIf, gTru, aNil, aCons, gCall, gChain, gIsi, gSeq, gRg1, gRg2, sFor, tgN, gYes, sAsg, tg2, tg3, sPar, gSl, oSo, oNo, gEnum, gZip, gZipM, gR1, gR2, gLRg, gTRg, gLCnt, gLIdx, i41, er1, e]
      rw [q_nx e5]
      exact fin _ _ _ rfl rfl
    · refine ⟨one, oth, total, start _ ?_, ho, hot, by omega, by omega⟩
      have e5 : s__law_two_5 [some (.d S), some (.d (.int at_)), some (.d (.int mw)), some (.d (.int ms)), some (.d R), some (.d (.int total)), some (.d (.tuple (one.map PyData.int))), some (.d (.tuple (oth.map PyData.int))), some (.d (.int md)), none, none, none, none, none, none] = .nx [some (.d S), some (.d (.int at_)), some (.d (.int mw)), some (.d (.int ms)), some (.d R), some (.d (.int total)), some (.d (.tuple (one.map PyData.int))), some (.d (.tuple (oth.map PyData.int))), some (.d (.int md)), none, none, none, none, none, none] := by
        simp [s__law_two_5, b_ok, b_err, b_bad, o_ok, o_err, n_ok, sSeq_K, seqK_nx, seqK_rt, seqK_er, v_d, v_Rd, v_Ro, v_Fo, v_Fi, v_Fb, v_Fs, v_Ft, v_Fn, f_o, f_d, a_i, a_b, a_l, a_sl, a_st, l_i, l_b, l_s, l_t, l_n, t_b, t_l, t_t, p_add, p_addT, p_addL, p_sub, p_mul, p_mod, p_div, p_pow, p_lt, p_le, p_gt, p_ge, p_min, p_max, p_lenL, p_lenT, p_tupL, p_tupT, p_lstL, p_lstT, p_ixL, p_ixT, p_slL, p_slT, p_eq, p_ne, p_isN, p_isNotN, r_1, r_2, c_k, c_j, i_non, i_bl, i_int, i_str, i_lst, i_tup, gTup_b, gLst_b, mkT_ok, mkL_ok, sap, sit, itK_ok, sex, exK_ok, sre, reK_ok, p_srtL, p_srtT, p_sumL, p_sumT, rs_rt, rs_nx, rs_er, p_inT, p_ninT, p_inL, shp_i, shp_b, shp_n, shp_T, shp_L, eqv_T, eqv_I, sIf, sRet, sSet, sSetO, sDrop, sNext, sRaise, sFrz, gTest, gBin, gUn, gC, gNl, gB, gAnd, gOr, gNot, gIf, gTru, aNil, aCons, gCall, gChain, gIsi, gSeq, gRg1, gRg2, sFor, tgN, gYes, sAsg, tg2, tg3, sPar, gSl, oSo, oNo, gEnum, gZip, gZipM, gR1, gR2, gLRg, gTRg, gLCnt, gLIdx, c0, c1]
      rw [q_nx e5]
      exact fin _ _ _ rfl rfl
end SBL

namespace SBL
open PySem SB
/-! ### what the law asks of rising rows -/
theorem lay_filter (p : PyData → Bool) : ∀ ds : List PyData, (PyData.canLayAll0 ds = true → PyData.canLayAll0 (ds.filter p) = true) ∧ PyData.depthAll (ds.filter p) ≤ PyData.depthAll ds
  | [] => ⟨fun h => h, Nat.le_refl _⟩
  | d :: ds => by
    obtain ⟨a, b⟩ := lay_filter p ds
    by_cases h : p d = true
    · rw [List.filter_cons_of_pos h]
      simp only [PyData.canLayAll0, PyData.depthAll, Bool.and_eq_true]
      exact ⟨fun z => ⟨z.1, a z.2⟩, by omega⟩
    · rw [List.filter_cons_of_neg h]
      simp only [PyData.canLayAll0, PyData.depthAll, Bool.and_eq_true]
      exact ⟨fun z => a z.2, by omega⟩
theorem shp_filter {ds : List PyData} (h : SeqAt.shaped (.tuple ds) = true) (p : PyData → Bool) : SeqAt.shaped (.list (ds.filter p)) = true := by
  have h1 : PyData.canLayAll0 ds = true := by
    have := SeqAt.canLay_of_shaped h
    rwa [PyData.canLay0] at this
  have h2 : PyData.depthAll ds + 1 ≤ 64 := by
    have := SeqAt.depth_of_shaped h
    rwa [PyData.depth] at this
  obtain ⟨a, b⟩ := lay_filter p ds
  unfold SeqAt.shaped
  rw [PyData.canLay0, PyData.depth, a h1]
  simp
  omega
theorem shp_nilL : SeqAt.shaped (.list []) = true := by decide +kernel
theorem eqv_nilL (ds : List PyData) : PyData.eqv (.list ds) (.list []) = ds.isEmpty := by
  rw [PyData.eqv]
  cases ds <;> simp [PyData.eqvAll]
theorem sortI_eq (xs : List Int) : decide (xs = sortI xs) = srt xs := by
  cases h : srt xs with
  | true => exact decide_eq_true (sortI_of (List.Perm.refl _) ((srt_iff xs).mp h))
  | false =>
    refine decide_eq_false fun e => ?_
    have : xs.Pairwise (· ≤ ·) := e ▸ sortI_sorted xs
    rw [← srt_iff, h] at this
    exact Bool.false_ne_true this
theorem eqv_LL (xs ys : List Int) : PyData.eqv (.list (xs.map PyData.int)) (.list (ys.map PyData.int)) = decide (xs = ys) := by
  rw [PyData.eqv]; exact eqvAll_ints xs ys
theorem in_ok {x : PyData} (hx : nd x = true) (lo hi : Int) : m__law_in [x, .int lo, .int hi] = .ok (.bool (isW x lo hi)) := by
  show (h__law_in [some (.d x), some (.d (.int lo)), some (.d (.int hi))]).rs = _
  have e : ∀ y : PyData, m__law_whole [y] = (h__law_whole [some (.d y)]).rs := fun y => rfl
  cases x with
  | int i => by_cases h : lo ≤ i <;> simp [h__law_in, s__law_in_0, h__law_whole, s__law_whole_0, e, b_ok, b_err, b_bad, o_ok, o_err, n_ok, sSeq_K, seqK_nx, seqK_rt, seqK_er, v_d, v_Rd, v_Ro, v_Fo, v_Fi, v_Fb, v_Fs, v_Ft, v_Fn, f_o, f_d, a_i, a_b, a_l, a_sl, a_st, l_i, l_b, l_s, l_t, l_n, t_b, t_l, t_t, p_add, p_addT, p_addL, p_sub, p_mul, p_mod, p_div, p_pow, p_lt, p_le, p_gt, p_ge, p_min, p_max, p_lenL, p_lenT, p_tupL, p_tupT, p_lstL, p_lstT, p_ixL, p_ixT, p_slL, p_slT, p_eq, p_ne, p_isN, p_isNotN, r_1, r_2, c_k, c_j, i_non, i_bl, i_int, i_str, i_lst, i_tup, gTup_b, gLst_b, mkT_ok, mkL_ok, sap, sit, itK_ok, sex, exK_ok, sre, reK_ok, p_srtL, p_srtT, p_sumL, p_sumT, rs_rt, rs_nx, rs_er, p_inT, p_ninT, p_inL, shp_i, shp_b, shp_n, shp_T, shp_L, eqv_T, eqv_I, sIf, sRet, sSet, sSetO, sDrop, sNext, sRaise, sFrz, gTest, gBin, gUn, gC, gNl, gB, gAnd, gOr, gNot, gIf, gTru, aNil, aCons, gCall, gChain, gIsi, gSeq, gRg1, gRg2, sFor, tgN, gYes, sAsg, tg2, tg3, sPar, gSl, oSo, oNo, gEnum, gZip, gZipM, gR1, gR2, gLRg, gTRg, gLCnt, gLIdx, isW, h]
  | dict kv => cases hx
  | _ => simp [h__law_in, s__law_in_0, h__law_whole, s__law_whole_0, e, b_ok, b_err, b_bad, o_ok, o_err, n_ok, sSeq_K, seqK_nx, seqK_rt, seqK_er, v_d, v_Rd, v_Ro, v_Fo, v_Fi, v_Fb, v_Fs, v_Ft, v_Fn, f_o, f_d, a_i, a_b, a_l, a_sl, a_st, l_i, l_b, l_s, l_t, l_n, t_b, t_l, t_t, p_add, p_addT, p_addL, p_sub, p_mul, p_mod, p_div, p_pow, p_lt, p_le, p_gt, p_ge, p_min, p_max, p_lenL, p_lenT, p_tupL, p_tupT, p_lstL, p_lstT, p_ixL, p_ixT, p_slL, p_slT, p_eq, p_ne, p_isN, p_isNotN, r_1, r_2, c_k, c_j, i_non, i_bl, i_int, i_str, i_lst, i_tup, gTup_b, gLst_b, mkT_ok, mkL_ok, sap, sit, itK_ok, sex, exK_ok, sre, reK_ok, p_srtL, p_srtT, p_sumL, p_sumT, rs_rt, rs_nx, rs_er, p_inT, p_ninT, p_inL, shp_i, shp_b, shp_n, shp_T, shp_L, eqv_T, eqv_I, sIf, sRet, sSet, sSetO, sDrop, sNext, sRaise, sFrz, gTest, gBin, gUn, gC, gNl, gB, gAnd, gOr, gNot, gIf, gTru, aNil, aCons, gCall, gChain, gIsi, gSeq, gRg1, gRg2, sFor, tgN, gYes, sAsg, tg2, tg3, sPar, gSl, oSo, oNo, gEnum, gZip, gZipM, gR1, gR2, gLRg, gTRg, gLCnt, gLIdx, isW]
theorem lawris_tup {ds : List PyData} (hn : ds.all nd = true) (hl : ds.length ≤ 100000) (hs : SeqAt.shaped (.tuple ds) = true) (many : Int) : m__law_is_rising [.tuple ds, .int many] = .ok (.bool (isR ds many 99)) := by
  show (h__law_is_rising [some (.d (.tuple ds)), some (.d (.int many)), none]).rs = _
  unfold h__law_is_rising isR
  by_cases h1 : 1 ≤ ds.length
  · by_cases h2 : (ds.length : Int) ≤ many
    · have h1' : (1 : Int) ≤ ds.length := by omega
      have e0 : s__law_is_rising_0 [some (.d (.tuple ds)), some (.d (.int many)), none] = .nx [some (.d (.tuple ds)), some (.d (.int many)), none] := by
        simp [s__law_is_rising_0, b_ok, b_err, b_bad, o_ok, o_err, n_ok, sSeq_K, seqK_nx, seqK_rt, seqK_er, v_d, v_Rd, v_Ro, v_Fo, v_Fi, v_Fb, v_Fs, v_Ft, v_Fn, f_o, f_d, a_i, a_b, a_l, a_sl, a_st, l_i, l_b, l_s, l_t, l_n, t_b, t_l, t_t, p_add, p_addT, p_addL, p_sub, p_mul, p_mod, p_div, p_pow, p_lt, p_le, p_gt, p_ge, p_min, p_max, p_lenL, p_lenT, p_tupL, p_tupT, p_lstL, p_lstT, p_ixL, p_ixT, p_slL, p_slT, p_eq, p_ne, p_isN, p_isNotN, r_1, r_2, c_k, c_j, i_non, i_bl, i_int, i_str, i_lst, i_tup, gTup_b, gLst_b, mkT_ok, mkL_ok, sap, sit, itK_ok, sex, exK_ok, sre, reK_ok, p_srtL, p_srtT, p_sumL, p_sumT, rs_rt, rs_nx, rs_er, p_inT, p_ninT, p_inL, shp_i, shp_b, shp_n, shp_T, shp_L, eqv_T, eqv_I, sIf, sRet, sSet, sSetO, sDrop, sNext, sRaise, sFrz, gTest, gBin, gUn, gC, gNl, gB, gAnd, gOr, gNot, gIf, gTru, aNil, aCons, gCall, gChain, gIsi, gSeq, gRg1, gRg2, sFor, tgN, gYes, sAsg, tg2, tg3, sPar, gSl, oSo, oNo, gEnum, gZip, gZipM, gR1, gR2, gLRg, gTRg, gLCnt, gLIdx, h2, h1']
      rw [q_nx e0]
      have e1 : gLc [2] (gSeq (gVar 0)) (tgN 2) (gNot (gTru (gCall m__law_in (aCons (gVar 2) (aCons (gC (.int 1)) (aCons (gC (.int 99)) aNil)))))) (gVar 2) [some (.d (.tuple ds)), some (.d (.int many)), none] = .ok (.list ((ds.filter fun d => !isW d 1 99).map id)) := by
        refine gLc_eq _ _ rfl hl fun d hd => ⟨_, rfl, ?_, fun _ => rfl⟩
        have hd' := in_ok (List.all_eq_true.mp hn d hd) 1 99
        simp [b_ok, b_err, b_bad, o_ok, o_err, n_ok, sSeq_K, seqK_nx, seqK_rt, seqK_er, v_d, v_Rd, v_Ro, v_Fo, v_Fi, v_Fb, v_Fs, v_Ft, v_Fn, f_o, f_d, a_i, a_b, a_l, a_sl, a_st, l_i, l_b, l_s, l_t, l_n, t_b, t_l, t_t, p_add, p_addT, p_addL, p_sub, p_mul, p_mod, p_div, p_pow, p_lt, p_le, p_gt, p_ge, p_min, p_max, p_lenL, p_lenT, p_tupL, p_tupT, p_lstL, p_lstT, p_ixL, p_ixT, p_slL, p_slT, p_eq, p_ne, p_isN, p_isNotN, r_1, r_2, c_k, c_j, i_non, i_bl, i_int, i_str, i_lst, i_tup, gTup_b, gLst_b, mkT_ok, mkL_ok, sap, sit, itK_ok, sex, exK_ok, sre, reK_ok, p_srtL, p_srtT, p_sumL, p_sumT, rs_rt, rs_nx, rs_er, p_inT, p_ninT, p_inL, shp_i, shp_b, shp_n, shp_T, shp_L, eqv_T, eqv_I, sIf, sRet, sSet, sSetO, sDrop, sNext, sRaise, sFrz, gTest, gBin, gUn, gC, gNl, gB, gAnd, gOr, gNot, gIf, gTru, aNil, aCons, gCall, gChain, gIsi, gSeq, gRg1, gRg2, sFor, tgN, gYes, sAsg, tg2, tg3, sPar, gSl, oSo, oNo, gEnum, gZip, gZipM, gR1, gR2, gLRg, gTRg, gLCnt, gLIdx, wipeS, hd']
      rw [List.map_id] at e1
      have sf := shp_filter hs fun d => !isW d 1 99
      by_cases h3 : ds.all (isW · 1 99) = true
      · obtain ⟨xs, rfl, hx⟩ := all_isW h3
        have e2 : ((xs.map PyData.int).filter fun d => !isW d 1 99) = [] := by
          rw [List.filter_eq_nil_iff]
          intro d hd
          rw [List.all_eq_true.mp h3 d hd]
          exact Bool.false_ne_true
        rw [e2] at e1
        rw [List.length_map] at h1 h2
        have sN := shp_nilL
        have eN := eqv_nilL []
        simp only [List.isEmpty_nil] at eN
        simp [s__law_is_rising_1, b_ok, b_err, b_bad, o_ok, o_err, n_ok, sSeq_K, seqK_nx, seqK_rt, seqK_er, v_d, v_Rd, v_Ro, v_Fo, v_Fi, v_Fb, v_Fs, v_Ft, v_Fn, f_o, f_d, a_i, a_b, a_l, a_sl, a_st, l_i, l_b, l_s, l_t, l_n, t_b, t_l, t_t, p_add, p_addT, p_addL, p_sub, p_mul, p_mod, p_div, p_pow, p_lt, p_le, p_gt, p_ge, p_min, p_max, p_lenL, p_lenT, p_tupL, p_tupT, p_lstL, p_lstT, p_ixL, p_ixT, p_slL, p_slT, p_eq, p_ne, p_isN, p_isNotN, r_1, r_2, c_k, c_j, i_non, i_bl, i_int, i_str, i_lst, i_tup, gTup_b, gLst_b, mkT_ok, mkL_ok, sap, sit, itK_ok, sex, exK_ok, sre, reK_ok, p_srtL, p_srtT, p_sumL, p_sumT, rs_rt, rs_nx, rs_er, p_inT, p_ninT, p_inL, shp_i, shp_b, shp_n, shp_T, shp_L, eqv_T, eqv_I, sIf, sRet, sSet, sSetO, sDrop, sNext, sRaise, sFrz, gTest, gBin, gUn, gC, gNl, gB, gAnd, gOr, gNot, gIf, gTru, aNil, aCons, gCall, gChain, gIsi, gSeq, gRg1, gRg2, sFor, tgN, gYes, sAsg, tg2, tg3, sPar, gSl, oSo, oNo, gEnum, gZip, gZipM, gR1, gR2, gLRg, gTRg, gLCnt, gLIdx, e1, sN, eN, asInts_ints, h1, h2, isW_ints.mp h3, eqv_LL, sortI_eq]
        intro _ x hx'
        simpa [isW] using hx x hx'
      · obtain ⟨d, hd, hw⟩ : ∃ d ∈ ds, isW d 1 99 = false := by
          rw [List.all_eq_true] at h3
          simpa using h3
        have ne : (ds.filter fun d => !isW d 1 99).isEmpty = false := by
          rw [List.isEmpty_eq_false_iff_exists_mem]
          exact ⟨d, List.mem_filter.mpr ⟨hd, by rw [hw]; rfl⟩⟩
        have eN := eqv_nilL (ds.filter fun d => !isW d 1 99)
        rw [ne] at eN
        have sN := shp_nilL
        simp only [Bool.not_eq_true] at h3
        have pe : pEq (.list (ds.filter fun d => !isW d 1 99)) (.list []) = .ok (.bool false) := by rw [p_eq sf sN, eN]
        simp only [s__law_is_rising_1, b_ok, b_err, b_bad, o_ok, o_err, n_ok, sSeq_K, seqK_nx, seqK_rt, seqK_er, v_d, v_Rd, v_Ro, v_Fo, v_Fi, v_Fb, v_Fs, v_Ft, v_Fn, f_o, f_d, a_i, a_b, a_l, a_sl, a_st, l_i, l_b, l_s, l_t, l_n, t_b, t_l, t_t, p_add, p_addT, p_addL, p_sub, p_mul, p_mod, p_div, p_pow, p_lt, p_le, p_gt, p_ge, p_min, p_max, p_lenL, p_lenT, p_tupL, p_tupT, p_lstL, p_lstT, p_ixL, p_ixT, p_slL, p_slT, p_eq, p_ne, p_isN, p_isNotN, r_1, r_2, c_k, c_j, i_non, i_bl, i_int, i_str, i_lst, i_tup, gTup_b, gLst_b, mkT_ok, mkL_ok, sap, sit, itK_ok, sex, exK_ok, sre, reK_ok, p_srtL, p_srtT, p_sumL, p_sumT, rs_rt, rs_nx, rs_er, p_inT, p_ninT, p_inL, shp_i, shp_b, shp_n, shp_T, shp_L, eqv_T, eqv_I, sIf, sRet, sSet, sSetO, sDrop, sNext, sRaise, sFrz, gTest, gBin, gUn, gC, gNl, gB, gAnd, gOr, gNot, gIf, gTru, aNil, aCons, gCall, gChain, gIsi, gSeq, gRg1, gRg2, sFor, tgN, gYes, sAsg, tg2, tg3, sPar, gSl, oSo, oNo, gEnum, gZip, gZipM, gR1, gR2, gLRg, gTRg, gLCnt, gLIdx, e1]
        have mk0 : mkL [] = .ok (.list []) := rfl
        simp [mk0, b_ok, b_err, b_bad, o_ok, o_err, n_ok, sSeq_K, seqK_nx, seqK_rt, seqK_er, v_d, v_Rd, v_Ro, v_Fo, v_Fi, v_Fb, v_Fs, v_Ft, v_Fn, f_o, f_d, a_i, a_b, a_l, a_sl, a_st, l_i, l_b, l_s, l_t, l_n, t_b, t_l, t_t, p_add, p_addT, p_addL, p_sub, p_mul, p_mod, p_div, p_pow, p_lt, p_le, p_gt, p_ge, p_min, p_max, p_lenL, p_lenT, p_tupL, p_tupT, p_lstL, p_lstT, p_ixL, p_ixT, p_slL, p_slT, p_eq, p_ne, p_isN, p_isNotN, r_1, r_2, c_k, c_j, i_non, i_bl, i_int, i_str, i_lst, i_tup, gTup_b, gLst_b, mkT_ok, mkL_ok, sap, sit, itK_ok, sex, exK_ok, sre, reK_ok, p_srtL, p_srtT, p_sumL, p_sumT, rs_rt, rs_nx, rs_er, p_inT, p_ninT, p_inL, shp_i, shp_b, shp_n, shp_T, shp_L, eqv_T, eqv_I, sIf, sRet, sSet, sSetO, sDrop, sNext, sRaise, sFrz, gTest, gBin, gUn, gC, gNl, gB, gAnd, gOr, gNot, gIf, gTru, aNil, aCons, gCall, gChain, gIsi, gSeq, gRg1, gRg2, sFor, tgN, gYes, sAsg, tg2, tg3, sPar, gSl, oSo, oNo, gEnum, gZip, gZipM, gR1, gR2, gLRg, gTRg, gLCnt, gLIdx, pe, h3]
    · have e0 : s__law_is_rising_0 [some (.d (.tuple ds)), some (.d (.int many)), none] = .rt (.bool false) := by
        simp [s__law_is_rising_0, b_ok, b_err, b_bad, o_ok, o_err, n_ok, sSeq_K, seqK_nx, seqK_rt, seqK_er, v_d, v_Rd, v_Ro, v_Fo, v_Fi, v_Fb, v_Fs, v_Ft, v_Fn, f_o, f_d, a_i, a_b, a_l, a_sl, a_st, l_i, l_b, l_s, l_t, l_n, t_b, t_l, t_t, p_add, p_addT, p_addL, p_sub, p_mul, p_mod, p_div, p_pow, p_lt, p_le, p_gt, p_ge, p_min, p_max, p_lenL, p_lenT, p_tupL, p_tupT, p_lstL, p_lstT, p_ixL, p_ixT, p_slL, p_slT, p_eq, p_ne, p_isN, p_isNotN, r_1, r_2, c_k, c_j, i_non, i_bl, i_int, i_str, i_lst, i_tup, gTup_b, gLst_b, mkT_ok, mkL_ok, sap, sit, itK_ok, sex, exK_ok, sre, reK_ok, p_srtL, p_srtT, p_sumL, p_sumT, rs_rt, rs_nx, rs_er, p_inT, p_ninT, p_inL, shp_i, shp_b, shp_n, shp_T, shp_L, eqv_T, eqv_I, sIf, sRet, sSet, sSetO, sDrop, sNext, sRaise, sFrz, gTest, gBin, gUn, gC, gNl, gB, gAnd, gOr, gNot, gIf, gTru, aNil, aCons, gCall, gChain, gIsi, gSeq, gRg1, gRg2, sFor, tgN, gYes, sAsg, tg2, tg3, sPar, gSl, oSo, oNo, gEnum, gZip, gZipM, gR1, gR2, gLRg, gTRg, gLCnt, gLIdx, h2]
      rw [q_rt e0]
      simp [h2, b_ok, b_err, b_bad, o_ok, o_err, n_ok, sSeq_K, seqK_nx, seqK_rt, seqK_er, v_d, v_Rd, v_Ro, v_Fo, v_Fi, v_Fb, v_Fs, v_Ft, v_Fn, f_o, f_d, a_i, a_b, a_l, a_sl, a_st, l_i, l_b, l_s, l_t, l_n, t_b, t_l, t_t, p_add, p_addT, p_addL, p_sub, p_mul, p_mod, p_div, p_pow, p_lt, p_le, p_gt, p_ge, p_min, p_max, p_lenL, p_lenT, p_tupL, p_tupT, p_lstL, p_lstT, p_ixL, p_ixT, p_slL, p_slT, p_eq, p_ne, p_isN, p_isNotN, r_1, r_2, c_k, c_j, i_non, i_bl, i_int, i_str, i_lst, i_tup, gTup_b, gLst_b, mkT_ok, mkL_ok, sap, sit, itK_ok, sex, exK_ok, sre, reK_ok, p_srtL, p_srtT, p_sumL, p_sumT, rs_rt, rs_nx, rs_er, p_inT, p_ninT, p_inL, shp_i, shp_b, shp_n, shp_T, shp_L, eqv_T, eqv_I, sIf, sRet, sSet, sSetO, sDrop, sNext, sRaise, sFrz, gTest, gBin, gUn, gC, gNl, gB, gAnd, gOr, gNot, gIf, gTru, aNil, aCons, gCall, gChain, gIsi, gSeq, gRg1, gRg2, sFor, tgN, gYes, sAsg, tg2, tg3, sPar, gSl, oSo, oNo, gEnum, gZip, gZipM, gR1, gR2, gLRg, gTRg, gLCnt, gLIdx]
  · have e0 : s__law_is_rising_0 [some (.d (.tuple ds)), some (.d (.int many)), none] = .rt (.bool false) := by
      have : ds = [] := List.eq_nil_of_length_eq_zero (by omega)
      subst this
      simp [s__law_is_rising_0, b_ok, b_err, b_bad, o_ok, o_err, n_ok, sSeq_K, seqK_nx, seqK_rt, seqK_er, v_d, v_Rd, v_Ro, v_Fo, v_Fi, v_Fb, v_Fs, v_Ft, v_Fn, f_o, f_d, a_i, a_b, a_l, a_sl, a_st, l_i, l_b, l_s, l_t, l_n, t_b, t_l, t_t, p_add, p_addT, p_addL, p_sub, p_mul, p_mod, p_div, p_pow, p_lt, p_le, p_gt, p_ge, p_min, p_max, p_lenL, p_lenT, p_tupL, p_tupT, p_lstL, p_lstT, p_ixL, p_ixT, p_slL, p_slT, p_eq, p_ne, p_isN, p_isNotN, r_1, r_2, c_k, c_j, i_non, i_bl, i_int, i_str, i_lst, i_tup, gTup_b, gLst_b, mkT_ok, mkL_ok, sap, sit, itK_ok, sex, exK_ok, sre, reK_ok, p_srtL, p_srtT, p_sumL, p_sumT, rs_rt, rs_nx, rs_er, p_inT, p_ninT, p_inL, shp_i, shp_b, shp_n, shp_T, shp_L, eqv_T, eqv_I, sIf, sRet, sSet, sSetO, sDrop, sNext, sRaise, sFrz, gTest, gBin, gUn, gC, gNl, gB, gAnd, gOr, gNot, gIf, gTru, aNil, aCons, gCall, gChain, gIsi, gSeq, gRg1, gRg2, sFor, tgN, gYes, sAsg, tg2, tg3, sPar, gSl, oSo, oNo, gEnum, gZip, gZipM, gR1, gR2, gLRg, gTRg, gLCnt, gLIdx]
    rw [q_rt e0]
    simp [h1, b_ok, b_err, b_bad, o_ok, o_err, n_ok, sSeq_K, seqK_nx, seqK_rt, seqK_er, v_d, v_Rd, v_Ro, v_Fo, v_Fi, v_Fb, v_Fs, v_Ft, v_Fn, f_o, f_d, a_i, a_b, a_l, a_sl, a_st, l_i, l_b, l_s, l_t, l_n, t_b, t_l, t_t, p_add, p_addT, p_addL, p_sub, p_mul, p_mod, p_div, p_pow, p_lt, p_le, p_gt, p_ge, p_min, p_max, p_lenL, p_lenT, p_tupL, p_tupT, p_lstL, p_lstT, p_ixL, p_ixT, p_slL, p_slT, p_eq, p_ne, p_isN, p_isNotN, r_1, r_2, c_k, c_j, i_non, i_bl, i_int, i_str, i_lst, i_tup, gTup_b, gLst_b, mkT_ok, mkL_ok, sap, sit, itK_ok, sex, exK_ok, sre, reK_ok, p_srtL, p_srtT, p_sumL, p_sumT, rs_rt, rs_nx, rs_er, p_inT, p_ninT, p_inL, shp_i, shp_b, shp_n, shp_T, shp_L, eqv_T, eqv_I, sIf, sRet, sSet, sSetO, sDrop, sNext, sRaise, sFrz, gTest, gBin, gUn, gC, gNl, gB, gAnd, gOr, gNot, gIf, gTru, aNil, aCons, gCall, gChain, gIsi, gSeq, gRg1, gRg2, sFor, tgN, gYes, sAsg, tg2, tg3, sPar, gSl, oSo, oNo, gEnum, gZip, gZipM, gR1, gR2, gLRg, gTRg, gLCnt, gLIdx]
theorem lawris_no {x : PyData} (hx : notT x = true) (many : Int) : m__law_is_rising [x, .int many] = .ok (.bool false) := by
  show (h__law_is_rising [some (.d x), some (.d (.int many)), none]).rs = _
  unfold h__law_is_rising
  have e0 : s__law_is_rising_0 [some (.d x), some (.d (.int many)), none] = .rt (.bool false) := by
    cases x with
    | tuple ds => cases hx
    | dict kv => cases hx
    | _ => simp [s__law_is_rising_0, b_ok, b_err, b_bad, o_ok, o_err, n_ok, sSeq_K, seqK_nx, seqK_rt, seqK_er, v_d, v_Rd, v_Ro, v_Fo, v_Fi, v_Fb, v_Fs, v_Ft, v_Fn, f_o, f_d, a_i, a_b, a_l, a_sl, a_st, l_i, l_b, l_s, l_t, l_n, t_b, t_l, t_t, p_add, p_addT, p_addL, p_sub, p_mul, p_mod, p_div, p_pow, p_lt, p_le, p_gt, p_ge, p_min, p_max, p_lenL, p_lenT, p_tupL, p_tupT, p_lstL, p_lstT, p_ixL, p_ixT, p_slL, p_slT, p_eq, p_ne, p_isN, p_isNotN, r_1, r_2, c_k, c_j, i_non, i_bl, i_int, i_str, i_lst, i_tup, gTup_b, gLst_b, mkT_ok, mkL_ok, sap, sit, itK_ok, sex, exK_ok, sre, reK_ok, p_srtL, p_srtT, p_sumL, p_sumT, rs_rt, rs_nx, rs_er, p_inT, p_ninT, p_inL, shp_i, shp_b, shp_n, shp_T, shp_L, eqv_T, eqv_I, sIf, sRet, sSet, sSetO, sDrop, sNext, sRaise, sFrz, gTest, gBin, gUn, gC, gNl, gB, gAnd, gOr, gNot, gIf, gTru, aNil, aCons, gCall, gChain, gIsi, gSeq, gRg1, gRg2, sFor, tgN, gYes, sAsg, tg2, tg3, sPar, gSl, oSo, oNo, gEnum, gZip, gZipM, gR1, gR2, gLRg, gTRg, gLCnt, gLIdx]
  rw [q_rt e0]
  rfl
end SBL

namespace SBL
open PySem SB
/-! ### dealings -/
structure PcOk (xs : List Int) : Prop where
  one : 1 ≤ xs.length
  len : xs.length ≤ 13
  rng : ∀ x ∈ xs, 1 ≤ x ∧ x ≤ 99
  srt : xs.Pairwise (· ≤ ·)
def isPc : PyData → Bool
  | .tuple ds => isR ds 13 99
  | _ => false
/-- a thing that may be asked about -/
def fineL (l : PyData) : Prop := nd l = true ∧ ∀ ds, l = .tuple ds → ds.all nd = true ∧ ds.length ≤ 100000 ∧ SeqAt.shaped (.tuple ds) = true
theorem notT_of {l : PyData} (h : nd l = true) (hn : ∀ ds, l ≠ .tuple ds) : notT l = true := by
  cases l with
  | tuple ds => exact absurd rfl (hn ds)
  | dict kv => cases h
  | _ => rfl
theorem arep_ok {l : PyData} (h : fineL l) : m_are_pieces [l] = .ok (.bool (isPc l)) := by
  show (h_are_pieces [some (.d l)]).rs = _
  cases l with
  | tuple ds =>
    obtain ⟨h1, h2, _⟩ := h.2 ds rfl
    simp [h_are_pieces, s_are_pieces_0, b_ok, b_err, b_bad, o_ok, o_err, n_ok, sSeq_K, seqK_nx, seqK_rt, seqK_er, v_d, v_Rd, v_Ro, v_Fo, v_Fi, v_Fb, v_Fs, v_Ft, v_Fn, f_o, f_d, a_i, a_b, a_l, a_sl, a_st, l_i, l_b, l_s, l_t, l_n, t_b, t_l, t_t, p_add, p_addT, p_addL, p_sub, p_mul, p_mod, p_div, p_pow, p_lt, p_le, p_gt, p_ge, p_min, p_max, p_lenL, p_lenT, p_tupL, p_tupT, p_lstL, p_lstT, p_ixL, p_ixT, p_slL, p_slT, p_eq, p_ne, p_isN, p_isNotN, r_1, r_2, c_k, c_j, i_non, i_bl, i_int, i_str, i_lst, i_tup, gTup_b, gLst_b, mkT_ok, mkL_ok, sap, sit, itK_ok, sex, exK_ok, sre, reK_ok, p_srtL, p_srtT, p_sumL, p_sumT, rs_rt, rs_nx, rs_er, p_inT, p_ninT, p_inL, shp_i, shp_b, shp_n, shp_T, shp_L, eqv_T, eqv_I, sIf, sRet, sSet, sSetO, sDrop, sNext, sRaise, sFrz, gTest, gBin, gUn, gC, gNl, gB, gAnd, gOr, gNot, gIf, gTru, aNil, aCons, gCall, gChain, gIsi, gSeq, gRg1, gRg2, sFor, tgN, gYes, sAsg, tg2, tg3, sPar, gSl, oSo, oNo, gEnum, gZip, gZipM, gR1, gR2, gLRg, gTRg, gLCnt, gLIdx, rising_tup h1 h2 13 99, isPc]
  | dict kv => cases h.1
  | _ =>
    have e := rising_no (notT_of h.1 fun ds z => nomatch z) 13 99
    simp [h_are_pieces, s_are_pieces_0, b_ok, b_err, b_bad, o_ok, o_err, n_ok, sSeq_K, seqK_nx, seqK_rt, seqK_er, v_d, v_Rd, v_Ro, v_Fo, v_Fi, v_Fb, v_Fs, v_Ft, v_Fn, f_o, f_d, a_i, a_b, a_l, a_sl, a_st, l_i, l_b, l_s, l_t, l_n, t_b, t_l, t_t, p_add, p_addT, p_addL, p_sub, p_mul, p_mod, p_div, p_pow, p_lt, p_le, p_gt, p_ge, p_min, p_max, p_lenL, p_lenT, p_tupL, p_tupT, p_lstL, p_lstT, p_ixL, p_ixT, p_slL, p_slT, p_eq, p_ne, p_isN, p_isNotN, r_1, r_2, c_k, c_j, i_non, i_bl, i_int, i_str, i_lst, i_tup, gTup_b, gLst_b, mkT_ok, mkL_ok, sap, sit, itK_ok, sex, exK_ok, sre, reK_ok, p_srtL, p_srtT, p_sumL, p_sumT, rs_rt, rs_nx, rs_er, p_inT, p_ninT, p_inL, shp_i, shp_b, shp_n, shp_T, shp_L, eqv_T, eqv_I, sIf, sRet, sSet, sSetO, sDrop, sNext, sRaise, sFrz, gTest, gBin, gUn, gC, gNl, gB, gAnd, gOr, gNot, gIf, gTru, aNil, aCons, gCall, gChain, gIsi, gSeq, gRg1, gRg2, sFor, tgN, gYes, sAsg, tg2, tg3, sPar, gSl, oSo, oNo, gEnum, gZip, gZipM, gR1, gR2, gLRg, gTRg, gLCnt, gLIdx, e, isPc]
theorem lawr_ok {l : PyData} (h : fineL l) : m__law_is_rising [l, .int 13] = .ok (.bool (isPc l)) := by
  cases l with
  | tuple ds =>
    obtain ⟨h1, h2, h3⟩ := h.2 ds rfl
    exact lawris_tup h1 h2 h3 13
  | dict kv => cases h.1
  | _ => exact lawris_no rfl 13
theorem isPc_ints {l : PyData} (h : isPc l = true) : ∃ xs : List Int, l = .tuple (xs.map PyData.int) ∧ PcOk xs := by
  cases l with
  | tuple ds =>
    have h : isR ds 13 99 = true := h
    have h' := h
    unfold isR at h'
    simp only [Bool.and_eq_true] at h'
    obtain ⟨xs, rfl, _⟩ := all_isW h'.2.1
    obtain ⟨⟨a, b⟩, c, d⟩ := isR_ints.mp h
    exact ⟨xs, rfl, a, by omega, c, d⟩
  | _ => cases h
theorem isPc_of {xs : List Int} (h : PcOk xs) : isPc (.tuple (xs.map PyData.int)) = true := isR_ints.mpr ⟨⟨h.one, by have := h.len; omega⟩, h.rng, h.srt⟩
def lotI (l : PyData) : List Int := match l with
  | .tuple ds => (asInts ds).getD []
  | _ => []
theorem lotI_ints (xs : List Int) : lotI (.tuple (xs.map PyData.int)) = xs := by
  show (asInts (xs.map PyData.int)).getD [] = xs
  rw [asInts_ints]; rfl
def walk : List PyData → List Int → List Int → Option (List Int)
  | l :: ls, s :: ss, acc => if isPc l = true ∧ (lotI l).sum = s then walk ls ss (acc ++ lotI l) else none
  | _, _, acc => some acc
theorem walk_cons (l : PyData) (ls : List PyData) (s : Int) (ss acc : List Int) : walk (l :: ls) (s :: ss) acc = if isPc l = true ∧ (lotI l).sum = s then walk ls ss (acc ++ lotI l) else none := rfl
theorem walk_all : ∀ {ls : List PyData} {ss acc acc' : List Int}, ls.length = ss.length → walk ls ss acc = some acc' → ls.all isPc = true
  | [], _, _, _, _, _ => rfl
  | l :: ls, [], _, _, h, _ => by simp at h
  | l :: ls, s :: ss, acc, acc', h, e => by
    unfold walk at e
    by_cases hc : isPc l = true ∧ (lotI l).sum = s
    · rw [if_pos hc] at e
      rw [List.all_cons, hc.1, walk_all (by simpa using h) e]; rfl
    · rw [if_neg hc] at e; cases e
def endW (o : Option (List Int)) (k : List Int → Ot) : Ot := match o with
  | some acc => k acc
  | none => .rt (.bool false)
theorem law_loop (P S T : Cl) : ∀ (ls : List PyData) (ss acc : List Int) (a b : Option Cl), (∀ l ∈ ls, fineL l) → acc.length + 13 * ls.length ≤ 10000 → ∃ a' b' : List Int → Option Cl,
    forLoop (tg2 4 5) b__law_is_dealing_0 (zipD ls (ss.map PyData.int)) [some P, some S, some T, some (.d (.list (acc.map PyData.int))), a, b] = endW (walk ls ss acc) fun acc' => .nx [some P, some S, some T, some (.d (.list (acc'.map PyData.int))), a' acc', b' acc']
  | [], ss, acc, a, b, _, _ => ⟨fun _ => a, fun _ => b, rfl⟩
  | l :: ls, [], acc, a, b, _, _ => ⟨fun _ => a, fun _ => b, rfl⟩
  | l :: ls, s :: ss, acc, a, b, hf, hl => by
    have fl := hf l List.mem_cons_self
    have lr := lawr_ok fl
    have ez : zipD (l :: ls) ((s :: ss).map PyData.int) = .tuple [l, .int s] :: zipD ls (ss.map PyData.int) := rfl
    have hset : tg2 4 5 (.tuple [l, .int s]) [some P, some S, some T, some (.d (.list (acc.map PyData.int))), a, b] = some [some P, some S, some T, some (.d (.list (acc.map PyData.int))), some (.d l), some (.d (.int s))] := rfl
    rw [ez, forLoop_cons hset]
    by_cases hc : isPc l = true
    · obtain ⟨xs, rfl, hx⟩ := isPc_ints hc
      rw [hc] at lr
      by_cases hs : xs.sum = s
      · obtain ⟨a', b', ih⟩ := law_loop P S T ls ss (acc ++ xs) (some (.d (.tuple (xs.map PyData.int)))) (some (.d (.int s))) (fun l hl => hf l (List.mem_cons_of_mem _ hl)) (by have := hx.len; rw [List.length_append]; simp at hl; omega)
        refine ⟨a', b', ?_⟩
        have e : b__law_is_dealing_0 [some P, some S, some T, some (.d (.list (acc.map PyData.int))), some (.d (.tuple (xs.map PyData.int))), some (.d (.int s))] = .nx [some P, some S, some T, some (.d (.list ((acc ++ xs).map PyData.int))), some (.d (.tuple (xs.map PyData.int))), some (.d (.int s))] := by
          have hl2 : acc.length + xs.length ≤ 100000 := by have := hx.len; simp at hl; omega
          simp [b__law_is_dealing_0, b_ok, b_err, b_bad, o_ok, o_err, n_ok, sSeq_K, seqK_nx, seqK_rt, seqK_er, v_d, v_Rd, v_Ro, v_Fo, v_Fi, v_Fb, v_Fs, v_Ft, v_Fn, f_o, f_d, a_i, a_b, a_l, a_sl, a_st, l_i, l_b, l_s, l_t, l_n, t_b, t_l, t_t, p_add, p_addT, p_addL, p_sub, p_mul, p_mod, p_div, p_pow, p_lt, p_le, p_gt, p_ge, p_min, p_max, p_lenL, p_lenT, p_tupL, p_tupT, p_lstL, p_lstT, p_ixL, p_ixT, p_slL, p_slT, p_eq, p_ne, p_isN, p_isNotN, r_1, r_2, c_k, c_j, i_non, i_bl, i_int, i_str, i_lst, i_tup, gTup_b, gLst_b, mkT_ok, mkL_ok, sap, sit, itK_ok, sex, exK_ok, sre, reK_ok, p_srtL, p_srtT, p_sumL, p_sumT, rs_rt, rs_nx, rs_er, p_inT, p_ninT, p_inL, shp_i, shp_b, shp_n, shp_T, shp_L, eqv_T, eqv_I, sIf, sRet, sSet, sSetO, sDrop, sNext, sRaise, sFrz, gTest, gBin, gUn, gC, gNl, gB, gAnd, gOr, gNot, gIf, gTru, aNil, aCons, gCall, gChain, gIsi, gSeq, gRg1, gRg2, sFor, tgN, gYes, sAsg, tg2, tg3, sPar, gSl, oSo, oNo, gEnum, gZip, gZipM, gR1, gR2, gLRg, gTRg, gLCnt, gLIdx, lr, hs, hl2]
        rw [e, seqK_nx, ih]
        rw [walk_cons, if_pos ⟨hc, by rw [lotI_ints]; exact hs⟩, lotI_ints]
      · refine ⟨fun _ => none, fun _ => none, ?_⟩
        have e : b__law_is_dealing_0 [some P, some S, some T, some (.d (.list (acc.map PyData.int))), some (.d (.tuple (xs.map PyData.int))), some (.d (.int s))] = .rt (.bool false) := by
          simp [b__law_is_dealing_0, b_ok, b_err, b_bad, o_ok, o_err, n_ok, sSeq_K, seqK_nx, seqK_rt, seqK_er, v_d, v_Rd, v_Ro, v_Fo, v_Fi, v_Fb, v_Fs, v_Ft, v_Fn, f_o, f_d, a_i, a_b, a_l, a_sl, a_st, l_i, l_b, l_s, l_t, l_n, t_b, t_l, t_t, p_add, p_addT, p_addL, p_sub, p_mul, p_mod, p_div, p_pow, p_lt, p_le, p_gt, p_ge, p_min, p_max, p_lenL, p_lenT, p_tupL, p_tupT, p_lstL, p_lstT, p_ixL, p_ixT, p_slL, p_slT, p_eq, p_ne, p_isN, p_isNotN, r_1, r_2, c_k, c_j, i_non, i_bl, i_int, i_str, i_lst, i_tup, gTup_b, gLst_b, mkT_ok, mkL_ok, sap, sit, itK_ok, sex, exK_ok, sre, reK_ok, p_srtL, p_srtT, p_sumL, p_sumT, rs_rt, rs_nx, rs_er, p_inT, p_ninT, p_inL, shp_i, shp_b, shp_n, shp_T, shp_L, eqv_T, eqv_I, sIf, sRet, sSet, sSetO, sDrop, sNext, sRaise, sFrz, gTest, gBin, gUn, gC, gNl, gB, gAnd, gOr, gNot, gIf, gTru, aNil, aCons, gCall, gChain, gIsi, gSeq, gRg1, gRg2, sFor, tgN, gYes, sAsg, tg2, tg3, sPar, gSl, oSo, oNo, gEnum, gZip, gZipM, gR1, gR2, gLRg, gTRg, gLCnt, gLIdx, lr, hs]
        rw [e, seqK_rt]
        rw [walk_cons, if_neg (fun z => hs (by rw [← lotI_ints xs]; exact z.2))]
        rfl
    · refine ⟨fun _ => none, fun _ => none, ?_⟩
      simp only [Bool.not_eq_true] at hc
      rw [hc] at lr
      have e : b__law_is_dealing_0 [some P, some S, some T, some (.d (.list (acc.map PyData.int))), some (.d l), some (.d (.int s))] = .rt (.bool false) := by
        simp [b__law_is_dealing_0, b_ok, b_err, b_bad, o_ok, o_err, n_ok, sSeq_K, seqK_nx, seqK_rt, seqK_er, v_d, v_Rd, v_Ro, v_Fo, v_Fi, v_Fb, v_Fs, v_Ft, v_Fn, f_o, f_d, a_i, a_b, a_l, a_sl, a_st, l_i, l_b, l_s, l_t, l_n, t_b, t_l, t_t, p_add, p_addT, p_addL, p_sub, p_mul, p_mod, p_div, p_pow, p_lt, p_le, p_gt, p_ge, p_min, p_max, p_lenL, p_lenT, p_tupL, p_tupT, p_lstL, p_lstT, p_ixL, p_ixT, p_slL, p_slT, p_eq, p_ne, p_isN, p_isNotN, r_1, r_2, c_k, c_j, i_non, i_bl, i_int, i_str, i_lst, i_tup, gTup_b, gLst_b, mkT_ok, mkL_ok, sap, sit, itK_ok, sex, exK_ok, sre, reK_ok, p_srtL, p_srtT, p_sumL, p_sumT, rs_rt, rs_nx, rs_er, p_inT, p_ninT, p_inL, shp_i, shp_b, shp_n, shp_T, shp_L, eqv_T, eqv_I, sIf, sRet, sSet, sSetO, sDrop, sNext, sRaise, sFrz, gTest, gBin, gUn, gC, gNl, gB, gAnd, gOr, gNot, gIf, gTru, aNil, aCons, gCall, gChain, gIsi, gSeq, gRg1, gRg2, sFor, tgN, gYes, sAsg, tg2, tg3, sPar, gSl, oSo, oNo, gEnum, gZip, gZipM, gR1, gR2, gLRg, gTRg, gLCnt, gLIdx, lr]
      rw [e, seqK_rt]
      rw [walk_cons, if_neg (fun z => by rw [hc] at z; exact Bool.false_ne_true z.1)]
      rfl
theorem own_loop (P S T : Cl) : ∀ (ls : List PyData) (ss acc : List Int) (a b : Option Cl), ls.all isPc = true → acc.length + 13 * ls.length ≤ 10000 → ∃ a' b' : List Int → Option Cl,
    forLoop (tg2 4 5) b_is_dealing_0 (zipD ls (ss.map PyData.int)) [some P, some S, some T, some (.own (acc.map PyData.int)), a, b] = endW (walk ls ss acc) fun acc' => .nx [some P, some S, some T, some (.own (acc'.map PyData.int)), a' acc', b' acc']
  | [], ss, acc, a, b, _, _ => ⟨fun _ => a, fun _ => b, rfl⟩
  | l :: ls, [], acc, a, b, _, _ => ⟨fun _ => a, fun _ => b, rfl⟩
  | l :: ls, s :: ss, acc, a, b, hf, hl => by
    rw [List.all_cons, Bool.and_eq_true] at hf
    obtain ⟨hc, hf⟩ := hf
    have ez : zipD (l :: ls) ((s :: ss).map PyData.int) = .tuple [l, .int s] :: zipD ls (ss.map PyData.int) := rfl
    have hset : tg2 4 5 (.tuple [l, .int s]) [some P, some S, some T, some (.own (acc.map PyData.int)), a, b] = some [some P, some S, some T, some (.own (acc.map PyData.int)), some (.d l), some (.d (.int s))] := rfl
    rw [ez, forLoop_cons hset]
    obtain ⟨xs, rfl, hx⟩ := isPc_ints hc
    by_cases hs : xs.sum = s
    · obtain ⟨a', b', ih⟩ := own_loop P S T ls ss (acc ++ xs) (some (.d (.tuple (xs.map PyData.int)))) (some (.d (.int s))) hf (by have := hx.len; rw [List.length_append]; simp at hl; omega)
      refine ⟨a', b', ?_⟩
      have e : b_is_dealing_0 [some P, some S, some T, some (.own (acc.map PyData.int)), some (.d (.tuple (xs.map PyData.int))), some (.d (.int s))] = .nx [some P, some S, some T, some (.own ((acc ++ xs).map PyData.int)), some (.d (.tuple (xs.map PyData.int))), some (.d (.int s))] := by
        have hl2 : acc.length + xs.length ≤ 100000 := by have := hx.len; simp at hl; omega
        simp [b_is_dealing_0, b_ok, b_err, b_bad, o_ok, o_err, n_ok, sSeq_K, seqK_nx, seqK_rt, seqK_er, v_d, v_Rd, v_Ro, v_Fo, v_Fi, v_Fb, v_Fs, v_Ft, v_Fn, f_o, f_d, a_i, a_b, a_l, a_sl, a_st, l_i, l_b, l_s, l_t, l_n, t_b, t_l, t_t, p_add, p_addT, p_addL, p_sub, p_mul, p_mod, p_div, p_pow, p_lt, p_le, p_gt, p_ge, p_min, p_max, p_lenL, p_lenT, p_tupL, p_tupT, p_lstL, p_lstT, p_ixL, p_ixT, p_slL, p_slT, p_eq, p_ne, p_isN, p_isNotN, r_1, r_2, c_k, c_j, i_non, i_bl, i_int, i_str, i_lst, i_tup, gTup_b, gLst_b, mkT_ok, mkL_ok, sap, sit, itK_ok, sex, exK_ok, sre, reK_ok, p_srtL, p_srtT, p_sumL, p_sumT, rs_rt, rs_nx, rs_er, p_inT, p_ninT, p_inL, shp_i, shp_b, shp_n, shp_T, shp_L, eqv_T, eqv_I, sIf, sRet, sSet, sSetO, sDrop, sNext, sRaise, sFrz, gTest, gBin, gUn, gC, gNl, gB, gAnd, gOr, gNot, gIf, gTru, aNil, aCons, gCall, gChain, gIsi, gSeq, gRg1, gRg2, sFor, tgN, gYes, sAsg, tg2, tg3, sPar, gSl, oSo, oNo, gEnum, gZip, gZipM, gR1, gR2, gLRg, gTRg, gLCnt, gLIdx, hs, hl2]
      rw [e, seqK_nx, ih]
      rw [walk_cons, if_pos ⟨hc, by rw [lotI_ints]; exact hs⟩, lotI_ints]
    · refine ⟨fun _ => none, fun _ => none, ?_⟩
      have e : b_is_dealing_0 [some P, some S, some T, some (.own (acc.map PyData.int)), some (.d (.tuple (xs.map PyData.int))), some (.d (.int s))] = .rt (.bool false) := by
        simp [b_is_dealing_0, b_ok, b_err, b_bad, o_ok, o_err, n_ok, sSeq_K, seqK_nx, seqK_rt, seqK_er, v_d, v_Rd, v_Ro, v_Fo, v_Fi, v_Fb, v_Fs, v_Ft, v_Fn, f_o, f_d, a_i, a_b, a_l, a_sl, a_st, l_i, l_b, l_s, l_t, l_n, t_b, t_l, t_t, p_add, p_addT, p_addL, p_sub, p_mul, p_mod, p_div, p_pow, p_lt, p_le, p_gt, p_ge, p_min, p_max, p_lenL, p_lenT, p_tupL, p_tupT, p_lstL, p_lstT, p_ixL, p_ixT, p_slL, p_slT, p_eq, p_ne, p_isN, p_isNotN, r_1, r_2, c_k, c_j, i_non, i_bl, i_int, i_str, i_lst, i_tup, gTup_b, gLst_b, mkT_ok, mkL_ok, sap, sit, itK_ok, sex, exK_ok, sre, reK_ok, p_srtL, p_srtT, p_sumL, p_sumT, rs_rt, rs_nx, rs_er, p_inT, p_ninT, p_inL, shp_i, shp_b, shp_n, shp_T, shp_L, eqv_T, eqv_I, sIf, sRet, sSet, sSetO, sDrop, sNext, sRaise, sFrz, gTest, gBin, gUn, gC, gNl, gB, gAnd, gOr, gNot, gIf, gTru, aNil, aCons, gCall, gChain, gIsi, gSeq, gRg1, gRg2, sFor, tgN, gYes, sAsg, tg2, tg3, sPar, gSl, oSo, oNo, gEnum, gZip, gZipM, gR1, gR2, gLRg, gTRg, gLCnt, gLIdx, hs]
      rw [e, seqK_rt]
      rw [walk_cons, if_neg (fun z => hs (by rw [← lotI_ints xs]; exact z.2))]
      rfl
def fine (t : PyData) : Prop := nd t = true ∧ ∀ ls, t = .list ls → ls.length ≤ 100 ∧ ∀ l ∈ ls, fineL l
def tailB (ps : List Int) (o : Option (List Int)) : Bool := match o with
  | some acc => decide (sortI acc = ps)
  | none => false
def dealB (ps ss : List Int) (t : PyData) : Bool := match t with
  | .list ls => decide (ls.length = ss.length) && tailB ps (walk ls ss [])
  | _ => false
theorem dealB_list (ps ss : List Int) (ls : List PyData) : dealB ps ss (.list ls) = (decide (ls.length = ss.length) && tailB ps (walk ls ss [])) := rfl
theorem lawd_ok (ps ss : List Int) {t : PyData} (h : fine t) : m__law_is_dealing [.tuple (ps.map PyData.int), .tuple (ss.map PyData.int), t] = .ok (.bool (dealB ps ss t)) := by
  show (h__law_is_dealing [some (.d (.tuple (ps.map PyData.int))), some (.d (.tuple (ss.map PyData.int))), some (.d t), none, none, none]).rs = _
  unfold h__law_is_dealing
  cases t with
  | list ls =>
    obtain ⟨h1, h2⟩ := h.2 ls rfl
    by_cases hl : ls.length = ss.length
    · have e0 : s__law_is_dealing_0 [some (.d (.tuple (ps.map PyData.int))), some (.d (.tuple (ss.map PyData.int))), some (.d (.list ls)), none, none, none] = .nx [some (.d (.tuple (ps.map PyData.int))), some (.d (.tuple (ss.map PyData.int))), some (.d (.list ls)), none, none, none] := by
        simp [s__law_is_dealing_0, b_ok, b_err, b_bad, o_ok, o_err, n_ok, sSeq_K, seqK_nx, seqK_rt, seqK_er, v_d, v_Rd, v_Ro, v_Fo, v_Fi, v_Fb, v_Fs, v_Ft, v_Fn, f_o, f_d, a_i, a_b, a_l, a_sl, a_st, l_i, l_b, l_s, l_t, l_n, t_b, t_l, t_t, p_add, p_addT, p_addL, p_sub, p_mul, p_mod, p_div, p_pow, p_lt, p_le, p_gt, p_ge, p_min, p_max, p_lenL, p_lenT, p_tupL, p_tupT, p_lstL, p_lstT, p_ixL, p_ixT, p_slL, p_slT, p_eq, p_ne, p_isN, p_isNotN, r_1, r_2, c_k, c_j, i_non, i_bl, i_int, i_str, i_lst, i_tup, gTup_b, gLst_b, mkT_ok, mkL_ok, sap, sit, itK_ok, sex, exK_ok, sre, reK_ok, p_srtL, p_srtT, p_sumL, p_sumT, rs_rt, rs_nx, rs_er, p_inT, p_ninT, p_inL, shp_i, shp_b, shp_n, shp_T, shp_L, eqv_T, eqv_I, sIf, sRet, sSet, sSetO, sDrop, sNext, sRaise, sFrz, gTest, gBin, gUn, gC, gNl, gB, gAnd, gOr, gNot, gIf, gTru, aNil, aCons, gCall, gChain, gIsi, gSeq, gRg1, gRg2, sFor, tgN, gYes, sAsg, tg2, tg3, sPar, gSl, oSo, oNo, gEnum, gZip, gZipM, gR1, gR2, gLRg, gTRg, gLCnt, gLIdx, hl]
      rw [q_nx e0, q_nx (a := s__law_is_dealing_1) (ρ' := [some (.d (.tuple (ps.map PyData.int))), some (.d (.tuple (ss.map PyData.int))), some (.d (.list ls)), some (.d (.list [])), none, none]) rfl]
      obtain ⟨a', b', e⟩ := law_loop (.d (.tuple (ps.map PyData.int))) (.d (.tuple (ss.map PyData.int))) (.d (.list ls)) ls ss [] none none h2 (by simp; omega)
      have e2 : s__law_is_dealing_2 [some (.d (.tuple (ps.map PyData.int))), some (.d (.tuple (ss.map PyData.int))), some (.d (.list ls)), some (.d (.list [])), none, none] = endW (walk ls ss []) fun acc' => .nx [some (.d (.tuple (ps.map PyData.int))), some (.d (.tuple (ss.map PyData.int))), some (.d (.list ls)), some (.d (.list (acc'.map PyData.int))), a' acc', b' acc'] := e
      rw [dealB_list]
      cases hw : walk ls ss [] with
      | none =>
        rw [hw] at e2
        have e2 : s__law_is_dealing_2 [some (.d (.tuple (ps.map PyData.int))), some (.d (.tuple (ss.map PyData.int))), some (.d (.list ls)), some (.d (.list [])), none, none] = .rt (.bool false) := e2
        rw [q_rt e2]
        simp [b_ok, b_err, b_bad, o_ok, o_err, n_ok, sSeq_K, seqK_nx, seqK_rt, seqK_er, v_d, v_Rd, v_Ro, v_Fo, v_Fi, v_Fb, v_Fs, v_Ft, v_Fn, f_o, f_d, a_i, a_b, a_l, a_sl, a_st, l_i, l_b, l_s, l_t, l_n, t_b, t_l, t_t, p_add, p_addT, p_addL, p_sub, p_mul, p_mod, p_div, p_pow, p_lt, p_le, p_gt, p_ge, p_min, p_max, p_lenL, p_lenT, p_tupL, p_tupT, p_lstL, p_lstT, p_ixL, p_ixT, p_slL, p_slT, p_eq, p_ne, p_isN, p_isNotN, r_1, r_2, c_k, c_j, i_non, i_bl, i_int, i_str, i_lst, i_tup, gTup_b, gLst_b, mkT_ok, mkL_ok, sap, sit, itK_ok, sex, exK_ok, sre, reK_ok, p_srtL, p_srtT, p_sumL, p_sumT, rs_rt, rs_nx, rs_er, p_inT, p_ninT, p_inL, shp_i, shp_b, shp_n, shp_T, shp_L, eqv_T, eqv_I, sIf, sRet, sSet, sSetO, sDrop, sNext, sRaise, sFrz, gTest, gBin, gUn, gC, gNl, gB, gAnd, gOr, gNot, gIf, gTru, aNil, aCons, gCall, gChain, gIsi, gSeq, gRg1, gRg2, sFor, tgN, gYes, sAsg, tg2, tg3, sPar, gSl, oSo, oNo, gEnum, gZip, gZipM, gR1, gR2, gLRg, gTRg, gLCnt, gLIdx, tailB]
      | some acc =>
        rw [hw] at e2
        have e2 : s__law_is_dealing_2 [some (.d (.tuple (ps.map PyData.int))), some (.d (.tuple (ss.map PyData.int))), some (.d (.list ls)), some (.d (.list [])), none, none] = .nx [some (.d (.tuple (ps.map PyData.int))), some (.d (.tuple (ss.map PyData.int))), some (.d (.list ls)), some (.d (.list (acc.map PyData.int))), a' acc, b' acc] := e2
        rw [q_nx e2]
        simp [s__law_is_dealing_3, b_ok, b_err, b_bad, o_ok, o_err, n_ok, sSeq_K, seqK_nx, seqK_rt, seqK_er, v_d, v_Rd, v_Ro, v_Fo, v_Fi, v_Fb, v_Fs, v_Ft, v_Fn, f_o, f_d, a_i, a_b, a_l, a_sl, a_st, l_i, l_b, l_s, l_t, l_n, t_b, t_l, t_t, p_add, p_addT, p_addL, p_sub, p_mul, p_mod, p_div, p_pow, p_lt, p_le, p_gt, p_ge, p_min, p_max, p_lenL, p_lenT, p_tupL, p_tupT, p_lstL, p_lstT, p_ixL, p_ixT, p_slL, p_slT, p_eq, p_ne, p_isN, p_isNotN, r_1, r_2, c_k, c_j, i_non, i_bl, i_int, i_str, i_lst, i_tup, gTup_b, gLst_b, mkT_ok, mkL_ok, sap, sit, itK_ok, sex, exK_ok, sre, reK_ok, p_srtL, p_srtT, p_sumL, p_sumT, rs_rt, rs_nx, rs_er, p_inT, p_ninT, p_inL, shp_i, shp_b, shp_n, shp_T, shp_L, eqv_T, eqv_I, sIf, sRet, sSet, sSetO, sDrop, sNext, sRaise, sFrz, gTest, gBin, gUn, gC, gNl, gB, gAnd, gOr, gNot, gIf, gTru, aNil, aCons, gCall, gChain, gIsi, gSeq, gRg1, gRg2, sFor, tgN, gYes, sAsg, tg2, tg3, sPar, gSl, oSo, oNo, gEnum, gZip, gZipM, gR1, gR2, gLRg, gTRg, gLCnt, gLIdx, hl, eqv_LL, tailB]
    · have hl' : ¬ (ls.length : Int) = ss.length := by omega
      have e0 : s__law_is_dealing_0 [some (.d (.tuple (ps.map PyData.int))), some (.d (.tuple (ss.map PyData.int))), some (.d (.list ls)), none, none, none] = .rt (.bool false) := by
        simp [s__law_is_dealing_0, b_ok, b_err, b_bad, o_ok, o_err, n_ok, sSeq_K, seqK_nx, seqK_rt, seqK_er, v_d, v_Rd, v_Ro, v_Fo, v_Fi, v_Fb, v_Fs, v_Ft, v_Fn, f_o, f_d, a_i, a_b, a_l, a_sl, a_st, l_i, l_b, l_s, l_t, l_n, t_b, t_l, t_t, p_add, p_addT, p_addL, p_sub, p_mul, p_mod, p_div, p_pow, p_lt, p_le, p_gt, p_ge, p_min, p_max, p_lenL, p_lenT, p_tupL, p_tupT, p_lstL, p_lstT, p_ixL, p_ixT, p_slL, p_slT, p_eq, p_ne, p_isN, p_isNotN, r_1, r_2, c_k, c_j, i_non, i_bl, i_int, i_str, i_lst, i_tup, gTup_b, gLst_b, mkT_ok, mkL_ok, sap, sit, itK_ok, sex, exK_ok, sre, reK_ok, p_srtL, p_srtT, p_sumL, p_sumT, rs_rt, rs_nx, rs_er, p_inT, p_ninT, p_inL, shp_i, shp_b, shp_n, shp_T, shp_L, eqv_T, eqv_I, sIf, sRet, sSet, sSetO, sDrop, sNext, sRaise, sFrz, gTest, gBin, gUn, gC, gNl, gB, gAnd, gOr, gNot, gIf, gTru, aNil, aCons, gCall, gChain, gIsi, gSeq, gRg1, gRg2, sFor, tgN, gYes, sAsg, tg2, tg3, sPar, gSl, oSo, oNo, gEnum, gZip, gZipM, gR1, gR2, gLRg, gTRg, gLCnt, gLIdx, hl, hl']
      rw [q_rt e0]
      simp [dealB, hl, b_ok, b_err, b_bad, o_ok, o_err, n_ok, sSeq_K, seqK_nx, seqK_rt, seqK_er, v_d, v_Rd, v_Ro, v_Fo, v_Fi, v_Fb, v_Fs, v_Ft, v_Fn, f_o, f_d, a_i, a_b, a_l, a_sl, a_st, l_i, l_b, l_s, l_t, l_n, t_b, t_l, t_t, p_add, p_addT, p_addL, p_sub, p_mul, p_mod, p_div, p_pow, p_lt, p_le, p_gt, p_ge, p_min, p_max, p_lenL, p_lenT, p_tupL, p_tupT, p_lstL, p_lstT, p_ixL, p_ixT, p_slL, p_slT, p_eq, p_ne, p_isN, p_isNotN, r_1, r_2, c_k, c_j, i_non, i_bl, i_int, i_str, i_lst, i_tup, gTup_b, gLst_b, mkT_ok, mkL_ok, sap, sit, itK_ok, sex, exK_ok, sre, reK_ok, p_srtL, p_srtT, p_sumL, p_sumT, rs_rt, rs_nx, rs_er, p_inT, p_ninT, p_inL, shp_i, shp_b, shp_n, shp_T, shp_L, eqv_T, eqv_I, sIf, sRet, sSet, sSetO, sDrop, sNext, sRaise, sFrz, gTest, gBin, gUn, gC, gNl, gB, gAnd, gOr, gNot, gIf, gTru, aNil, aCons, gCall, gChain, gIsi, gSeq, gRg1, gRg2, sFor, tgN, gYes, sAsg, tg2, tg3, sPar, gSl, oSo, oNo, gEnum, gZip, gZipM, gR1, gR2, gLRg, gTRg, gLCnt, gLIdx]
  | dict kv => cases h.1
  | _ =>
    rw [q_rt (d := .bool false) (by simp [s__law_is_dealing_0, b_ok, b_err, b_bad, o_ok, o_err, n_ok, sSeq_K, seqK_nx, seqK_rt, seqK_er, v_d, v_Rd, v_Ro, v_Fo, v_Fi, v_Fb, v_Fs, v_Ft, v_Fn, f_o, f_d, a_i, a_b, a_l, a_sl, a_st, l_i, l_b, l_s, l_t, l_n, t_b, t_l, t_t, p_add, p_addT, p_addL, p_sub, p_mul, p_mod, p_div, p_pow, p_lt, p_le, p_gt, p_ge, p_min, p_max, p_lenL, p_lenT, p_tupL, p_tupT, p_lstL, p_lstT, p_ixL, p_ixT, p_slL, p_slT, p_eq, p_ne, p_isN, p_isNotN, r_1, r_2, c_k, c_j, i_non, i_bl, i_int, i_str, i_lst, i_tup, gTup_b, gLst_b, mkT_ok, mkL_ok, sap, sit, itK_ok, sex, exK_ok, sre, reK_ok, p_srtL, p_srtT, p_sumL, p_sumT, rs_rt, rs_nx, rs_er, p_inT, p_ninT, p_inL, shp_i, shp_b, shp_n, shp_T, shp_L, eqv_T, eqv_I, sIf, sRet, sSet, sSetO, sDrop, sNext, sRaise, sFrz, gTest, gBin, gUn, gC, gNl, gB, gAnd, gOr, gNot, gIf, gTru, aNil, aCons, gCall, gChain, gIsi, gSeq, gRg1, gRg2, sFor, tgN, gYes, sAsg, tg2, tg3, sPar, gSl, oSo, oNo, gEnum, gZip, gZipM, gR1, gR2, gLRg, gTRg, gLCnt, gLIdx])]
    rfl
end SBL

namespace SBL
open PySem SB
structure LsOk (xs : List Int) : Prop where
  one : 1 ≤ xs.length
  len : xs.length ≤ 7
  rng : ∀ x ∈ xs, 1 ≤ x ∧ x ≤ 99
  srt : xs.Pairwise (· ≤ ·)
theorem le_sum : ∀ {xs : List Int}, PosL xs → ∀ x ∈ xs, x ≤ xs.sum
  | [], _, x, h => nomatch h
  | y :: ys, hp, x, h => by
    have h0 : 0 ≤ ys.sum := by
      clear h
      have : ∀ zs : List Int, PosL zs → 0 ≤ zs.sum := fun zs => by
        induction zs with
        | nil => intro _; simp
        | cons z zs ih =>
          intro hz
          have := ih fun x hx => hz x (List.mem_cons_of_mem _ hx)
          have := hz z List.mem_cons_self
          rw [List.sum_cons]; omega
      exact this ys fun x hx => hp x (List.mem_cons_of_mem _ hx)
    have hy := hp y List.mem_cons_self
    rw [List.sum_cons]
    rcases List.mem_cons.mp h with rfl | h
    · omega
    · have := le_sum (fun x hx => hp x (List.mem_cons_of_mem _ hx)) x h
      omega
theorem lsOk_of {xs : List Int} {total : Int} {most : Nat} (h : LOk xs total most) (h7 : most ≤ 7) (ht : total ≤ 99) : LsOk xs :=
  ⟨h.one, by have := h.len; omega, fun x hx => ⟨h.pos x hx, by have := le_sum h.pos x hx; rw [h.sum] at this; omega⟩, h.srt⟩
theorem look_yes {xs : List Int} (h : PcOk xs) : m_look_pieces [.tuple (xs.map PyData.int)] = .ok .none := by
  show (h_look_pieces [some (.d (.tuple (xs.map PyData.int)))]).rs = _
  have e : m_are_pieces [.tuple (xs.map PyData.int)] = .ok (.bool true) := by
    show (h_are_pieces [some (.d (.tuple (xs.map PyData.int)))]).rs = _
    have e := rising_tup (nd_ints xs) (by rw [List.length_map]; have := h.len; omega) 13 99
    have e2 : isR (xs.map PyData.int) 13 99 = true := isR_ints.mpr ⟨⟨h.one, by have := h.len; omega⟩, h.rng, h.srt⟩
    rw [e2] at e
    simp [h_are_pieces, s_are_pieces_0, b_ok, b_err, b_bad, o_ok, o_err, n_ok, sSeq_K, seqK_nx, seqK_rt, seqK_er, v_d, v_Rd, v_Ro, v_Fo, v_Fi, v_Fb, v_Fs, v_Ft, v_Fn, f_o, f_d, a_i, a_b, a_l, a_sl, a_st, l_i, l_b, l_s, l_t, l_n, t_b, t_l, t_t, p_add, p_addT, p_addL, p_sub, p_mul, p_mod, p_div, p_pow, p_lt, p_le, p_gt, p_ge, p_min, p_max, p_lenL, p_lenT, p_tupL, p_tupT, p_lstL, p_lstT, p_ixL, p_ixT, p_slL, p_slT, p_eq, p_ne, p_isN, p_isNotN, r_1, r_2, c_k, c_j, i_non, i_bl, i_int, i_str, i_lst, i_tup, gTup_b, gLst_b, mkT_ok, mkL_ok, sap, sit, itK_ok, sex, exK_ok, sre, reK_ok, p_srtL, p_srtT, p_sumL, p_sumT, rs_rt, rs_nx, rs_er, p_inT, p_ninT, p_inL, shp_i, shp_b, shp_n, shp_T, shp_L, eqv_T, eqv_I, sIf, sRet, sSet, sSetO, sDrop, sNext, sRaise, sFrz, gTest, gBin, gUn, gC, gNl, gB, gAnd, gOr, gNot, gIf, gTru, aNil, aCons, gCall, gChain, gIsi, gSeq, gRg1, gRg2, sFor, tgN, gYes, sAsg, tg2, tg3, sPar, gSl, oSo, oNo, gEnum, gZip, gZipM, gR1, gR2, gLRg, gTRg, gLCnt, gLIdx, e]
  simp [h_look_pieces, s_look_pieces_0, b_ok, b_err, b_bad, o_ok, o_err, n_ok, sSeq_K, seqK_nx, seqK_rt, seqK_er, v_d, v_Rd, v_Ro, v_Fo, v_Fi, v_Fb, v_Fs, v_Ft, v_Fn, f_o, f_d, a_i, a_b, a_l, a_sl, a_st, l_i, l_b, l_s, l_t, l_n, t_b, t_l, t_t, p_add, p_addT, p_addL, p_sub, p_mul, p_mod, p_div, p_pow, p_lt, p_le, p_gt, p_ge, p_min, p_max, p_lenL, p_lenT, p_tupL, p_tupT, p_lstL, p_lstT, p_ixL, p_ixT, p_slL, p_slT, p_eq, p_ne, p_isN, p_isNotN, r_1, r_2, c_k, c_j, i_non, i_bl, i_int, i_str, i_lst, i_tup, gTup_b, gLst_b, mkT_ok, mkL_ok, sap, sit, itK_ok, sex, exK_ok, sre, reK_ok, p_srtL, p_srtT, p_sumL, p_sumT, rs_rt, rs_nx, rs_er, p_inT, p_ninT, p_inL, shp_i, shp_b, shp_n, shp_T, shp_L, eqv_T, eqv_I, sIf, sRet, sSet, sSetO, sDrop, sNext, sRaise, sFrz, gTest, gBin, gUn, gC, gNl, gB, gAnd, gOr, gNot, gIf, gTru, aNil, aCons, gCall, gChain, gIsi, gSeq, gRg1, gRg2, sFor, tgN, gYes, sAsg, tg2, tg3, sPar, gSl, oSo, oNo, gEnum, gZip, gZipM, gR1, gR2, gLRg, gTRg, gLCnt, gLIdx, e]
theorem look_no {x : PyData} (h : m_is_rising [x, .int 13, .int 99] = .ok (.bool false)) : m_look_pieces [x] = .err 2 none := by
  show (h_look_pieces [some (.d x)]).rs = _
  have e : m_are_pieces [x] = .ok (.bool false) := by
    show (h_are_pieces [some (.d x)]).rs = _
    simp [h_are_pieces, s_are_pieces_0, b_ok, b_err, b_bad, o_ok, o_err, n_ok, sSeq_K, seqK_nx, seqK_rt, seqK_er, v_d, v_Rd, v_Ro, v_Fo, v_Fi, v_Fb, v_Fs, v_Ft, v_Fn, f_o, f_d, a_i, a_b, a_l, a_sl, a_st, l_i, l_b, l_s, l_t, l_n, t_b, t_l, t_t, p_add, p_addT, p_addL, p_sub, p_mul, p_mod, p_div, p_pow, p_lt, p_le, p_gt, p_ge, p_min, p_max, p_lenL, p_lenT, p_tupL, p_tupT, p_lstL, p_lstT, p_ixL, p_ixT, p_slL, p_slT, p_eq, p_ne, p_isN, p_isNotN, r_1, r_2, c_k, c_j, i_non, i_bl, i_int, i_str, i_lst, i_tup, gTup_b, gLst_b, mkT_ok, mkL_ok, sap, sit, itK_ok, sex, exK_ok, sre, reK_ok, p_srtL, p_srtT, p_sumL, p_sumT, rs_rt, rs_nx, rs_er, p_inT, p_ninT, p_inL, shp_i, shp_b, shp_n, shp_T, shp_L, eqv_T, eqv_I, sIf, sRet, sSet, sSetO, sDrop, sNext, sRaise, sFrz, gTest, gBin, gUn, gC, gNl, gB, gAnd, gOr, gNot, gIf, gTru, aNil, aCons, gCall, gChain, gIsi, gSeq, gRg1, gRg2, sFor, tgN, gYes, sAsg, tg2, tg3, sPar, gSl, oSo, oNo, gEnum, gZip, gZipM, gR1, gR2, gLRg, gTRg, gLCnt, gLIdx, h]
  simp [h_look_pieces, s_look_pieces_0, b_ok, b_err, b_bad, o_ok, o_err, n_ok, sSeq_K, seqK_nx, seqK_rt, seqK_er, v_d, v_Rd, v_Ro, v_Fo, v_Fi, v_Fb, v_Fs, v_Ft, v_Fn, f_o, f_d, a_i, a_b, a_l, a_sl, a_st, l_i, l_b, l_s, l_t, l_n, t_b, t_l, t_t, p_add, p_addT, p_addL, p_sub, p_mul, p_mod, p_div, p_pow, p_lt, p_le, p_gt, p_ge, p_min, p_max, p_lenL, p_lenT, p_tupL, p_tupT, p_lstL, p_lstT, p_ixL, p_ixT, p_slL, p_slT, p_eq, p_ne, p_isN, p_isNotN, r_1, r_2, c_k, c_j, i_non, i_bl, i_int, i_str, i_lst, i_tup, gTup_b, gLst_b, mkT_ok, mkL_ok, sap, sit, itK_ok, sex, exK_ok, sre, reK_ok, p_srtL, p_srtT, p_sumL, p_sumT, rs_rt, rs_nx, rs_er, p_inT, p_ninT, p_inL, shp_i, shp_b, shp_n, shp_T, shp_L, eqv_T, eqv_I, sIf, sRet, sSet, sSetO, sDrop, sNext, sRaise, sFrz, gTest, gBin, gUn, gC, gNl, gB, gAnd, gOr, gNot, gIf, gTru, aNil, aCons, gCall, gChain, gIsi, gSeq, gRg1, gRg2, sFor, tgN, gYes, sAsg, tg2, tg3, sPar, gSl, oSo, oNo, gEnum, gZip, gZipM, gR1, gR2, gLRg, gTRg, gLCnt, gLIdx, e]
theorem lookl_yes {xs : List Int} (h : LsOk xs) : m_look [.tuple (xs.map PyData.int)] = .ok .none := by
  show (h_look [some (.d (.tuple (xs.map PyData.int)))]).rs = _
  have e : m_is_list [.tuple (xs.map PyData.int)] = .ok (.bool true) := by
    show (h_is_list [some (.d (.tuple (xs.map PyData.int)))]).rs = _
    have e := rising_tup (nd_ints xs) (by rw [List.length_map]; have := h.len; omega) 7 99
    have e2 : isR (xs.map PyData.int) 7 99 = true := isR_ints.mpr ⟨⟨h.one, by have := h.len; omega⟩, h.rng, h.srt⟩
    rw [e2] at e
    simp [h_is_list, s_is_list_0, b_ok, b_err, b_bad, o_ok, o_err, n_ok, sSeq_K, seqK_nx, seqK_rt, seqK_er, v_d, v_Rd, v_Ro, v_Fo, v_Fi, v_Fb, v_Fs, v_Ft, v_Fn, f_o, f_d, a_i, a_b, a_l, a_sl, a_st, l_i, l_b, l_s, l_t, l_n, t_b, t_l, t_t, p_add, p_addT, p_addL, p_sub, p_mul, p_mod, p_div, p_pow, p_lt, p_le, p_gt, p_ge, p_min, p_max, p_lenL, p_lenT, p_tupL, p_tupT, p_lstL, p_lstT, p_ixL, p_ixT, p_slL, p_slT, p_eq, p_ne, p_isN, p_isNotN, r_1, r_2, c_k, c_j, i_non, i_bl, i_int, i_str, i_lst, i_tup, gTup_b, gLst_b, mkT_ok, mkL_ok, sap, sit, itK_ok, sex, exK_ok, sre, reK_ok, p_srtL, p_srtT, p_sumL, p_sumT, rs_rt, rs_nx, rs_er, p_inT, p_ninT, p_inL, shp_i, shp_b, shp_n, shp_T, shp_L, eqv_T, eqv_I, sIf, sRet, sSet, sSetO, sDrop, sNext, sRaise, sFrz, gTest, gBin, gUn, gC, gNl, gB, gAnd, gOr, gNot, gIf, gTru, aNil, aCons, gCall, gChain, gIsi, gSeq, gRg1, gRg2, sFor, tgN, gYes, sAsg, tg2, tg3, sPar, gSl, oSo, oNo, gEnum, gZip, gZipM, gR1, gR2, gLRg, gTRg, gLCnt, gLIdx, e]
  simp [h_look, s_look_0, b_ok, b_err, b_bad, o_ok, o_err, n_ok, sSeq_K, seqK_nx, seqK_rt, seqK_er, v_d, v_Rd, v_Ro, v_Fo, v_Fi, v_Fb, v_Fs, v_Ft, v_Fn, f_o, f_d, a_i, a_b, a_l, a_sl, a_st, l_i, l_b, l_s, l_t, l_n, t_b, t_l, t_t, p_add, p_addT, p_addL, p_sub, p_mul, p_mod, p_div, p_pow, p_lt, p_le, p_gt, p_ge, p_min, p_max, p_lenL, p_lenT, p_tupL, p_tupT, p_lstL, p_lstT, p_ixL, p_ixT, p_slL, p_slT, p_eq, p_ne, p_isN, p_isNotN, r_1, r_2, c_k, c_j, i_non, i_bl, i_int, i_str, i_lst, i_tup, gTup_b, gLst_b, mkT_ok, mkL_ok, sap, sit, itK_ok, sex, exK_ok, sre, reK_ok, p_srtL, p_srtT, p_sumL, p_sumT, rs_rt, rs_nx, rs_er, p_inT, p_ninT, p_inL, shp_i, shp_b, shp_n, shp_T, shp_L, eqv_T, eqv_I, sIf, sRet, sSet, sSetO, sDrop, sNext, sRaise, sFrz, gTest, gBin, gUn, gC, gNl, gB, gAnd, gOr, gNot, gIf, gTru, aNil, aCons, gCall, gChain, gIsi, gSeq, gRg1, gRg2, sFor, tgN, gYes, sAsg, tg2, tg3, sPar, gSl, oSo, oNo, gEnum, gZip, gZipM, gR1, gR2, gLRg, gTRg, gLCnt, gLIdx, e]
theorem both_yes {ps ss : List Int} (hp : PcOk ps) (hs : LsOk ss) (e : ps.sum = ss.sum) : m_look_both [.tuple (ps.map PyData.int), .tuple (ss.map PyData.int)] = .ok .none := by
  show (h_look_both [some (.d (.tuple (ps.map PyData.int))), some (.d (.tuple (ss.map PyData.int)))]).rs = _
  simp [h_look_both, s_look_both_0, s_look_both_1, s_look_both_2, b_ok, b_err, b_bad, o_ok, o_err, n_ok, sSeq_K, seqK_nx, seqK_rt, seqK_er, v_d, v_Rd, v_Ro, v_Fo, v_Fi, v_Fb, v_Fs, v_Ft, v_Fn, f_o, f_d, a_i, a_b, a_l, a_sl, a_st, l_i, l_b, l_s, l_t, l_n, t_b, t_l, t_t, p_add, p_addT, p_addL, p_sub, p_mul, p_mod, p_div, p_pow, p_lt, p_le, p_gt, p_ge, p_min, p_max, p_lenL, p_lenT, p_tupL, p_tupT, p_lstL, p_lstT, p_ixL, p_ixT, p_slL, p_slT, p_eq, p_ne, p_isN, p_isNotN, r_1, r_2, c_k, c_j, i_non, i_bl, i_int, i_str, i_lst, i_tup, gTup_b, gLst_b, mkT_ok, mkL_ok, sap, sit, itK_ok, sex, exK_ok, sre, reK_ok, p_srtL, p_srtT, p_sumL, p_sumT, rs_rt, rs_nx, rs_er, p_inT, p_ninT, p_inL, shp_i, shp_b, shp_n, shp_T, shp_L, eqv_T, eqv_I, sIf, sRet, sSet, sSetO, sDrop, sNext, sRaise, sFrz, gTest, gBin, gUn, gC, gNl, gB, gAnd, gOr, gNot, gIf, gTru, aNil, aCons, gCall, gChain, gIsi, gSeq, gRg1, gRg2, sFor, tgN, gYes, sAsg, tg2, tg3, sPar, gSl, oSo, oNo, gEnum, gZip, gZipM, gR1, gR2, gLRg, gTRg, gLCnt, gLIdx, look_yes hp, lookl_yes hs, e]
theorem both_no {x y : PyData} (h : m_is_rising [x, .int 13, .int 99] = .ok (.bool false)) : m_look_both [x, y] = .err 2 none := by
  show (h_look_both [some (.d x), some (.d y)]).rs = _
  simp [h_look_both, s_look_both_0, b_ok, b_err, b_bad, o_ok, o_err, n_ok, sSeq_K, seqK_nx, seqK_rt, seqK_er, v_d, v_Rd, v_Ro, v_Fo, v_Fi, v_Fb, v_Fs, v_Ft, v_Fn, f_o, f_d, a_i, a_b, a_l, a_sl, a_st, l_i, l_b, l_s, l_t, l_n, t_b, t_l, t_t, p_add, p_addT, p_addL, p_sub, p_mul, p_mod, p_div, p_pow, p_lt, p_le, p_gt, p_ge, p_min, p_max, p_lenL, p_lenT, p_tupL, p_tupT, p_lstL, p_lstT, p_ixL, p_ixT, p_slL, p_slT, p_eq, p_ne, p_isN, p_isNotN, r_1, r_2, c_k, c_j, i_non, i_bl, i_int, i_str, i_lst, i_tup, gTup_b, gLst_b, mkT_ok, mkL_ok, sap, sit, itK_ok, sex, exK_ok, sre, reK_ok, p_srtL, p_srtT, p_sumL, p_sumT, rs_rt, rs_nx, rs_er, p_inT, p_ninT, p_inL, shp_i, shp_b, shp_n, shp_T, shp_L, eqv_T, eqv_I, sIf, sRet, sSet, sSetO, sDrop, sNext, sRaise, sFrz, gTest, gBin, gUn, gC, gNl, gB, gAnd, gOr, gNot, gIf, gTru, aNil, aCons, gCall, gChain, gIsi, gSeq, gRg1, gRg2, sFor, tgN, gYes, sAsg, tg2, tg3, sPar, gSl, oSo, oNo, gEnum, gZip, gZipM, gR1, gR2, gLRg, gTRg, gLCnt, gLIdx, look_no h]
theorem deal_ok {ps ss : List Int} (hp : PcOk ps) (hs : LsOk ss) (e : ps.sum = ss.sum) {t : PyData} (h : fine t) : m_is_dealing [.tuple (ps.map PyData.int), .tuple (ss.map PyData.int), t] = .ok (.bool (dealB ps ss t)) := by
  show (h_is_dealing [some (.d (.tuple (ps.map PyData.int))), some (.d (.tuple (ss.map PyData.int))), some (.d t), none, none, none]).rs = _
  unfold h_is_dealing
  have e0 : s_is_dealing_0 [some (.d (.tuple (ps.map PyData.int))), some (.d (.tuple (ss.map PyData.int))), some (.d t), none, none, none] = .nx [some (.d (.tuple (ps.map PyData.int))), some (.d (.tuple (ss.map PyData.int))), some (.d t), none, none, none] := by
    simp [s_is_dealing_0, b_ok, b_err, b_bad, o_ok, o_err, n_ok, sSeq_K, seqK_nx, seqK_rt, seqK_er, v_d, v_Rd, v_Ro, v_Fo, v_Fi, v_Fb, v_Fs, v_Ft, v_Fn, f_o, f_d, a_i, a_b, a_l, a_sl, a_st, l_i, l_b, l_s, l_t, l_n, t_b, t_l, t_t, p_add, p_addT, p_addL, p_sub, p_mul, p_mod, p_div, p_pow, p_lt, p_le, p_gt, p_ge, p_min, p_max, p_lenL, p_lenT, p_tupL, p_tupT, p_lstL, p_lstT, p_ixL, p_ixT, p_slL, p_slT, p_eq, p_ne, p_isN, p_isNotN, r_1, r_2, c_k, c_j, i_non, i_bl, i_int, i_str, i_lst, i_tup, gTup_b, gLst_b, mkT_ok, mkL_ok, sap, sit, itK_ok, sex, exK_ok, sre, reK_ok, p_srtL, p_srtT, p_sumL, p_sumT, rs_rt, rs_nx, rs_er, p_inT, p_ninT, p_inL, shp_i, shp_b, shp_n, shp_T, shp_L, eqv_T, eqv_I, sIf, sRet, sSet, sSetO, sDrop, sNext, sRaise, sFrz, gTest, gBin, gUn, gC, gNl, gB, gAnd, gOr, gNot, gIf, gTru, aNil, aCons, gCall, gChain, gIsi, gSeq, gRg1, gRg2, sFor, tgN, gYes, sAsg, tg2, tg3, sPar, gSl, oSo, oNo, gEnum, gZip, gZipM, gR1, gR2, gLRg, gTRg, gLCnt, gLIdx, both_yes hp hs e]
  rw [q_nx e0]
  cases t with
  | list ls =>
    obtain ⟨h1, h2⟩ := h.2 ls rfl
    by_cases hl : ls.length = ss.length
    · have lc : gLc [4] (gSeq (gVar 2)) (tgN 4) (gNot (gTru (gCall m_are_pieces (aCons (gVar 4) aNil)))) (gVar 4) [some (.d (.tuple (ps.map PyData.int))), some (.d (.tuple (ss.map PyData.int))), some (.d (.list ls)), none, none, none] = .ok (.list ((ls.filter fun d => !isPc d).map id)) := by
        refine gLc_eq _ _ rfl (by omega) fun d hd => ⟨_, rfl, ?_, fun _ => rfl⟩
        simp [b_ok, b_err, b_bad, o_ok, o_err, n_ok, sSeq_K, seqK_nx, seqK_rt, seqK_er, v_d, v_Rd, v_Ro, v_Fo, v_Fi, v_Fb, v_Fs, v_Ft, v_Fn, f_o, f_d, a_i, a_b, a_l, a_sl, a_st, l_i, l_b, l_s, l_t, l_n, t_b, t_l, t_t, p_add, p_addT, p_addL, p_sub, p_mul, p_mod, p_div, p_pow, p_lt, p_le, p_gt, p_ge, p_min, p_max, p_lenL, p_lenT, p_tupL, p_tupT, p_lstL, p_lstT, p_ixL, p_ixT, p_slL, p_slT, p_eq, p_ne, p_isN, p_isNotN, r_1, r_2, c_k, c_j, i_non, i_bl, i_int, i_str, i_lst, i_tup, gTup_b, gLst_b, mkT_ok, mkL_ok, sap, sit, itK_ok, sex, exK_ok, sre, reK_ok, p_srtL, p_srtT, p_sumL, p_sumT, rs_rt, rs_nx, rs_er, p_inT, p_ninT, p_inL, shp_i, shp_b, shp_n, shp_T, shp_L, eqv_T, eqv_I, sIf, sRet, sSet, sSetO, sDrop, sNext, sRaise, sFrz, gTest, gBin, gUn, gC, gNl, gB, gAnd, gOr, gNot, gIf, gTru, aNil, aCons, gCall, gChain, gIsi, gSeq, gRg1, gRg2, sFor, tgN, gYes, sAsg, tg2, tg3, sPar, gSl, oSo, oNo, gEnum, gZip, gZipM, gR1, gR2, gLRg, gTRg, gLCnt, gLIdx, wipeS, arep_ok (h2 d hd)]
      rw [List.map_id] at lc
      rw [dealB_list]
      by_cases ha : ls.all isPc = true
      · have e2 : (ls.filter fun d => !isPc d) = [] := by
          rw [List.filter_eq_nil_iff]
          intro d hd
          rw [List.all_eq_true.mp ha d hd]
          exact Bool.false_ne_true
        rw [e2] at lc
        have e1 : s_is_dealing_1 [some (.d (.tuple (ps.map PyData.int))), some (.d (.tuple (ss.map PyData.int))), some (.d (.list ls)), none, none, none] = .nx [some (.d (.tuple (ps.map PyData.int))), some (.d (.tuple (ss.map PyData.int))), some (.d (.list ls)), none, none, none] := by
          simp [s_is_dealing_1, b_ok, b_err, b_bad, o_ok, o_err, n_ok, sSeq_K, seqK_nx, seqK_rt, seqK_er, v_d, v_Rd, v_Ro, v_Fo, v_Fi, v_Fb, v_Fs, v_Ft, v_Fn, f_o, f_d, a_i, a_b, a_l, a_sl, a_st, l_i, l_b, l_s, l_t, l_n, t_b, t_l, t_t, p_add, p_addT, p_addL, p_sub, p_mul, p_mod, p_div, p_pow, p_lt, p_le, p_gt, p_ge, p_min, p_max, p_lenL, p_lenT, p_tupL, p_tupT, p_lstL, p_lstT, p_ixL, p_ixT, p_slL, p_slT, p_eq, p_ne, p_isN, p_isNotN, r_1, r_2, c_k, c_j, i_non, i_bl, i_int, i_str, i_lst, i_tup, gTup_b, gLst_b, mkT_ok, mkL_ok, sap, sit, itK_ok, sex, exK_ok, sre, reK_ok, p_srtL, p_srtT, p_sumL, p_sumT, rs_rt, rs_nx, rs_er, p_inT, p_ninT, p_inL, shp_i, shp_b, shp_n, shp_T, shp_L, eqv_T, eqv_I, sIf, sRet, sSet, sSetO, sDrop, sNext, sRaise, sFrz, gTest, gBin, gUn, gC, gNl, gB, gAnd, gOr, gNot, gIf, gTru, aNil, aCons, gCall, gChain, gIsi, gSeq, gRg1, gRg2, sFor, tgN, gYes, sAsg, tg2, tg3, sPar, gSl, oSo, oNo, gEnum, gZip, gZipM, gR1, gR2, gLRg, gTRg, gLCnt, gLIdx, hl, lc]
        rw [q_nx e1, q_nx (a := s_is_dealing_2) (ρ' := [some (.d (.tuple (ps.map PyData.int))), some (.d (.tuple (ss.map PyData.int))), some (.d (.list ls)), some (.own []), none, none]) rfl]
        obtain ⟨a', b', ee⟩ := own_loop (.d (.tuple (ps.map PyData.int))) (.d (.tuple (ss.map PyData.int))) (.d (.list ls)) ls ss [] none none ha (by simp; omega)
        have e3 : s_is_dealing_3 [some (.d (.tuple (ps.map PyData.int))), some (.d (.tuple (ss.map PyData.int))), some (.d (.list ls)), some (.own []), none, none] = endW (walk ls ss []) fun acc' => .nx [some (.d (.tuple (ps.map PyData.int))), some (.d (.tuple (ss.map PyData.int))), some (.d (.list ls)), some (.own (acc'.map PyData.int)), a' acc', b' acc'] := ee
        cases hw : walk ls ss [] with
        | none =>
          rw [hw] at e3
          have e3 : s_is_dealing_3 [some (.d (.tuple (ps.map PyData.int))), some (.d (.tuple (ss.map PyData.int))), some (.d (.list ls)), some (.own []), none, none] = .rt (.bool false) := e3
          rw [q_rt e3]
          simp [b_ok, b_err, b_bad, o_ok, o_err, n_ok, sSeq_K, seqK_nx, seqK_rt, seqK_er, v_d, v_Rd, v_Ro, v_Fo, v_Fi, v_Fb, v_Fs, v_Ft, v_Fn, f_o, f_d, a_i, a_b, a_l, a_sl, a_st, l_i, l_b, l_s, l_t, l_n, t_b, t_l, t_t, p_add, p_addT, p_addL, p_sub, p_mul, p_mod, p_div, p_pow, p_lt, p_le, p_gt, p_ge, p_min, p_max, p_lenL, p_lenT, p_tupL, p_tupT, p_lstL, p_lstT, p_ixL, p_ixT, p_slL, p_slT, p_eq, p_ne, p_isN, p_isNotN, r_1, r_2, c_k, c_j, i_non, i_bl, i_int, i_str, i_lst, i_tup, gTup_b, gLst_b, mkT_ok, mkL_ok, sap, sit, itK_ok, sex, exK_ok, sre, reK_ok, p_srtL, p_srtT, p_sumL, p_sumT, rs_rt, rs_nx, rs_er, p_inT, p_ninT, p_inL, shp_i, shp_b, shp_n, shp_T, shp_L, eqv_T, eqv_I, sIf, sRet, sSet, sSetO, sDrop, sNext, sRaise, sFrz, gTest, gBin, gUn, gC, gNl, gB, gAnd, gOr, gNot, gIf, gTru, aNil, aCons, gCall, gChain, gIsi, gSeq, gRg1, gRg2, sFor, tgN, gYes, sAsg, tg2, tg3, sPar, gSl, oSo, oNo, gEnum, gZip, gZipM, gR1, gR2, gLRg, gTRg, gLCnt, gLIdx, tailB]
        | some acc =>
          rw [hw] at e3
          have e3 : s_is_dealing_3 [some (.d (.tuple (ps.map PyData.int))), some (.d (.tuple (ss.map PyData.int))), some (.d (.list ls)), some (.own []), none, none] = .nx [some (.d (.tuple (ps.map PyData.int))), some (.d (.tuple (ss.map PyData.int))), some (.d (.list ls)), some (.own (acc.map PyData.int)), a' acc, b' acc] := e3
          rw [q_nx e3]
          simp [s_is_dealing_4, b_ok, b_err, b_bad, o_ok, o_err, n_ok, sSeq_K, seqK_nx, seqK_rt, seqK_er, v_d, v_Rd, v_Ro, v_Fo, v_Fi, v_Fb, v_Fs, v_Ft, v_Fn, f_o, f_d, a_i, a_b, a_l, a_sl, a_st, l_i, l_b, l_s, l_t, l_n, t_b, t_l, t_t, p_add, p_addT, p_addL, p_sub, p_mul, p_mod, p_div, p_pow, p_lt, p_le, p_gt, p_ge, p_min, p_max, p_lenL, p_lenT, p_tupL, p_tupT, p_lstL, p_lstT, p_ixL, p_ixT, p_slL, p_slT, p_eq, p_ne, p_isN, p_isNotN, r_1, r_2, c_k, c_j, i_non, i_bl, i_int, i_str, i_lst, i_tup, gTup_b, gLst_b, mkT_ok, mkL_ok, sap, sit, itK_ok, sex, exK_ok, sre, reK_ok, p_srtL, p_srtT, p_sumL, p_sumT, rs_rt, rs_nx, rs_er, p_inT, p_ninT, p_inL, shp_i, shp_b, shp_n, shp_T, shp_L, eqv_T, eqv_I, sIf, sRet, sSet, sSetO, sDrop, sNext, sRaise, sFrz, gTest, gBin, gUn, gC, gNl, gB, gAnd, gOr, gNot, gIf, gTru, aNil, aCons, gCall, gChain, gIsi, gSeq, gRg1, gRg2, sFor, tgN, gYes, sAsg, tg2, tg3, sPar, gSl, oSo, oNo, gEnum, gZip, gZipM, gR1, gR2, gLRg, gTRg, gLCnt, gLIdx, hl, eqv_LL, tailB]
      · obtain ⟨d, hd, hw⟩ : ∃ d ∈ ls, isPc d = false := by
          rw [List.all_eq_true] at ha
          simpa using ha
        obtain ⟨f0, fr, ef⟩ : ∃ f0 fr, (ls.filter fun d => !isPc d) = f0 :: fr := by
          cases ef : (ls.filter fun d => !isPc d) with
          | nil =>
            have : d ∈ (ls.filter fun d => !isPc d) := List.mem_filter.mpr ⟨hd, by rw [hw]; rfl⟩
            rw [ef] at this
            exact nomatch this
          | cons f0 fr => exact ⟨f0, fr, rfl⟩
        rw [ef] at lc
        have e1 : s_is_dealing_1 [some (.d (.tuple (ps.map PyData.int))), some (.d (.tuple (ss.map PyData.int))), some (.d (.list ls)), none, none, none] = .rt (.bool false) := by
          simp [s_is_dealing_1, b_ok, b_err, b_bad, o_ok, o_err, n_ok, sSeq_K, seqK_nx, seqK_rt, seqK_er, v_d, v_Rd, v_Ro, v_Fo, v_Fi, v_Fb, v_Fs, v_Ft, v_Fn, f_o, f_d, a_i, a_b, a_l, a_sl, a_st, l_i, l_b, l_s, l_t, l_n, t_b, t_l, t_t, p_add, p_addT, p_addL, p_sub, p_mul, p_mod, p_div, p_pow, p_lt, p_le, p_gt, p_ge, p_min, p_max, p_lenL, p_lenT, p_tupL, p_tupT, p_lstL, p_lstT, p_ixL, p_ixT, p_slL, p_slT, p_eq, p_ne, p_isN, p_isNotN, r_1, r_2, c_k, c_j, i_non, i_bl, i_int, i_str, i_lst, i_tup, gTup_b, gLst_b, mkT_ok, mkL_ok, sap, sit, itK_ok, sex, exK_ok, sre, reK_ok, p_srtL, p_srtT, p_sumL, p_sumT, rs_rt, rs_nx, rs_er, p_inT, p_ninT, p_inL, shp_i, shp_b, shp_n, shp_T, shp_L, eqv_T, eqv_I, sIf, sRet, sSet, sSetO, sDrop, sNext, sRaise, sFrz, gTest, gBin, gUn, gC, gNl, gB, gAnd, gOr, gNot, gIf, gTru, aNil, aCons, gCall, gChain, gIsi, gSeq, gRg1, gRg2, sFor, tgN, gYes, sAsg, tg2, tg3, sPar, gSl, oSo, oNo, gEnum, gZip, gZipM, gR1, gR2, gLRg, gTRg, gLCnt, gLIdx, hl, lc]
        rw [q_rt e1]
        have : walk ls ss [] = none := by
          cases hw : walk ls ss [] with
          | none => rfl
          | some acc => exact absurd (walk_all hl hw) ha
        rw [this]
        simp [b_ok, b_err, b_bad, o_ok, o_err, n_ok, sSeq_K, seqK_nx, seqK_rt, seqK_er, v_d, v_Rd, v_Ro, v_Fo, v_Fi, v_Fb, v_Fs, v_Ft, v_Fn, f_o, f_d, a_i, a_b, a_l, a_sl, a_st, l_i, l_b, l_s, l_t, l_n, t_b, t_l, t_t, p_add, p_addT, p_addL, p_sub, p_mul, p_mod, p_div, p_pow, p_lt, p_le, p_gt, p_ge, p_min, p_max, p_lenL, p_lenT, p_tupL, p_tupT, p_lstL, p_lstT, p_ixL, p_ixT, p_slL, p_slT, p_eq, p_ne, p_isN, p_isNotN, r_1, r_2, c_k, c_j, i_non, i_bl, i_int, i_str, i_lst, i_tup, gTup_b, gLst_b, mkT_ok, mkL_ok, sap, sit, itK_ok, sex, exK_ok, sre, reK_ok, p_srtL, p_srtT, p_sumL, p_sumT, rs_rt, rs_nx, rs_er, p_inT, p_ninT, p_inL, shp_i, shp_b, shp_n, shp_T, shp_L, eqv_T, eqv_I, sIf, sRet, sSet, sSetO, sDrop, sNext, sRaise, sFrz, gTest, gBin, gUn, gC, gNl, gB, gAnd, gOr, gNot, gIf, gTru, aNil, aCons, gCall, gChain, gIsi, gSeq, gRg1, gRg2, sFor, tgN, gYes, sAsg, tg2, tg3, sPar, gSl, oSo, oNo, gEnum, gZip, gZipM, gR1, gR2, gLRg, gTRg, gLCnt, gLIdx, tailB]
    · have hl' : ¬ (ls.length : Int) = ss.length := by omega
      have e1 : s_is_dealing_1 [some (.d (.tuple (ps.map PyData.int))), some (.d (.tuple (ss.map PyData.int))), some (.d (.list ls)), none, none, none] = .rt (.bool false) := by
        simp [s_is_dealing_1, b_ok, b_err, b_bad, o_ok, o_err, n_ok, sSeq_K, seqK_nx, seqK_rt, seqK_er, v_d, v_Rd, v_Ro, v_Fo, v_Fi, v_Fb, v_Fs, v_Ft, v_Fn, f_o, f_d, a_i, a_b, a_l, a_sl, a_st, l_i, l_b, l_s, l_t, l_n, t_b, t_l, t_t, p_add, p_addT, p_addL, p_sub, p_mul, p_mod, p_div, p_pow, p_lt, p_le, p_gt, p_ge, p_min, p_max, p_lenL, p_lenT, p_tupL, p_tupT, p_lstL, p_lstT, p_ixL, p_ixT, p_slL, p_slT, p_eq, p_ne, p_isN, p_isNotN, r_1, r_2, c_k, c_j, i_non, i_bl, i_int, i_str, i_lst, i_tup, gTup_b, gLst_b, mkT_ok, mkL_ok, sap, sit, itK_ok, sex, exK_ok, sre, reK_ok, p_srtL, p_srtT, p_sumL, p_sumT, rs_rt, rs_nx, rs_er, p_inT, p_ninT, p_inL, shp_i, shp_b, shp_n, shp_T, shp_L, eqv_T, eqv_I, sIf, sRet, sSet, sSetO, sDrop, sNext, sRaise, sFrz, gTest, gBin, gUn, gC, gNl, gB, gAnd, gOr, gNot, gIf, gTru, aNil, aCons, gCall, gChain, gIsi, gSeq, gRg1, gRg2, sFor, tgN, gYes, sAsg, tg2, tg3, sPar, gSl, oSo, oNo, gEnum, gZip, gZipM, gR1, gR2, gLRg, gTRg, gLCnt, gLIdx, hl, hl']
      rw [q_rt e1]
      simp [dealB, hl, b_ok, b_err, b_bad, o_ok, o_err, n_ok, sSeq_K, seqK_nx, seqK_rt, seqK_er, v_d, v_Rd, v_Ro, v_Fo, v_Fi, v_Fb, v_Fs, v_Ft, v_Fn, f_o, f_d, a_i, a_b, a_l, a_sl, a_st, l_i, l_b, l_s, l_t, l_n, t_b, t_l, t_t, p_add, p_addT, p_addL, p_sub, p_mul, p_mod, p_div, p_pow, p_lt, p_le, p_gt, p_ge, p_min, p_max, p_lenL, p_lenT, p_tupL, p_tupT, p_lstL, p_lstT, p_ixL, p_ixT, p_slL, p_slT, p_eq, p_ne, p_isN, p_isNotN, r_1, r_2, c_k, c_j, i_non, i_bl, i_int, i_str, i_lst, i_tup, gTup_b, gLst_b, mkT_ok, mkL_ok, sap, sit, itK_ok, sex, exK_ok, sre, reK_ok, p_srtL, p_srtT, p_sumL, p_sumT, rs_rt, rs_nx, rs_er, p_inT, p_ninT, p_inL, shp_i, shp_b, shp_n, shp_T, shp_L, eqv_T, eqv_I, sIf, sRet, sSet, sSetO, sDrop, sNext, sRaise, sFrz, gTest, gBin, gUn, gC, gNl, gB, gAnd, gOr, gNot, gIf, gTru, aNil, aCons, gCall, gChain, gIsi, gSeq, gRg1, gRg2, sFor, tgN, gYes, sAsg, tg2, tg3, sPar, gSl, oSo, oNo, gEnum, gZip, gZipM, gR1, gR2, gLRg, gTRg, gLCnt, gLIdx]
  | dict kv => cases h.1
  | _ =>
    rw [q_rt (d := .bool false) (by simp [s_is_dealing_1, b_ok, b_err, b_bad, o_ok, o_err, n_ok, sSeq_K, seqK_nx, seqK_rt, seqK_er, v_d, v_Rd, v_Ro, v_Fo, v_Fi, v_Fb, v_Fs, v_Ft, v_Fn, f_o, f_d, a_i, a_b, a_l, a_sl, a_st, l_i, l_b, l_s, l_t, l_n, t_b, t_l, t_t, p_add, p_addT, p_addL, p_sub, p_mul, p_mod, p_div, p_pow, p_lt, p_le, p_gt, p_ge, p_min, p_max, p_lenL, p_lenT, p_tupL, p_tupT, p_lstL, p_lstT, p_ixL, p_ixT, p_slL, p_slT, p_eq, p_ne, p_isN, p_isNotN, r_1, r_2, c_k, c_j, i_non, i_bl, i_int, i_str, i_lst, i_tup, gTup_b, gLst_b, mkT_ok, mkL_ok, sap, sit, itK_ok, sex, exK_ok, sre, reK_ok, p_srtL, p_srtT, p_sumL, p_sumT, rs_rt, rs_nx, rs_er, p_inT, p_ninT, p_inL, shp_i, shp_b, shp_n, shp_T, shp_L, eqv_T, eqv_I, sIf, sRet, sSet, sSetO, sDrop, sNext, sRaise, sFrz, gTest, gBin, gUn, gC, gNl, gB, gAnd, gOr, gNot, gIf, gTru, aNil, aCons, gCall, gChain, gIsi, gSeq, gRg1, gRg2, sFor, tgN, gYes, sAsg, tg2, tg3, sPar, gSl, oSo, oNo, gEnum, gZip, gZipM, gR1, gR2, gLRg, gTRg, gLCnt, gLIdx])]
    rfl
/-! ### the words of refusal -/
theorem word_pieces {x y : PyData} (h : m_is_rising [x, .int 13, .int 99] = .ok (.bool false)) : m__law_serve_word [x, y] = .ok (.str "pieces") := by
  have b := both_no (y := y) h
  have r0 : m_serves [x, y] = .err 2 none := by
    show (h_serves [some (.d x), some (.d y)]).rs = _
    simp [h_serves, s_serves_0, b_ok, b_err, b_bad, o_ok, o_err, n_ok, sSeq_K, seqK_nx, seqK_rt, seqK_er, v_d, v_Rd, v_Ro, v_Fo, v_Fi, v_Fb, v_Fs, v_Ft, v_Fn, f_o, f_d, a_i, a_b, a_l, a_sl, a_st, l_i, l_b, l_s, l_t, l_n, t_b, t_l, t_t, p_add, p_addT, p_addL, p_sub, p_mul, p_mod, p_div, p_pow, p_lt, p_le, p_gt, p_ge, p_min, p_max, p_lenL, p_lenT, p_tupL, p_tupT, p_lstL, p_lstT, p_ixL, p_ixT, p_slL, p_slT, p_eq, p_ne, p_isN, p_isNotN, r_1, r_2, c_k, c_j, i_non, i_bl, i_int, i_str, i_lst, i_tup, gTup_b, gLst_b, mkT_ok, mkL_ok, sap, sit, itK_ok, sex, exK_ok, sre, reK_ok, p_srtL, p_srtT, p_sumL, p_sumT, rs_rt, rs_nx, rs_er, p_inT, p_ninT, p_inL, shp_i, shp_b, shp_n, shp_T, shp_L, eqv_T, eqv_I, sIf, sRet, sSet, sSetO, sDrop, sNext, sRaise, sFrz, gTest, gBin, gUn, gC, gNl, gB, gAnd, gOr, gNot, gIf, gTru, aNil, aCons, gCall, gChain, gIsi, gSeq, gRg1, gRg2, sFor, tgN, gYes, sAsg, tg2, tg3, sPar, gSl, oSo, oNo, gEnum, gZip, gZipM, gR1, gR2, gLRg, gTRg, gLCnt, gLIdx, b]
  have r1 : m_dealing [x, y] = .err 2 none := by
    show (h_dealing [some (.d x), some (.d y), none]).rs = _
    simp [h_dealing, s_dealing_0, b_ok, b_err, b_bad, o_ok, o_err, n_ok, sSeq_K, seqK_nx, seqK_rt, seqK_er, v_d, v_Rd, v_Ro, v_Fo, v_Fi, v_Fb, v_Fs, v_Ft, v_Fn, f_o, f_d, a_i, a_b, a_l, a_sl, a_st, l_i, l_b, l_s, l_t, l_n, t_b, t_l, t_t, p_add, p_addT, p_addL, p_sub, p_mul, p_mod, p_div, p_pow, p_lt, p_le, p_gt, p_ge, p_min, p_max, p_lenL, p_lenT, p_tupL, p_tupT, p_lstL, p_lstT, p_ixL, p_ixT, p_slL, p_slT, p_eq, p_ne, p_isN, p_isNotN, r_1, r_2, c_k, c_j, i_non, i_bl, i_int, i_str, i_lst, i_tup, gTup_b, gLst_b, mkT_ok, mkL_ok, sap, sit, itK_ok, sex, exK_ok, sre, reK_ok, p_srtL, p_srtT, p_sumL, p_sumT, rs_rt, rs_nx, rs_er, p_inT, p_ninT, p_inL, shp_i, shp_b, shp_n, shp_T, shp_L, eqv_T, eqv_I, sIf, sRet, sSet, sSetO, sDrop, sNext, sRaise, sFrz, gTest, gBin, gUn, gC, gNl, gB, gAnd, gOr, gNot, gIf, gTru, aNil, aCons, gCall, gChain, gIsi, gSeq, gRg1, gRg2, sFor, tgN, gYes, sAsg, tg2, tg3, sPar, gSl, oSo, oNo, gEnum, gZip, gZipM, gR1, gR2, gLRg, gTRg, gLCnt, gLIdx, b]
  have r2 : m_how_many [x, y] = .err 2 none := by
    show (h_how_many [some (.d x), some (.d y)]).rs = _
    simp [h_how_many, s_how_many_0, b_ok, b_err, b_bad, o_ok, o_err, n_ok, sSeq_K, seqK_nx, seqK_rt, seqK_er, v_d, v_Rd, v_Ro, v_Fo, v_Fi, v_Fb, v_Fs, v_Ft, v_Fn, f_o, f_d, a_i, a_b, a_l, a_sl, a_st, l_i, l_b, l_s, l_t, l_n, t_b, t_l, t_t, p_add, p_addT, p_addL, p_sub, p_mul, p_mod, p_div, p_pow, p_lt, p_le, p_gt, p_ge, p_min, p_max, p_lenL, p_lenT, p_tupL, p_tupT, p_lstL, p_lstT, p_ixL, p_ixT, p_slL, p_slT, p_eq, p_ne, p_isN, p_isNotN, r_1, r_2, c_k, c_j, i_non, i_bl, i_int, i_str, i_lst, i_tup, gTup_b, gLst_b, mkT_ok, mkL_ok, sap, sit, itK_ok, sex, exK_ok, sre, reK_ok, p_srtL, p_srtT, p_sumL, p_sumT, rs_rt, rs_nx, rs_er, p_inT, p_ninT, p_inL, shp_i, shp_b, shp_n, shp_T, shp_L, eqv_T, eqv_I, sIf, sRet, sSet, sSetO, sDrop, sNext, sRaise, sFrz, gTest, gBin, gUn, gC, gNl, gB, gAnd, gOr, gNot, gIf, gTru, aNil, aCons, gCall, gChain, gIsi, gSeq, gRg1, gRg2, sFor, tgN, gYes, sAsg, tg2, tg3, sPar, gSl, oSo, oNo, gEnum, gZip, gZipM, gR1, gR2, gLRg, gTRg, gLCnt, gLIdx, b]
  have r3 : m_is_dealing [x, y, .none] = .err 2 none := by
    show (h_is_dealing [some (.d x), some (.d y), some (.d .none), none, none, none]).rs = _
    simp [h_is_dealing, s_is_dealing_0, b_ok, b_err, b_bad, o_ok, o_err, n_ok, sSeq_K, seqK_nx, seqK_rt, seqK_er, v_d, v_Rd, v_Ro, v_Fo, v_Fi, v_Fb, v_Fs, v_Ft, v_Fn, f_o, f_d, a_i, a_b, a_l, a_sl, a_st, l_i, l_b, l_s, l_t, l_n, t_b, t_l, t_t, p_add, p_addT, p_addL, p_sub, p_mul, p_mod, p_div, p_pow, p_lt, p_le, p_gt, p_ge, p_min, p_max, p_lenL, p_lenT, p_tupL, p_tupT, p_lstL, p_lstT, p_ixL, p_ixT, p_slL, p_slT, p_eq, p_ne, p_isN, p_isNotN, r_1, r_2, c_k, c_j, i_non, i_bl, i_int, i_str, i_lst, i_tup, gTup_b, gLst_b, mkT_ok, mkL_ok, sap, sit, itK_ok, sex, exK_ok, sre, reK_ok, p_srtL, p_srtT, p_sumL, p_sumT, rs_rt, rs_nx, rs_er, p_inT, p_ninT, p_inL, shp_i, shp_b, shp_n, shp_T, shp_L, eqv_T, eqv_I, sIf, sRet, sSet, sSetO, sDrop, sNext, sRaise, sFrz, gTest, gBin, gUn, gC, gNl, gB, gAnd, gOr, gNot, gIf, gTru, aNil, aCons, gCall, gChain, gIsi, gSeq, gRg1, gRg2, sFor, tgN, gYes, sAsg, tg2, tg3, sPar, gSl, oSo, oNo, gEnum, gZip, gZipM, gR1, gR2, gLRg, gTRg, gLCnt, gLIdx, b]
  have body : ∀ (i : Nat) (xs : List PyData) (t : Option Cl), i < 4 → xs.length < 100 → b__law_serve_word_0 [some (.d x), some (.d y), some (.own xs), some (.d (.int (i : Nat))), none, none] = .nx [some (.d x), some (.d y), some (.own (xs ++ [.list [.bool true, .bool false, .bool false]])), some (.d (.int (i : Nat))), none, none] := by
    intro i xs t hi hl
    have body2 : (sIf (gTest (gBin pEq (gVar 3) (gC (.int 0)))) (sDrop (gCall m_serves (aCons (gVar 0) (aCons (gVar 1) aNil)))) (sIf (gTest (gBin pEq (gVar 3) (gC (.int 1)))) (sDrop (gCall m_dealing (aCons (gVar 0) (aCons (gVar 1) aNil)))) (sIf (gTest (gBin pEq (gVar 3) (gC (.int 2)))) (sDrop (gCall m_how_many (aCons (gVar 0) (aCons (gVar 1) aNil)))) (sDrop (gCall m_is_dealing (aCons (gVar 0) (aCons (gVar 1) (aCons (gC .none) aNil)))))))) [some (.d x), some (.d y), some (.own xs), some (.d (.int (i : Nat))), none, none] = .er 2 none [some (.d x), some (.d y), some (.own xs), some (.d (.int (i : Nat))), none, none] := by
      have h4 : i = 0 ∨ i = 1 ∨ i = 2 ∨ i = 3 := by omega
      rcases h4 with rfl | rfl | rfl | rfl <;> simp [b_ok, b_err, b_bad, o_ok, o_err, n_ok, sSeq_K, seqK_nx, seqK_rt, seqK_er, v_d, v_Rd, v_Ro, v_Fo, v_Fi, v_Fb, v_Fs, v_Ft, v_Fn, f_o, f_d, a_i, a_b, a_l, a_sl, a_st, l_i, l_b, l_s, l_t, l_n, t_b, t_l, t_t, p_add, p_addT, p_addL, p_sub, p_mul, p_mod, p_div, p_pow, p_lt, p_le, p_gt, p_ge, p_min, p_max, p_lenL, p_lenT, p_tupL, p_tupT, p_lstL, p_lstT, p_ixL, p_ixT, p_slL, p_slT, p_eq, p_ne, p_isN, p_isNotN, r_1, r_2, c_k, c_j, i_non, i_bl, i_int, i_str, i_lst, i_tup, gTup_b, gLst_b, mkT_ok, mkL_ok, sap, sit, itK_ok, sex, exK_ok, sre, reK_ok, p_srtL, p_srtT, p_sumL, p_sumT, rs_rt, rs_nx, rs_er, p_inT, p_ninT, p_inL, shp_i, shp_b, shp_n, shp_T, shp_L, eqv_T, eqv_I, sIf, sRet, sSet, sSetO, sDrop, sNext, sRaise, sFrz, gTest, gBin, gUn, gC, gNl, gB, gAnd, gOr, gNot, gIf, gTru, aNil, aCons, gCall, gChain, gIsi, gSeq, gRg1, gRg2, sFor, tgN, gYes, sAsg, tg2, tg3, sPar, gSl, oSo, oNo, gEnum, gZip, gZipM, gR1, gR2, gLRg, gTRg, gLCnt, gLIdx, r0, r1, r2, r3]
    unfold b__law_serve_word_0 sTryN
    rw [body2]
    have hk : (kn 2 = true ∧ ([some (.d x), some (.d y), some (.own xs), some (.d (.int (i : Nat))), none, none] : Sl).length = 6) := ⟨by decide, rfl⟩
    dsimp only
    rw [if_pos hk]
    have hsub : subX 2 0 = true := by decide
    unfold SB.runN
    rw [if_pos hsub]
    have sa := sap (i := 2) (xs := xs) (f := gC (.list ([2, 3, 4].map fun k => PyData.bool (subX 2 k)))) (ρ := [some (.d x), some (.d y), some (.own xs), some (.d (.int (i : Nat))), none, none]) rfl (by omega)
    have : sdA 2 [2, 3, 4] 2 none ([some (.d x), some (.d y), some (.own xs), some (.d (.int (i : Nat))), none, none] : Sl) = .nx [some (.d x), some (.d y), some (.own (xs ++ [.list [.bool true, .bool false, .bool false]])), some (.d (.int (i : Nat))), none, none] := by
      unfold sdA
      rw [sa]
      rfl
    show noEr (oUn 4 (sdA 2 [2, 3, 4] 2 none [some (.d x), some (.d y), some (.own xs), some (.d (.int (i : Nat))), none, none])) = _
    rw [this]
    rfl
  have l0 := body 0 [] none (by decide) (by decide)
  have l1 := body 1 [.list [.bool true, .bool false, .bool false]] none (by decide) (by decide)
  have l2 := body 2 [.list [.bool true, .bool false, .bool false], .list [.bool true, .bool false, .bool false]] none (by decide) (by decide)
  have l3 := body 3 [.list [.bool true, .bool false, .bool false], .list [.bool true, .bool false, .bool false], .list [.bool true, .bool false, .bool false]] none (by decide) (by decide)
  show (h__law_serve_word [some (.d x), some (.d y), none, none, none, none]).rs = _
  unfold h__law_serve_word
  rw [q_nx (a := s__law_serve_word_0) (ρ' := [some (.d x), some (.d y), some (.own []), none, none, none]) rfl]
  have e1 : s__law_serve_word_1 [some (.d x), some (.d y), some (.own []), none, none, none] = .nx [some (.d x), some (.d y), some (.own [.list [.bool true, .bool false, .bool false], .list [.bool true, .bool false, .bool false], .list [.bool true, .bool false, .bool false], .list [.bool true, .bool false, .bool false]]), some (.d (.int 3)), none, none] := by
    show forLoop (tgN 3) b__law_serve_word_0 [.int 0, .int 1, .int 2, .int 3] [some (.d x), some (.d y), some (.own []), none, none, none] = _
    rw [forLoop_cons (ρ1 := [some (.d x), some (.d y), some (.own []), some (.d (.int (0 : Nat))), none, none]) rfl, l0, seqK_nx,
      forLoop_cons (ρ1 := [some (.d x), some (.d y), some (.own [.list [.bool true, .bool false, .bool false]]), some (.d (.int (1 : Nat))), none, none]) rfl, l1, seqK_nx,
      forLoop_cons (ρ1 := [some (.d x), some (.d y), some (.own [.list [.bool true, .bool false, .bool false], .list [.bool true, .bool false, .bool false]]), some (.d (.int (2 : Nat))), none, none]) rfl, l2, seqK_nx,
      forLoop_cons (ρ1 := [some (.d x), some (.d y), some (.own [.list [.bool true, .bool false, .bool false], .list [.bool true, .bool false, .bool false], .list [.bool true, .bool false, .bool false]]), some (.d (.int (3 : Nat))), none, none]) rfl, l3, seqK_nx]
    rfl
  rw [q_nx e1]
  have ne0 : pNe (.list [.bool true, .bool false, .bool false]) (.list [.bool true, .bool false, .bool false]) = .ok (.bool false) := by
    have e : PyData.eqv (.list [.bool true, .bool false, .bool false]) (.list [.bool true, .bool false, .bool false]) = true := by decide +kernel
    rw [p_ne (by decide +kernel) (by decide +kernel), e]; rfl
  have ne1 : pNe (.int 1) (.int 1) = .ok (.bool false) := by
    rw [p_ne (shp_i 1) (shp_i 1), eqv_I]; rfl
  have ne2 : pNe (.list []) (.list []) = .ok (.bool false) := by
    have e : PyData.eqv (.list []) (.list []) = true := by decide +kernel
    rw [p_ne (by decide +kernel) (by decide +kernel), e]; rfl
  have lc : gLc [5] (gSeq (gVarR 2)) (tgN 5) (gOr (gTest (gBin pNe (gVar 5) (gBin pIx (gVarR 2) (gC (.int 0))))) (gTest (gBin pNe (gLCnt (gVar 5) (gC (.bool true))) (gC (.int 1))))) (gVar 5) [some (.d x), some (.d y), some (.own [.list [.bool true, .bool false, .bool false], .list [.bool true, .bool false, .bool false], .list [.bool true, .bool false, .bool false], .list [.bool true, .bool false, .bool false]]), some (.d (.int 3)), none, none] = .ok (.list ((([.list [.bool true, .bool false, .bool false], .list [.bool true, .bool false, .bool false], .list [.bool true, .bool false, .bool false], .list [.bool true, .bool false, .bool false]] : List PyData).filter fun _ => false).map id)) := by
    refine gLc_eq _ _ rfl (by decide) fun d hd => ?_
    simp at hd
    subst hd
    refine ⟨_, rfl, ?_, fun z => nomatch z⟩
    have c1 : pLCnt (.ok (.bool true)) (.list [.bool true, .bool false, .bool false]) = .ok (.int 1) := by rfl
    have ix : pIx (.list [.list [.bool true, .bool false, .bool false], .list [.bool true, .bool false, .bool false], .list [.bool true, .bool false, .bool false], .list [.bool true, .bool false, .bool false]]) (.int 0) = .ok (.list [.bool true, .bool false, .bool false]) := rfl
    simp [b_ok, b_err, b_bad, o_ok, o_err, n_ok, sSeq_K, seqK_nx, seqK_rt, seqK_er, v_d, v_Rd, v_Ro, v_Fo, v_Fi, v_Fb, v_Fs, v_Ft, v_Fn, f_o, f_d, a_i, a_b, a_l, a_sl, a_st, l_i, l_b, l_s, l_t, l_n, t_b, t_l, t_t, p_add, p_addT, p_addL, p_sub, p_mul, p_mod, p_div, p_pow, p_lt, p_le, p_gt, p_ge, p_min, p_max, p_lenL, p_lenT, p_tupL, p_tupT, p_lstL, p_lstT, p_ixL, p_ixT, p_slL, p_slT, p_eq, p_ne, p_isN, p_isNotN, r_1, r_2, c_k, c_j, i_non, i_bl, i_int, i_str, i_lst, i_tup, gTup_b, gLst_b, mkT_ok, mkL_ok, sap, sit, itK_ok, sex, exK_ok, sre, reK_ok, p_srtL, p_srtT, p_sumL, p_sumT, rs_rt, rs_nx, rs_er, p_inT, p_ninT, p_inL, shp_i, shp_b, shp_n, shp_T, shp_L, eqv_T, eqv_I, sIf, sRet, sSet, sSetO, sDrop, sNext, sRaise, sFrz, gTest, gBin, gUn, gC, gNl, gB, gAnd, gOr, gNot, gIf, gTru, aNil, aCons, gCall, gChain, gIsi, gSeq, gRg1, gRg2, sFor, tgN, gYes, sAsg, tg2, tg3, sPar, gSl, oSo, oNo, gEnum, gZip, gZipM, gR1, gR2, gLRg, gTRg, gLCnt, gLIdx, wipeS, ix, ne0, c1, ne1]
  have e2 : s__law_serve_word_2 [some (.d x), some (.d y), some (.own [.list [.bool true, .bool false, .bool false], .list [.bool true, .bool false, .bool false], .list [.bool true, .bool false, .bool false], .list [.bool true, .bool false, .bool false]]), some (.d (.int 3)), none, none] = .nx [some (.d x), some (.d y), some (.own [.list [.bool true, .bool false, .bool false], .list [.bool true, .bool false, .bool false], .list [.bool true, .bool false, .bool false], .list [.bool true, .bool false, .bool false]]), some (.d (.int 3)), none, none] := by
    have lc' : ((([.list [.bool true, .bool false, .bool false], .list [.bool true, .bool false, .bool false], .list [.bool true, .bool false, .bool false], .list [.bool true, .bool false, .bool false]] : List PyData).filter fun _ => false).map id) = [] := rfl
    rw [lc'] at lc
    simp [s__law_serve_word_2, b_ok, b_err, b_bad, o_ok, o_err, n_ok, sSeq_K, seqK_nx, seqK_rt, seqK_er, v_d, v_Rd, v_Ro, v_Fo, v_Fi, v_Fb, v_Fs, v_Ft, v_Fn, f_o, f_d, a_i, a_b, a_l, a_sl, a_st, l_i, l_b, l_s, l_t, l_n, t_b, t_l, t_t, p_add, p_addT, p_addL, p_sub, p_mul, p_mod, p_div, p_pow, p_lt, p_le, p_gt, p_ge, p_min, p_max, p_lenL, p_lenT, p_tupL, p_tupT, p_lstL, p_lstT, p_ixL, p_ixT, p_slL, p_slT, p_eq, p_ne, p_isN, p_isNotN, r_1, r_2, c_k, c_j, i_non, i_bl, i_int, i_str, i_lst, i_tup, gTup_b, gLst_b, mkT_ok, mkL_ok, sap, sit, itK_ok, sex, exK_ok, sre, reK_ok, p_srtL, p_srtT, p_sumL, p_sumT, rs_rt, rs_nx, rs_er, p_inT, p_ninT, p_inL, shp_i, shp_b, shp_n, shp_T, shp_L, eqv_T, eqv_I, sIf, sRet, sSet, sSetO, sDrop, sNext, sRaise, sFrz, gTest, gBin, gUn, gC, gNl, gB, gAnd, gOr, gNot, gIf, gTru, aNil, aCons, gCall, gChain, gIsi, gSeq, gRg1, gRg2, sFor, tgN, gYes, sAsg, tg2, tg3, sPar, gSl, oSo, oNo, gEnum, gZip, gZipM, gR1, gR2, gLRg, gTRg, gLCnt, gLIdx, lc, ne2]
  rw [q_nx e2]
  rfl
end SBL

namespace SBL
open PySem SB
/-! ### the law -/
theorem at_lit {l : List PyData} {k : Int} (h0 : 0 ≤ k) (h : k < l.length) : L2.atI l k = l[k.toNat]? := by
  unfold L2.atI L2.ixN
  rw [if_pos h0, if_pos h]
  rfl
theorem at_last (l : List PyData) (d : PyData) : L2.atI (l ++ [d]) (-1) = some d := by
  unfold L2.atI L2.ixN
  have hl : (l ++ [d]).length = l.length + 1 := by simp
  rw [if_neg (by decide), hl, if_pos (by omega)]
  show (l ++ [d])[(-1 + ((l.length + 1 : Nat) : Int)).toNat]? = some d
  rw [show (-1 + ((l.length + 1 : Nat) : Int)).toNat = l.length by omega]
  simp
theorem fineT {xs : List Int} (h : xs.length ≤ 100000) : fineL (.tuple (xs.map PyData.int)) := ⟨rfl, fun ds e => by cases e; exact ⟨nd_ints xs, by rw [List.length_map]; exact h, shp_T xs⟩⟩
theorem fineN {l : PyData} (h : nd l = true) (hn : ∀ ds, l ≠ .tuple ds) : fineL l := ⟨h, fun ds e => absurd e (hn ds)⟩
theorem cut_mem {α : Type} {xs : List α} {lo hi : Option Int} {x : α} (h : x ∈ cutD xs lo hi) : x ∈ xs := List.mem_of_mem_drop (List.mem_of_mem_take h)
theorem cut_len {α : Type} (xs : List α) (lo hi : Option Int) : (cutD xs lo hi).length ≤ xs.length := by
  unfold cutD
  rw [List.length_take, List.length_drop]
  omega
theorem cut_ints (xs : List Int) (lo hi : Option Int) : cutD (xs.map PyData.int) lo hi = (cutD xs lo hi).map PyData.int := by
  unfold cutD
  rw [List.length_map, ← List.map_drop, ← List.map_take]
def tupD (l : List Int) : PyData := .tuple (l.map PyData.int)
theorem boolRep (k : Nat) : ∀ ds, repD k [.bool true] = ds → ds.all nd = true ∧ ds.length = k ∧ PyData.canLayAll0 ds = true ∧ PyData.depthAll ds = 0 := by
  intro ds e
  subst e
  unfold repD
  induction k with
  | zero => simp [PyData.canLayAll0, PyData.depthAll]
  | succ k ih =>
    obtain ⟨a, b, c, d⟩ := ih
    rw [List.replicate_succ, List.flatten_cons]
    simp only [List.singleton_append, List.all_cons, List.length_cons, PyData.canLayAll0, PyData.depthAll, PyData.canLay0, PyData.depth, a, b, c, d]
    simp [nd]
theorem fineB {k : Nat} (h : k ≤ 1000) : fineL (.tuple (repD k [.bool true])) := ⟨rfl, fun ds e => by
  cases e
  obtain ⟨a, b, c, d⟩ := boolRep k _ rfl
  refine ⟨a, by omega, ?_⟩
  unfold SeqAt.shaped
  rw [PyData.canLay0, PyData.depth, c, d]
  rfl⟩
theorem fineList {ls : List PyData} (h : ls.length ≤ 100) (hf : ∀ l ∈ ls, fineL l) : fine (.list ls) := ⟨rfl, fun _ e => by cases e; exact ⟨h, hf⟩⟩
theorem fineO {t : PyData} (h : nd t = true) (hn : ∀ ls, t ≠ .list ls) : fine t := ⟨h, fun ls e => absurd e (hn ls)⟩
theorem law_loop4 {r ss : List Int} (hr : RowOk r) (hs : PosL ss) (h5 : ss.length ≤ 5) (S : PyData) : ∀ (n k : Nat) (lots : List (List Int)) (t : Option Cl), k + n = ss.length → lots.length = k → (∀ l ∈ lots, PosL l ∧ 1 ≤ l.length ∧ l.length ≤ 3) → (lots.map List.sum).sum = (ss.take k).sum →
    ∃ (lots' : List (List Int)) (t' : Option Cl), forLoop (tgN 5) b_law_0 ((List.range' k n).map fun i => PyData.int (i : Nat)) [some (.d S), some (.d (.list (r.map PyData.int))), some (.d (.tuple (ss.map PyData.int))), some (.d (.list (lots.flatten.map PyData.int))), some (.own (lots.map tupD)), t, none, none, none, none, none] = .nx [some (.d S), some (.d (.list (r.map PyData.int))), some (.d (.tuple (ss.map PyData.int))), some (.d (.list (lots'.flatten.map PyData.int))), some (.own (lots'.map tupD)), t', none, none, none, none, none] ∧
      lots'.length = ss.length ∧ (∀ l ∈ lots', PosL l ∧ 1 ≤ l.length ∧ l.length ≤ 3) ∧ (lots'.map List.sum).sum = ss.sum
  | 0, k, lots, t, hk, hl, hf, hsum => ⟨lots, t, rfl, by omega, hf, by rw [hsum, List.take_of_length_le (by omega)]⟩
  | n + 1, k, lots, t, hk, hl, hf, hsum => by
    have hkl : k < ss.length := by omega
    have ek := atI_ints ss k (by omega) (by omega)
    have pk := hs _ (SB.getD_mem (xs := ss) (i := k) hkl)
    have ekk : ((k : Nat) : Int).toNat = k := by omega
    rw [ekk] at ek
    generalize hsk : ss.getD k 0 = sk at ek pk
    obtain ⟨l, el, ol⟩ := list_ok hr (at_ := 3 + 6 * k) (total := sk) (most := 3) (by omega) pk (by decide) (by decide)
    have l3 : l.length ≤ 3 := ol.len
    have fl : lots.flatten.length ≤ 3 * lots.length := by
      clear hsum hl
      induction lots with
      | nil => simp
      | cons a as ih =>
        have := ih fun l hl => hf l (List.mem_cons_of_mem _ hl)
        have := (hf a List.mem_cons_self).2.2
        rw [List.flatten_cons, List.length_append, List.length_cons]; omega
    obtain ⟨lots', t', e, h1, h2, h3⟩ := law_loop4 hr hs h5 S n (k + 1) (lots ++ [l]) (some (.d (.int (k : Nat)))) (by omega) (by rw [List.length_append, hl]; rfl) (fun x hx => by
      rcases List.mem_append.mp hx with hx | hx
      · exact hf x hx
      · rw [List.mem_singleton.mp hx]; exact ⟨ol.pos, ol.one, l3⟩) (by
      rw [List.map_append, List.sum_append, hsum, List.take_succ, List.sum_append, List.getElem?_eq_getElem hkl]
      have : sk = ss[k] := by rw [← hsk, List.getD_eq_getElem?_getD, List.getElem?_eq_getElem hkl]; rfl
      simp [ol.sum, this])
    refine ⟨lots', t', ?_, h1, h2, h3⟩
    rw [List.range'_succ, List.map_cons, forLoop_cons (ρ1 := [some (.d S), some (.d (.list (r.map PyData.int))), some (.d (.tuple (ss.map PyData.int))), some (.d (.list (lots.flatten.map PyData.int))), some (.own (lots.map tupD)), some (.d (.int (k : Nat))), none, none, none, none, none]) rfl]
    have eb : b_law_0 [some (.d S), some (.d (.list (r.map PyData.int))), some (.d (.tuple (ss.map PyData.int))), some (.d (.list (lots.flatten.map PyData.int))), some (.own (lots.map tupD)), some (.d (.int (k : Nat))), none, none, none, none, none] = .nx [some (.d S), some (.d (.list (r.map PyData.int))), some (.d (.tuple (ss.map PyData.int))), some (.d (.list ((lots ++ [l]).flatten.map PyData.int))), some (.own ((lots ++ [l]).map tupD)), some (.d (.int (k : Nat))), none, none, none, none, none] := by
      have m6 : mulOk 6 (k : Int) := .inl (by decide)
      have la := at_last (lots.map tupD) (.tuple (l.map PyData.int))
      have ll : lots.length < 100000 := by omega
      have ll2 : lots.flatten.length + l.length ≤ 100000 := by omega
      have pa : pAdd (.list (lots.flatten.map PyData.int)) (.list (l.map PyData.int)) = .ok (.list ((lots ++ [l]).flatten.map PyData.int)) := by
        rw [p_addL (by rw [List.length_map, List.length_map]; exact ll2)]
        simp
      have sa := sap (i := 4) (xs := lots.map tupD) (f := gCall m__law_list (aCons (gVar 1) (aCons (gBin pAdd (gC (.int 3)) (gBin pMul (gC (.int 6)) (gVar 5))) (aCons (gBin pIx (gVar 2) (gVar 5)) (aCons (gC (.int 3)) aNil))))) (ρ := [some (.d S), some (.d (.list (r.map PyData.int))), some (.d (.tuple (ss.map PyData.int))), some (.d (.list (lots.flatten.map PyData.int))), some (.own (lots.map tupD)), some (.d (.int (k : Nat))), none, none, none, none, none]) rfl (by rw [List.length_map]; exact ll)
      have ef : gCall m__law_list (aCons (gVar 1) (aCons (gBin pAdd (gC (.int 3)) (gBin pMul (gC (.int 6)) (gVar 5))) (aCons (gBin pIx (gVar 2) (gVar 5)) (aCons (gC (.int 3)) aNil)))) [some (.d S), some (.d (.list (r.map PyData.int))), some (.d (.tuple (ss.map PyData.int))), some (.d (.list (lots.flatten.map PyData.int))), some (.own (lots.map tupD)), some (.d (.int (k : Nat))), none, none, none, none, none] = .ok (.tuple (l.map PyData.int)) := by
        simp [b_ok, b_err, b_bad, o_ok, o_err, n_ok, sSeq_K, seqK_nx, seqK_rt, seqK_er, v_d, v_Rd, v_Ro, v_Fo, v_Fi, v_Fb, v_Fs, v_Ft, v_Fn, f_o, f_d, a_i, a_b, a_l, a_sl, a_st, l_i, l_b, l_s, l_t, l_n, t_b, t_l, t_t, p_add, p_addT, p_addL, p_sub, p_mul, p_mod, p_div, p_pow, p_lt, p_le, p_gt, p_ge, p_min, p_max, p_lenL, p_lenT, p_tupL, p_tupT, p_lstL, p_lstT, p_ixL, p_ixT, p_slL, p_slT, p_eq, p_ne, p_isN, p_isNotN, r_1, r_2, c_k, c_j, i_non, i_bl, i_int, i_str, i_lst, i_tup, gTup_b, gLst_b, mkT_ok, mkL_ok, sap, sit, itK_ok, sex, exK_ok, sre, reK_ok, p_srtL, p_srtT, p_sumL, p_sumT, rs_rt, rs_nx, rs_er, p_inT, p_ninT, p_inL, shp_i, shp_b, shp_n, shp_T, shp_L, eqv_T, eqv_I, sIf, sRet, sSet, sSetO, sDrop, sNext, sRaise, sFrz, gTest, gBin, gUn, gC, gNl, gB, gAnd, gOr, gNot, gIf, gTru, aNil, aCons, gCall, gChain, gIsi, gSeq, gRg1, gRg2, sFor, tgN, gYes, sAsg, tg2, tg3, sPar, gSl, oSo, oNo, gEnum, gZip, gZipM, gR1, gR2, gLRg, gTRg, gLCnt, gLIdx, m6, ek, el]
      have sa' : sApp 4 (gCall m__law_list (aCons (gVar 1) (aCons (gBin pAdd (gC (.int 3)) (gBin pMul (gC (.int 6)) (gVar 5))) (aCons (gBin pIx (gVar 2) (gVar 5)) (aCons (gC (.int 3)) aNil))))) [some (.d S), some (.d (.list (r.map PyData.int))), some (.d (.tuple (ss.map PyData.int))), some (.d (.list (lots.flatten.map PyData.int))), some (.own (lots.map tupD)), some (.d (.int (k : Nat))), none, none, none, none, none] = .nx [some (.d S), some (.d (.list (r.map PyData.int))), some (.d (.tuple (ss.map PyData.int))), some (.d (.list (lots.flatten.map PyData.int))), some (.own (lots.map tupD ++ [.tuple (l.map PyData.int)])), some (.d (.int (k : Nat))), none, none, none, none, none] := by
        rw [sa, ef]
        rfl
      unfold b_law_0
      rw [q_nx sa']
      have e1 : gBin pAdd (gVar 3) (gUn pList (gBin pIx (gVarR 4) (gC (.int (-1))))) ([some (.d S), some (.d (.list (r.map PyData.int))), some (.d (.tuple (ss.map PyData.int))), some (.d (.list (lots.flatten.map PyData.int))), some (.own (lots.map tupD ++ [.tuple (l.map PyData.int)])), some (.d (.int (k : Nat))), none, none, none, none, none] : Sl) = .ok (.list ((lots ++ [l]).flatten.map PyData.int)) := by
        have ix : pIx (.list (lots.map tupD ++ [.tuple (l.map PyData.int)])) (.int (-1)) = .ok (.tuple (l.map PyData.int)) := p_ixL la
        generalize lots.flatten.map PyData.int = Fd at pa
        generalize (lots ++ [l]).flatten.map PyData.int = Gd at pa
        generalize lots.map tupD ++ [PyData.tuple (l.map PyData.int)] = Ld at ix
        simp [b_ok, b_err, b_bad, o_ok, o_err, n_ok, sSeq_K, seqK_nx, seqK_rt, seqK_er, v_d, v_Rd, v_Ro, v_Fo, v_Fi, v_Fb, v_Fs, v_Ft, v_Fn, f_o, f_d, a_i, a_b, a_l, a_sl, a_st, l_i, l_b, l_s, l_t, l_n, t_b, t_l, t_t, p_add, p_addT, p_addL, p_sub, p_mul, p_mod, p_div, p_pow, p_lt, p_le, p_gt, p_ge, p_min, p_max, p_lenL, p_lenT, p_tupL, p_tupT, p_lstL, p_lstT, p_ixL, p_ixT, p_slL, p_slT, p_eq, p_ne, p_isN, p_isNotN, r_1, r_2, c_k, c_j, i_non, i_bl, i_int, i_str, i_lst, i_tup, gTup_b, gLst_b, mkT_ok, mkL_ok, sap, sit, itK_ok, sex, exK_ok, sre, reK_ok, p_srtL, p_srtT, p_sumL, p_sumT, rs_rt, rs_nx, rs_er, p_inT, p_ninT, p_inL, shp_i, shp_b, shp_n, shp_T, shp_L, eqv_T, eqv_I, sIf, sRet, sSet, sSetO, sDrop, sNext, sRaise, sFrz, gTest, gBin, gUn, gC, gNl, gB, gAnd, gOr, gNot, gIf, gTru, aNil, aCons, gCall, gChain, gIsi, gSeq, gRg1, gRg2, sFor, tgN, gYes, sAsg, tg2, tg3, sPar, gSl, oSo, oNo, gEnum, gZip, gZipM, gR1, gR2, gLRg, gTRg, gLCnt, gLIdx, ix, pa]
      unfold sSet
      rw [e1, o_ok]
      simp [tupD]
    rw [eb, seqK_nx]
    exact e
end SBL

namespace SBL
open PySem SB
theorem flat_props {lots : List (List Int)} (h : ∀ l ∈ lots, PosL l ∧ 1 ≤ l.length ∧ l.length ≤ 3) : PosL lots.flatten ∧ lots.flatten.sum = (lots.map List.sum).sum ∧ lots.flatten.length ≤ 3 * lots.length ∧ lots.length ≤ lots.flatten.length := by
  induction lots with
  | nil => exact ⟨fun x h => (by simp at h), rfl, by simp, by simp⟩
  | cons a as ih =>
    obtain ⟨h1, h2, h3, h4⟩ := ih fun l hl => h l (List.mem_cons_of_mem _ hl)
    obtain ⟨a1, a2, a3⟩ := h a List.mem_cons_self
    rw [List.flatten_cons]
    refine ⟨fun x hx => ?_, ?_, ?_, ?_⟩
    · rcases List.mem_append.mp hx with hx | hx
      · exact a1 x hx
      · exact h1 x hx
    · rw [List.sum_append, h2, List.map_cons, List.sum_cons]
    · rw [List.length_append, List.length_cons]; omega
    · rw [List.length_append, List.length_cons]; omega
theorem law_true (ns : List Int) (hl : ns.length ≤ 63) : m_law [.list (ns.map PyData.int)] = .ok (.bool true) := by
  obtain ⟨r, er, hr⟩ := row_ok ns 4 (by decide)
  obtain ⟨ss, oth, total, e2, os, _, t1, t2⟩ := two_ok ns (at_ := 2) (mw := 40) (ms := 5) (by decide) (by decide) (by decide) (by decide)
  have h5 : ss.length ≤ 5 := os.len
  have ls := lsOk_of os (by decide) (by omega)
  generalize hS : (PyData.list (ns.map PyData.int)) = S at er e2
  show (h_law [some (.d S), none, none, none, none, none, none, none, none, none, none]).rs = _
  unfold h_law
  have st0 : s_law_0 [some (.d S), none, none, none, none, none, none, none, none, none, none] = .nx [some (.d S), some (.d (.list (r.map PyData.int))), none, none, none, none, none, none, none, none, none] := by
    simp [s_law_0, b_ok, b_err, b_bad, o_ok, o_err, n_ok, sSeq_K, seqK_nx, seqK_rt, seqK_er, v_d, v_Rd, v_Ro, v_Fo, v_Fi, v_Fb, v_Fs, v_Ft, v_Fn, f_o, f_d, a_i, a_b, a_l, a_sl, a_st, l_i, l_b, l_s, l_t, l_n, t_b, t_l, t_t, p_add, p_addT, p_addL, p_sub, p_mul, p_mod, p_div, p_pow, p_lt, p_le, p_gt, p_ge, p_min, p_max, p_lenL, p_lenT, p_tupL, p_tupT, p_lstL, p_lstT, p_ixL, p_ixT, p_slL, p_slT, p_eq, p_ne, p_isN, p_isNotN, r_1, r_2, c_k, c_j, i_non, i_bl, i_int, i_str, i_lst, i_tup, gTup_b, gLst_b, mkT_ok, mkL_ok, sap, sit, itK_ok, sex, exK_ok, sre, reK_ok, p_srtL, p_srtT, p_sumL, p_sumT, rs_rt, rs_nx, rs_er, p_inT, p_ninT, p_inL, shp_i, shp_b, shp_n, shp_T, shp_L, eqv_T, eqv_I, sIf, sRet, sSet, sSetO, sDrop, sNext, sRaise, sFrz, gTest, gBin, gUn, gC, gNl, gB, gAnd, gOr, gNot, gIf, gTru, aNil, aCons, gCall, gChain, gIsi, gSeq, gRg1, gRg2, sFor, tgN, gYes, sAsg, tg2, tg3, sPar, gSl, oSo, oNo, gEnum, gZip, gZipM, gR1, gR2, gLRg, gTRg, gLCnt, gLIdx, er]
  have st1 : s_law_1 [some (.d S), some (.d (.list (r.map PyData.int))), none, none, none, none, none, none, none, none, none] = .nx [some (.d S), some (.d (.list (r.map PyData.int))), some (.d (.tuple (ss.map PyData.int))), none, none, none, none, none, none, none, none] := by
    simp [s_law_1, b_ok, b_err, b_bad, o_ok, o_err, n_ok, sSeq_K, seqK_nx, seqK_rt, seqK_er, v_d, v_Rd, v_Ro, v_Fo, v_Fi, v_Fb, v_Fs, v_Ft, v_Fn, f_o, f_d, a_i, a_b, a_l, a_sl, a_st, l_i, l_b, l_s, l_t, l_n, t_b, t_l, t_t, p_add, p_addT, p_addL, p_sub, p_mul, p_mod, p_div, p_pow, p_lt, p_le, p_gt, p_ge, p_min, p_max, p_lenL, p_lenT, p_tupL, p_tupT, p_lstL, p_lstT, p_ixL, p_ixT, p_slL, p_slT, p_eq, p_ne, p_isN, p_isNotN, r_1, r_2, c_k, c_j, i_non, i_bl, i_int, i_str, i_lst, i_tup, gTup_b, gLst_b, mkT_ok, mkL_ok, sap, sit, itK_ok, sex, exK_ok, sre, reK_ok, p_srtL, p_srtT, p_sumL, p_sumT, rs_rt, rs_nx, rs_er, p_inT, p_ninT, p_inL, shp_i, shp_b, shp_n, shp_T, shp_L, eqv_T, eqv_I, sIf, sRet, sSet, sSetO, sDrop, sNext, sRaise, sFrz, gTest, gBin, gUn, gC, gNl, gB, gAnd, gOr, gNot, gIf, gTru, aNil, aCons, gCall, gChain, gIsi, gSeq, gRg1, gRg2, sFor, tgN, gYes, sAsg, tg2, tg3, sPar, gSl, oSo, oNo, gEnum, gZip, gZipM, gR1, gR2, gLRg, gTRg, gLCnt, gLIdx, e2, at_lit]
  rw [q_nx st0, q_nx st1, q_nx (a := s_law_2) (ρ' := [some (.d S), some (.d (.list (r.map PyData.int))), some (.d (.tuple (ss.map PyData.int))), some (.d (.list [])), none, none, none, none, none, none, none]) rfl,
    q_nx (a := s_law_3) (ρ' := [some (.d S), some (.d (.list (r.map PyData.int))), some (.d (.tuple (ss.map PyData.int))), some (.d (.list [])), some (.own []), none, none, none, none, none, none]) rfl]
  obtain ⟨lots, t, el, l1, l2, l3⟩ := law_loop4 hr os.pos h5 S ss.length 0 [] none (by omega) rfl (fun l h => nomatch h) rfl
  have st4 : s_law_4 [some (.d S), some (.d (.list (r.map PyData.int))), some (.d (.tuple (ss.map PyData.int))), some (.d (.list [])), some (.own []), none, none, none, none, none, none] = .nx [some (.d S), some (.d (.list (r.map PyData.int))), some (.d (.tuple (ss.map PyData.int))), some (.d (.list (lots.flatten.map PyData.int))), some (.own (lots.map tupD)), t, none, none, none, none, none] := by
    unfold s_law_4 sFor
    have e : gRg1 (gUn pLen (gVar 2)) [some (.d S), some (.d (.list (r.map PyData.int))), some (.d (.tuple (ss.map PyData.int))), some (.d (.list [])), some (.own []), none, none, none, none, none, none] = .ok ((List.range' 0 ss.length).map fun i => PyData.int (i : Nat)) := by
      show rg1 (.int ((ss.map PyData.int).length : Nat)) = _
      rw [List.length_map, r_1 ⟨by omega, by omega⟩]
      unfold rgD
      rw [List.range_eq_range']
      simp
    rw [e, o_ok]
    exact el
  rw [q_nx st4]
  obtain ⟨f1, f2, f3, f4⟩ := flat_props l2
  rw [l3, os.sum] at f2
  generalize hF : lots.flatten = F at f1 f2 f3 f4
  have st5 : s_law_5 [some (.d S), some (.d (.list (r.map PyData.int))), some (.d (.tuple (ss.map PyData.int))), some (.d (.list (F.map PyData.int))), some (.own (lots.map tupD)), t, none, none, none, none, none] = .nx [some (.d S), some (.d (.list (r.map PyData.int))), some (.d (.tuple (ss.map PyData.int))), some (.d (.tuple ((sortI F).map PyData.int))), some (.own (lots.map tupD)), t, none, none, none, none, none] := by
    simp [s_law_5, b_ok, b_err, b_bad, o_ok, o_err, n_ok, sSeq_K, seqK_nx, seqK_rt, seqK_er, v_d, v_Rd, v_Ro, v_Fo, v_Fi, v_Fb, v_Fs, v_Ft, v_Fn, f_o, f_d, a_i, a_b, a_l, a_sl, a_st, l_i, l_b, l_s, l_t, l_n, t_b, t_l, t_t, p_add, p_addT, p_addL, p_sub, p_mul, p_mod, p_div, p_pow, p_lt, p_le, p_gt, p_ge, p_min, p_max, p_lenL, p_lenT, p_tupL, p_tupT, p_lstL, p_lstT, p_ixL, p_ixT, p_slL, p_slT, p_eq, p_ne, p_isN, p_isNotN, r_1, r_2, c_k, c_j, i_non, i_bl, i_int, i_str, i_lst, i_tup, gTup_b, gLst_b, mkT_ok, mkL_ok, sap, sit, itK_ok, sex, exK_ok, sre, reK_ok, p_srtL, p_srtT, p_sumL, p_sumT, rs_rt, rs_nx, rs_er, p_inT, p_ninT, p_inL, shp_i, shp_b, shp_n, shp_T, shp_L, eqv_T, eqv_I, sIf, sRet, sSet, sSetO, sDrop, sNext, sRaise, sFrz, gTest, gBin, gUn, gC, gNl, gB, gAnd, gOr, gNot, gIf, gTru, aNil, aCons, gCall, gChain, gIsi, gSeq, gRg1, gRg2, sFor, tgN, gYes, sAsg, tg2, tg3, sPar, gSl, oSo, oNo, gEnum, gZip, gZipM, gR1, gR2, gLRg, gTRg, gLCnt, gLIdx]
  rw [q_nx st5]
  have q1 : (sortI F).length = F.length := sortI_len F
  have q2 : PosL (sortI F) := fun x hx => f1 x ((sortI_perm F).mem_iff.mp hx)
  have q3 : (sortI F).sum = total := by rw [perm_sum (sortI_perm F)]; exact f2
  have q4 := sortI_sorted F
  generalize sortI F = ps at q1 q2 q3 q4
  have eqs : pEq (.str "pieces") (.str "pieces") = .ok (.bool true) := by
    have e : PyData.eqv (.str "pieces") (.str "pieces") = true := by decide +kernel
    rw [p_eq (by decide +kernel) (by decide +kernel), e]
  by_cases h13 : 13 < ps.length
  · have no : m_is_rising [.tuple (ps.map PyData.int), .int 13, .int 99] = .ok (.bool false) := by
      rw [rising_tup (nd_ints ps) (by rw [List.length_map]; omega)]
      cases e : isR (ps.map PyData.int) 13 99 with
      | false => rfl
      | true => have := (isR_ints.mp e).1.2; omega
    have w := word_pieces (y := .tuple (ss.map PyData.int)) no
    have h13' : (13 : Int) < ps.length := by omega
    have st6 : s_law_6 [some (.d S), some (.d (.list (r.map PyData.int))), some (.d (.tuple (ss.map PyData.int))), some (.d (.tuple (ps.map PyData.int))), some (.own (lots.map tupD)), t, none, none, none, none, none] = .rt (.bool true) := by
      simp [s_law_6, b_ok, b_err, b_bad, o_ok, o_err, n_ok, sSeq_K, seqK_nx, seqK_rt, seqK_er, v_d, v_Rd, v_Ro, v_Fo, v_Fi, v_Fb, v_Fs, v_Ft, v_Fn, f_o, f_d, a_i, a_b, a_l, a_sl, a_st, l_i, l_b, l_s, l_t, l_n, t_b, t_l, t_t, p_add, p_addT, p_addL, p_sub, p_mul, p_mod, p_div, p_pow, p_lt, p_le, p_gt, p_ge, p_min, p_max, p_lenL, p_lenT, p_tupL, p_tupT, p_lstL, p_lstT, p_ixL, p_ixT, p_slL, p_slT, p_eq, p_ne, p_isN, p_isNotN, r_1, r_2, c_k, c_j, i_non, i_bl, i_int, i_str, i_lst, i_tup, gTup_b, gLst_b, mkT_ok, mkL_ok, sap, sit, itK_ok, sex, exK_ok, sre, reK_ok, p_srtL, p_srtT, p_sumL, p_sumT, rs_rt, rs_nx, rs_er, p_inT, p_ninT, p_inL, shp_i, shp_b, shp_n, shp_T, shp_L, eqv_T, eqv_I, sIf, sRet, sSet, sSetO, sDrop, sNext, sRaise, sFrz, gTest, gBin, gUn, gC, gNl, gB, gAnd, gOr, gNot, gIf, gTru, aNil, aCons, gCall, gChain, gIsi, gSeq, gRg1, gRg2, sFor, tgN, gYes, sAsg, tg2, tg3, sPar, gSl, oSo, oNo, gEnum, gZip, gZipM, gR1, gR2, gLRg, gTRg, gLCnt, gLIdx, h13, h13', w, eqs]
    rw [q_rt st6]
    rfl
  have h13' : ¬ (13 : Int) < ps.length := by omega
  have hp : PcOk ps := ⟨by have := os.one; omega, by omega, fun x hx => ⟨q2 x hx, by have := le_sum q2 x hx; omega⟩, q4⟩
  have st6 : s_law_6 [some (.d S), some (.d (.list (r.map PyData.int))), some (.d (.tuple (ss.map PyData.int))), some (.d (.tuple (ps.map PyData.int))), some (.own (lots.map tupD)), t, none, none, none, none, none] = .nx [some (.d S), some (.d (.list (r.map PyData.int))), some (.d (.tuple (ss.map PyData.int))), some (.d (.tuple (ps.map PyData.int))), some (.own (lots.map tupD)), t, none, none, none, none, none] := by
    simp [s_law_6, b_ok, b_err, b_bad, o_ok, o_err, n_ok, sSeq_K, seqK_nx, seqK_rt, seqK_er, v_d, v_Rd, v_Ro, v_Fo, v_Fi, v_Fb, v_Fs, v_Ft, v_Fn, f_o, f_d, a_i, a_b, a_l, a_sl, a_st, l_i, l_b, l_s, l_t, l_n, t_b, t_l, t_t, p_add, p_addT, p_addL, p_sub, p_mul, p_mod, p_div, p_pow, p_lt, p_le, p_gt, p_ge, p_min, p_max, p_lenL, p_lenT, p_tupL, p_tupT, p_lstL, p_lstT, p_ixL, p_ixT, p_slL, p_slT, p_eq, p_ne, p_isN, p_isNotN, r_1, r_2, c_k, c_j, i_non, i_bl, i_int, i_str, i_lst, i_tup, gTup_b, gLst_b, mkT_ok, mkL_ok, sap, sit, itK_ok, sex, exK_ok, sre, reK_ok, p_srtL, p_srtT, p_sumL, p_sumT, rs_rt, rs_nx, rs_er, p_inT, p_ninT, p_inL, shp_i, shp_b, shp_n, shp_T, shp_L, eqv_T, eqv_I, sIf, sRet, sSet, sSetO, sDrop, sNext, sRaise, sFrz, gTest, gBin, gUn, gC, gNl, gB, gAnd, gOr, gNot, gIf, gTru, aNil, aCons, gCall, gChain, gIsi, gSeq, gRg1, gRg2, sFor, tgN, gYes, sAsg, tg2, tg3, sPar, gSl, oSo, oNo, gEnum, gZip, gZipM, gR1, gR2, gLRg, gTRg, gLCnt, gLIdx, h13, h13']
  rw [q_nx st6]
  have i40 := rowIx hr (k := 40) (by decide) (by decide)
  have i41 := rowIx hr (k := 41) (by decide) (by decide)
  have i42 := rowIx hr (k := 42) (by decide) (by decide)
  have b40 := rowAt hr 40
  have b41 := rowAt hr 41
  have b42 := rowAt hr 42
  generalize r.getD (40 : Int).toNat 0 = u40 at i40 b40
  generalize r.getD (41 : Int).toNat 0 = u41 at i41 b41
  generalize r.getD (42 : Int).toNat 0 = u42 at i42 b42
  have s1 := os.one
  have hposN : 0 < ss.length := by omega
  have a0 : 0 ≤ u40 % ss.length := Int.emod_nonneg _ (by omega)
  have a1 : u40 % ss.length < ss.length := Int.emod_lt_of_pos _ (by omega)
  have st7 : s_law_7 [some (.d S), some (.d (.list (r.map PyData.int))), some (.d (.tuple (ss.map PyData.int))), some (.d (.tuple (ps.map PyData.int))), some (.own (lots.map tupD)), t, none, none, none, none, none] = .nx [some (.d S), some (.d (.list (r.map PyData.int))), some (.d (.tuple (ss.map PyData.int))), some (.d (.tuple (ps.map PyData.int))), some (.own (lots.map tupD)), some (.d (.int (u40 % ss.length))), none, none, none, none, none] := by
    simp [s_law_7, b_ok, b_err, b_bad, o_ok, o_err, n_ok, sSeq_K, seqK_nx, seqK_rt, seqK_er, v_d, v_Rd, v_Ro, v_Fo, v_Fi, v_Fb, v_Fs, v_Ft, v_Fn, f_o, f_d, a_i, a_b, a_l, a_sl, a_st, l_i, l_b, l_s, l_t, l_n, t_b, t_l, t_t, p_add, p_addT, p_addL, p_sub, p_mul, p_mod, p_div, p_pow, p_lt, p_le, p_gt, p_ge, p_min, p_max, p_lenL, p_lenT, p_tupL, p_tupT, p_lstL, p_lstT, p_ixL, p_ixT, p_slL, p_slT, p_eq, p_ne, p_isN, p_isNotN, r_1, r_2, c_k, c_j, i_non, i_bl, i_int, i_str, i_lst, i_tup, gTup_b, gLst_b, mkT_ok, mkL_ok, sap, sit, itK_ok, sex, exK_ok, sre, reK_ok, p_srtL, p_srtT, p_sumL, p_sumT, rs_rt, rs_nx, rs_er, p_inT, p_ninT, p_inL, shp_i, shp_b, shp_n, shp_T, shp_L, eqv_T, eqv_I, sIf, sRet, sSet, sSetO, sDrop, sNext, sRaise, sFrz, gTest, gBin, gUn, gC, gNl, gB, gAnd, gOr, gNot, gIf, gTru, aNil, aCons, gCall, gChain, gIsi, gSeq, gRg1, gRg2, sFor, tgN, gYes, sAsg, tg2, tg3, sPar, gSl, oSo, oNo, gEnum, gZip, gZipM, gR1, gR2, gLRg, gTRg, gLCnt, gLIdx, i40, hposN]
  rw [q_nx st7]
  generalize u40 % (ss.length : Int) = at_ at a0 a1
  have hlt : at_.toNat < lots.length := by omega
  have hmem := List.getElem_mem hlt
  obtain ⟨p1, p2, p3⟩ := l2 _ hmem
  have ea : L2.atI (lots.map tupD) at_ = some (tupD lots[at_.toNat]) := by
    rw [at_lit a0 (by rw [List.length_map]; omega)]
    simp [hlt]
  have lsum : lots[at_.toNat].sum ≤ 40 := by
    have le : lots[at_.toNat].sum ≤ (lots.map List.sum).sum := by
      refine le_sum (xs := lots.map List.sum) (fun x hx => ?_) _ (List.mem_map.mpr ⟨_, hmem, rfl⟩)
      obtain ⟨l, hl, rfl⟩ := List.mem_map.mp hx
      obtain ⟨c1, c2, _⟩ := l2 l hl
      cases l with
      | nil => simp at c2
      | cons y ys =>
        have := le_sum c1 y List.mem_cons_self
        have := c1 y List.mem_cons_self
        omega
    rw [l3, os.sum] at le
    omega
  have lpos : 1 ≤ lots[at_.toNat].sum := by
    generalize lots[at_.toNat] = l at p1 p2
    cases l with
    | nil => simp at p2
    | cons y ys =>
      have := le_sum p1 y List.mem_cons_self
      have := p1 y List.mem_cons_self
      omega
  generalize lots[at_.toNat] = lot at p1 p2 p3 ea lsum lpos
  have st8 : s_law_8 [some (.d S), some (.d (.list (r.map PyData.int))), some (.d (.tuple (ss.map PyData.int))), some (.d (.tuple (ps.map PyData.int))), some (.own (lots.map tupD)), some (.d (.int at_)), none, none, none, none, none] = .nx [some (.d S), some (.d (.list (r.map PyData.int))), some (.d (.tuple (ss.map PyData.int))), some (.d (.tuple (ps.map PyData.int))), some (.own (lots.map tupD)), some (.d (.int at_)), some (.d (.tuple (lot.map PyData.int))), none, none, none, none] := by
    simp [s_law_8, b_ok, b_err, b_bad, o_ok, o_err, n_ok, sSeq_K, seqK_nx, seqK_rt, seqK_er, v_d, v_Rd, v_Ro, v_Fo, v_Fi, v_Fb, v_Fs, v_Ft, v_Fn, f_o, f_d, a_i, a_b, a_l, a_sl, a_st, l_i, l_b, l_s, l_t, l_n, t_b, t_l, t_t, p_add, p_addT, p_addL, p_sub, p_mul, p_mod, p_div, p_pow, p_lt, p_le, p_gt, p_ge, p_min, p_max, p_lenL, p_lenT, p_tupL, p_tupT, p_lstL, p_lstT, p_ixL, p_ixT, p_slL, p_slT, p_eq, p_ne, p_isN, p_isNotN, r_1, r_2, c_k, c_j, i_non, i_bl, i_int, i_str, i_lst, i_tup, gTup_b, gLst_b, mkT_ok, mkL_ok, sap, sit, itK_ok, sex, exK_ok, sre, reK_ok, p_srtL, p_srtT, p_sumL, p_sumT, rs_rt, rs_nx, rs_er, p_inT, p_ninT, p_inL, shp_i, shp_b, shp_n, shp_T, shp_L, eqv_T, eqv_I, sIf, sRet, sSet, sSetO, sDrop, sNext, sRaise, sFrz, gTest, gBin, gUn, gC, gNl, gB, gAnd, gOr, gNot, gIf, gTru, aNil, aCons, gCall, gChain, gIsi, gSeq, gRg1, gRg2, sFor, tgN, gYes, sAsg, tg2, tg3, sPar, gSl, oSo, oNo, gEnum, gZip, gZipM, gR1, gR2, gLRg, gTRg, gLCnt, gLIdx, ea, tupD]
  rw [q_nx st8]
  generalize hLD : lots.map tupD = LD
  have lLD : LD.length = ss.length := by rw [← hLD, List.length_map]; exact l1
  have fLD : ∀ l ∈ LD, fineL l := fun l hl => by
    rw [← hLD] at hl
    obtain ⟨x, hx, rfl⟩ := List.mem_map.mp hl
    obtain ⟨_, _, c3⟩ := l2 x hx
    exact fineT (by omega)
  have tLD : ∀ l ∈ LD, ∃ x : List Int, l = .tuple (x.map PyData.int) ∧ 1 ≤ x.length ∧ x.length ≤ 3 := fun l hl => by
    rw [← hLD] at hl
    obtain ⟨x, hx, rfl⟩ := List.mem_map.mp hl
    obtain ⟨_, c2, c3⟩ := l2 x hx
    exact ⟨x, rfl, c2, c3⟩
  obtain ⟨y1, ey1, oy1⟩ := list_ok hr (at_ := 43) (total := lot.sum) (most := 3) (by decide) lpos (by decide) (by decide)
  obtain ⟨y2, ey2, oy2⟩ := list_ok hr (at_ := 50) (total := lot.sum) (most := 2) (by decide) lpos (by decide) (by decide)
  have y1l : y1.length ≤ 3 := oy1.len
  have y2l : y2.length ≤ 2 := oy2.len
  have st9 : ∃ B : List PyData, B.length = 8 ∧ (∀ b ∈ B, fineL b) ∧ s_law_9 [some (.d S), some (.d (.list (r.map PyData.int))), some (.d (.tuple (ss.map PyData.int))), some (.d (.tuple (ps.map PyData.int))), some (.own LD), some (.d (.int at_)), some (.d (.tuple (lot.map PyData.int))), none, none, none, none] = .nx [some (.d S), some (.d (.list (r.map PyData.int))), some (.d (.tuple (ss.map PyData.int))), some (.d (.tuple (ps.map PyData.int))), some (.own LD), some (.d (.int at_)), some (.d (.tuple (lot.map PyData.int))), some (.d (.list B)), none, none, none] := by
    have c1 := cut_len lot none (some 1)
    have c2 := cut_len lot (some 1) none
    have x1 : pAdd (.tuple (lot.map PyData.int)) (.tuple [.int 0]) = .ok (.tuple ((lot ++ [0]).map PyData.int)) := by
      rw [p_addT (by simp; omega)]; simp
    have x2 : pSl (.tuple (lot.map PyData.int)) (some 1) none = .ok (.tuple ((cutD lot (some 1) none).map PyData.int)) := by rw [p_slT, cut_ints]
    have x3 : pSl (.tuple (lot.map PyData.int)) none (some 1) = .ok (.tuple ((cutD lot none (some 1)).map PyData.int)) := by rw [p_slT, cut_ints]
    have x4 : pAdd (.tuple (lot.map PyData.int)) (.tuple ((cutD lot none (some 1)).map PyData.int)) = .ok (.tuple ((lot ++ cutD lot none (some 1)).map PyData.int)) := by
      rw [p_addT (by simp; omega)]; simp
    have x5 : pRev (.tuple (lot.map PyData.int)) = .ok (.tuple (lot.reverse.map PyData.int)) := by
      show Rs.ok (PyData.tuple (lot.map PyData.int).reverse) = _
      rw [List.map_reverse]
    obtain ⟨mm, hmm, mm0, mm1⟩ : ∃ mm : Int, (if (13 : Int) < lot.sum then (13 : Int) else lot.sum) = mm ∧ 0 ≤ mm ∧ mm ≤ 13 := ⟨_, rfl, by split <;> omega, by split <;> omega⟩
    have x6 : pMul (.list [.int 1]) (.int mm) = .ok (.list ((List.replicate mm.toNat (1 : Int)).map PyData.int)) := by
      show (if _ then _ else _) = _
      rw [if_pos ⟨⟨by omega, by omega⟩, by simp [SB.sz]; omega⟩, rep_int]
    refine ⟨[.tuple (lot.reverse.map PyData.int), .tuple ((lot ++ [0]).map PyData.int), .tuple ((cutD lot (some 1) none).map PyData.int), .tuple ((lot ++ cutD lot none (some 1)).map PyData.int), .list (lot.map PyData.int), .none, .tuple [.int lot.sum], .tuple ((List.replicate mm.toNat (1 : Int)).map PyData.int)], rfl, fun b hb => ?_, ?_⟩
    · simp only [List.mem_cons, List.not_mem_nil, or_false] at hb
      rcases hb with rfl | rfl | rfl | rfl | rfl | rfl | rfl | rfl
      · exact fineT (by rw [List.length_reverse]; omega)
      · exact fineT (by rw [List.length_append]; simp; omega)
      · exact fineT (by omega)
      · exact fineT (by rw [List.length_append]; omega)
      · exact fineN rfl fun _ z => nomatch z
      · exact fineN rfl fun _ z => nomatch z
      · exact fineT (xs := [lot.sum]) (by simp)
      · exact fineT (by rw [List.length_replicate]; omega)
    · generalize lot.reverse.map PyData.int = B0 at x5
      generalize (lot ++ [0]).map PyData.int = B1 at x1
      generalize (cutD lot (some 1) none).map PyData.int = B2 at x2
      generalize (lot ++ cutD lot none (some 1)).map PyData.int = B3 at x4
      generalize (cutD lot none (some 1)).map PyData.int = B4 at x3 x4
      generalize (List.replicate mm.toNat (1 : Int)).map PyData.int = B5 at x6
      simp [s_law_9, b_ok, b_err, b_bad, o_ok, o_err, n_ok, sSeq_K, seqK_nx, seqK_rt, seqK_er, v_d, v_Rd, v_Ro, v_Fo, v_Fi, v_Fb, v_Fs, v_Ft, v_Fn, f_o, f_d, a_i, a_b, a_l, a_sl, a_st, l_i, l_b, l_s, l_t, l_n, t_b, t_l, t_t, p_add, p_addT, p_addL, p_sub, p_mul, p_mod, p_div, p_pow, p_lt, p_le, p_gt, p_ge, p_min, p_max, p_lenL, p_lenT, p_tupL, p_tupT, p_lstL, p_lstT, p_ixL, p_ixT, p_slL, p_slT, p_eq, p_ne, p_isN, p_isNotN, r_1, r_2, c_k, c_j, i_non, i_bl, i_int, i_str, i_lst, i_tup, gTup_b, gLst_b, mkT_ok, mkL_ok, sap, sit, itK_ok, sex, exK_ok, sre, reK_ok, p_srtL, p_srtT, p_sumL, p_sumT, rs_rt, rs_nx, rs_er, p_inT, p_ninT, p_inL, shp_i, shp_b, shp_n, shp_T, shp_L, eqv_T, eqv_I, sIf, sRet, sSet, sSetO, sDrop, sNext, sRaise, sFrz, gTest, gBin, gUn, gC, gNl, gB, gAnd, gOr, gNot, gIf, gTru, aNil, aCons, gCall, gChain, gIsi, gSeq, gRg1, gRg2, sFor, tgN, gYes, sAsg, tg2, tg3, sPar, gSl, oSo, oNo, gEnum, gZip, gZipM, gR1, gR2, gLRg, gTRg, gLCnt, gLIdx, x1, x2, x3, x4, x5, hmm, x6]
  obtain ⟨B, lB, fB, st9⟩ := st9
  have st10 : s_law_10 [some (.d S), some (.d (.list (r.map PyData.int))), some (.d (.tuple (ss.map PyData.int))), some (.d (.tuple (ps.map PyData.int))), some (.own LD), some (.d (.int at_)), some (.d (.tuple (lot.map PyData.int))), some (.d (.list B)), none, none, none] = .nx [some (.d S), some (.d (.list (r.map PyData.int))), some (.d (.tuple (ss.map PyData.int))), some (.d (.tuple (ps.map PyData.int))), some (.own LD), some (.d (.int at_)), some (.d (.tuple (lot.map PyData.int))), some (.d (.list (B ++ [.tuple (y1.map PyData.int), .tuple (y2.map PyData.int)]))), none, none, none] := by
    simp [s_law_10, b_ok, b_err, b_bad, o_ok, o_err, n_ok, sSeq_K, seqK_nx, seqK_rt, seqK_er, v_d, v_Rd, v_Ro, v_Fo, v_Fi, v_Fb, v_Fs, v_Ft, v_Fn, f_o, f_d, a_i, a_b, a_l, a_sl, a_st, l_i, l_b, l_s, l_t, l_n, t_b, t_l, t_t, p_add, p_addT, p_addL, p_sub, p_mul, p_mod, p_div, p_pow, p_lt, p_le, p_gt, p_ge, p_min, p_max, p_lenL, p_lenT, p_tupL, p_tupT, p_lstL, p_lstT, p_ixL, p_ixT, p_slL, p_slT, p_eq, p_ne, p_isN, p_isNotN, r_1, r_2, c_k, c_j, i_non, i_bl, i_int, i_str, i_lst, i_tup, gTup_b, gLst_b, mkT_ok, mkL_ok, sap, sit, itK_ok, sex, exK_ok, sre, reK_ok, p_srtL, p_srtT, p_sumL, p_sumT, rs_rt, rs_nx, rs_er, p_inT, p_ninT, p_inL, shp_i, shp_b, shp_n, shp_T, shp_L, eqv_T, eqv_I, sIf, sRet, sSet, sSetO, sDrop, sNext, sRaise, sFrz, gTest, gBin, gUn, gC, gNl, gB, gAnd, gOr, gNot, gIf, gTru, aNil, aCons, gCall, gChain, gIsi, gSeq, gRg1, gRg2, sFor, tgN, gYes, sAsg, tg2, tg3, sPar, gSl, oSo, oNo, gEnum, gZip, gZipM, gR1, gR2, gLRg, gTRg, gLCnt, gLIdx, ey1, ey2, lB]
  rw [q_nx st9, q_nx st10]
  have lB2 : (B ++ [PyData.tuple (y1.map PyData.int), PyData.tuple (y2.map PyData.int)]).length = 10 := by rw [List.length_append, lB]; rfl
  have fB2 : ∀ b ∈ B ++ [PyData.tuple (y1.map PyData.int), PyData.tuple (y2.map PyData.int)], fineL b := fun b hb => by
    rcases List.mem_append.mp hb with hb | hb
    · exact fB b hb
    · simp only [List.mem_cons, List.not_mem_nil, or_false] at hb
      rcases hb with rfl | rfl
      · exact fineT (by omega)
      · exact fineT (by omega)
  generalize B ++ [PyData.tuple (y1.map PyData.int), PyData.tuple (y2.map PyData.int)] = B2 at lB2 fB2
  show ((sSeq s_law_11 (sSeq s_law_12 (sSeq s_law_13 s_law_14))) (frz 4 [some (.d S), some (.d (.list (r.map PyData.int))), some (.d (.tuple (ss.map PyData.int))), some (.d (.tuple (ps.map PyData.int))), some (.own LD), some (.d (.int at_)), some (.d (.tuple (lot.map PyData.int))), some (.d (.list B2)), none, none, none])).rs = _
  rw [f_o (xs := LD) rfl]
  show ((sSeq s_law_11 (sSeq s_law_12 (sSeq s_law_13 s_law_14))) [some (.d S), some (.d (.list (r.map PyData.int))), some (.d (.tuple (ss.map PyData.int))), some (.d (.tuple (ps.map PyData.int))), some (.d (.list LD)), some (.d (.int at_)), some (.d (.tuple (lot.map PyData.int))), some (.d (.list B2)), none, none, none]).rs = _
  have k41 : (u41 % 10).toNat < B2.length := by omega
  have eb : L2.atI B2 (u41 % 10) = some B2[(u41 % 10).toNat] := by
    rw [at_lit (by omega) (by omega), List.getElem?_eq_getElem k41]
  have fb := fB2 _ (List.getElem_mem k41)
  generalize B2[(u41 % 10).toNat] = bt at eb fb
  have d1 := cut_len LD none (some at_)
  have d2 := cut_len LD (some (at_ + 1)) none
  have d3 := cut_len LD (some 1) none
  have st11 : s_law_11 [some (.d S), some (.d (.list (r.map PyData.int))), some (.d (.tuple (ss.map PyData.int))), some (.d (.tuple (ps.map PyData.int))), some (.d (.list LD)), some (.d (.int at_)), some (.d (.tuple (lot.map PyData.int))), some (.d (.list B2)), none, none, none] = .nx [some (.d S), some (.d (.list (r.map PyData.int))), some (.d (.tuple (ss.map PyData.int))), some (.d (.tuple (ps.map PyData.int))), some (.d (.list LD)), some (.d (.int at_)), some (.d (.tuple (lot.map PyData.int))), some (.d (.list B2)), some (.d (.list [.list LD, .list (cutD LD none (some at_) ++ [bt] ++ cutD LD (some (at_ + 1)) none), .list LD.reverse, .list (cutD LD (some 1) none)])), none, none] := by
    have x1 : pRev (.list LD) = .ok (.list LD.reverse) := rfl
    have x2 : pAdd (.list (cutD LD none (some at_))) (.list [bt]) = .ok (.list (cutD LD none (some at_) ++ [bt])) := p_addL (by simp; omega)
    have x3 : pAdd (.list (cutD LD none (some at_) ++ [bt])) (.list (cutD LD (some (at_ + 1)) none)) = .ok (.list (cutD LD none (some at_) ++ [bt] ++ cutD LD (some (at_ + 1)) none)) := p_addL (by simp; omega)
    generalize cutD LD none (some at_) ++ [bt] ++ cutD LD (some (at_ + 1)) none = C3 at x3
    generalize hC2 : cutD LD none (some at_) ++ [bt] = C2 at x2 x3
    simp [s_law_11, b_ok, b_err, b_bad, o_ok, o_err, n_ok, sSeq_K, seqK_nx, seqK_rt, seqK_er, v_d, v_Rd, v_Ro, v_Fo, v_Fi, v_Fb, v_Fs, v_Ft, v_Fn, f_o, f_d, a_i, a_b, a_l, a_sl, a_st, l_i, l_b, l_s, l_t, l_n, t_b, t_l, t_t, p_add, p_addT, p_addL, p_sub, p_mul, p_mod, p_div, p_pow, p_lt, p_le, p_gt, p_ge, p_min, p_max, p_lenL, p_lenT, p_tupL, p_tupT, p_lstL, p_lstT, p_ixL, p_ixT, p_slL, p_slT, p_eq, p_ne, p_isN, p_isNotN, r_1, r_2, c_k, c_j, i_non, i_bl, i_int, i_str, i_lst, i_tup, gTup_b, gLst_b, mkT_ok, mkL_ok, sap, sit, itK_ok, sex, exK_ok, sre, reK_ok, p_srtL, p_srtT, p_sumL, p_sumT, rs_rt, rs_nx, rs_er, p_inT, p_ninT, p_inL, shp_i, shp_b, shp_n, shp_T, shp_L, eqv_T, eqv_I, sIf, sRet, sSet, sSetO, sDrop, sNext, sRaise, sFrz, gTest, gBin, gUn, gC, gNl, gB, gAnd, gOr, gNot, gIf, gTru, aNil, aCons, gCall, gChain, gIsi, gSeq, gRg1, gRg2, sFor, tgN, gYes, sAsg, tg2, tg3, sPar, gSl, oSo, oNo, gEnum, gZip, gZipM, gR1, gR2, gLRg, gTRg, gLCnt, gLIdx, i41, eb, x1, x2, x3]
  rw [q_nx st11]
  have lc : gLc [10] (gSeq (gVar 4)) (tgN 10) gYes (gBin pMul (gTup (aCons (gC (.bool true)) aNil)) (gUn pLen (gVar 10))) [some (.d S), some (.d (.list (r.map PyData.int))), some (.d (.tuple (ss.map PyData.int))), some (.d (.tuple (ps.map PyData.int))), some (.d (.list LD)), some (.d (.int at_)), some (.d (.tuple (lot.map PyData.int))), some (.d (.list B2)), some (.d (.list [.list LD, .list (cutD LD none (some at_) ++ [bt] ++ cutD LD (some (at_ + 1)) none), .list LD.reverse, .list (cutD LD (some 1) none)])), none, none] = .ok (.list ((LD.filter fun _ => true).map fun d => match d with | .tuple xs => .tuple (repD xs.length [.bool true]) | d => d)) := by
    refine gLc_eq _ _ rfl (by omega) fun d hd => ⟨_, rfl, rfl, fun _ => ?_⟩
    obtain ⟨x, rfl, c2, c3⟩ := tLD d hd
    have pm : pMul (.tuple [.bool true]) (.int (x.length : Nat)) = .ok (.tuple (repD x.length [.bool true])) := by
      show (if _ then _ else _) = _
      rw [if_pos ⟨by simp, by omega, by omega, by simp⟩]
      simp
    simp [b_ok, b_err, b_bad, o_ok, o_err, n_ok, sSeq_K, seqK_nx, seqK_rt, seqK_er, v_d, v_Rd, v_Ro, v_Fo, v_Fi, v_Fb, v_Fs, v_Ft, v_Fn, f_o, f_d, a_i, a_b, a_l, a_sl, a_st, l_i, l_b, l_s, l_t, l_n, t_b, t_l, t_t, p_add, p_addT, p_addL, p_sub, p_mul, p_mod, p_div, p_pow, p_lt, p_le, p_gt, p_ge, p_min, p_max, p_lenL, p_lenT, p_tupL, p_tupT, p_lstL, p_lstT, p_ixL, p_ixT, p_slL, p_slT, p_eq, p_ne, p_isN, p_isNotN, r_1, r_2, c_k, c_j, i_non, i_bl, i_int, i_str, i_lst, i_tup, gTup_b, gLst_b, mkT_ok, mkL_ok, sap, sit, itK_ok, sex, exK_ok, sre, reK_ok, p_srtL, p_srtT, p_sumL, p_sumT, rs_rt, rs_nx, rs_er, p_inT, p_ninT, p_inL, shp_i, shp_b, shp_n, shp_T, shp_L, eqv_T, eqv_I, sIf, sRet, sSet, sSetO, sDrop, sNext, sRaise, sFrz, gTest, gBin, gUn, gC, gNl, gB, gAnd, gOr, gNot, gIf, gTru, aNil, aCons, gCall, gChain, gIsi, gSeq, gRg1, gRg2, sFor, tgN, gYes, sAsg, tg2, tg3, sPar, gSl, oSo, oNo, gEnum, gZip, gZipM, gR1, gR2, gLRg, gTRg, gLCnt, gLIdx, wipeS, pm]
  rw [List.filter_eq_self.mpr (fun _ _ => rfl)] at lc
  have fBL : ∀ b ∈ (LD.map fun d => match d with | .tuple xs => PyData.tuple (repD xs.length [.bool true]) | d => d), fineL b := fun b hb => by
    obtain ⟨d, hd, rfl⟩ := List.mem_map.mp hb
    obtain ⟨x, rfl, c2, c3⟩ := tLD d hd
    exact fineB (by rw [List.length_map]; omega)
  have lBL : (LD.map fun d => match d with | .tuple xs => PyData.tuple (repD xs.length [.bool true]) | d => d).length = LD.length := List.length_map ..
  generalize (LD.map fun d => match d with | .tuple xs => PyData.tuple (repD xs.length [.bool true]) | d => d) = BL at lc fBL lBL
  have fC : fine (.list (cutD LD none (some at_) ++ [bt] ++ cutD LD (some (at_ + 1)) none)) := fineList (by simp; omega) fun l hl => by
    rcases List.mem_append.mp hl with hl | hl
    · rcases List.mem_append.mp hl with hl | hl
      · exact fLD l (cut_mem hl)
      · rw [List.mem_singleton.mp hl]; exact fb
    · exact fLD l (cut_mem hl)
  generalize cutD LD none (some at_) ++ [bt] ++ cutD LD (some (at_ + 1)) none = C3 at fC lc
  have st12 : s_law_12 [some (.d S), some (.d (.list (r.map PyData.int))), some (.d (.tuple (ss.map PyData.int))), some (.d (.tuple (ps.map PyData.int))), some (.d (.list LD)), some (.d (.int at_)), some (.d (.tuple (lot.map PyData.int))), some (.d (.list B2)), some (.d (.list [.list LD, .list C3, .list LD.reverse, .list (cutD LD (some 1) none)])), none, none] = .nx [some (.d S), some (.d (.list (r.map PyData.int))), some (.d (.tuple (ss.map PyData.int))), some (.d (.tuple (ps.map PyData.int))), some (.d (.list LD)), some (.d (.int at_)), some (.d (.tuple (lot.map PyData.int))), some (.d (.list B2)), some (.d (.list [.list LD, .list C3, .list LD.reverse, .list (cutD LD (some 1) none), .tuple LD, .none, .list (LD ++ [.tuple [.int 1]]), .list BL])), none, none] := by
    have x1 : pAdd (.list LD) (.list [.tuple [.int 1]]) = .ok (.list (LD ++ [.tuple [.int 1]])) := p_addL (by simp; omega)
    simp [s_law_12, b_ok, b_err, b_bad, o_ok, o_err, n_ok, sSeq_K, seqK_nx, seqK_rt, seqK_er, v_d, v_Rd, v_Ro, v_Fo, v_Fi, v_Fb, v_Fs, v_Ft, v_Fn, f_o, f_d, a_i, a_b, a_l, a_sl, a_st, l_i, l_b, l_s, l_t, l_n, t_b, t_l, t_t, p_add, p_addT, p_addL, p_sub, p_mul, p_mod, p_div, p_pow, p_lt, p_le, p_gt, p_ge, p_min, p_max, p_lenL, p_lenT, p_tupL, p_tupT, p_lstL, p_lstT, p_ixL, p_ixT, p_slL, p_slT, p_eq, p_ne, p_isN, p_isNotN, r_1, r_2, c_k, c_j, i_non, i_bl, i_int, i_str, i_lst, i_tup, gTup_b, gLst_b, mkT_ok, mkL_ok, sap, sit, itK_ok, sex, exK_ok, sre, reK_ok, p_srtL, p_srtT, p_sumL, p_sumT, rs_rt, rs_nx, rs_er, p_inT, p_ninT, p_inL, shp_i, shp_b, shp_n, shp_T, shp_L, eqv_T, eqv_I, sIf, sRet, sSet, sSetO, sDrop, sNext, sRaise, sFrz, gTest, gBin, gUn, gC, gNl, gB, gAnd, gOr, gNot, gIf, gTru, aNil, aCons, gCall, gChain, gIsi, gSeq, gRg1, gRg2, sFor, tgN, gYes, sAsg, tg2, tg3, sPar, gSl, oSo, oNo, gEnum, gZip, gZipM, gR1, gR2, gLRg, gTRg, gLCnt, gLIdx, x1, lc]
  rw [q_nx st12]
  have fO : ∀ o ∈ ([.list LD, .list C3, .list LD.reverse, .list (cutD LD (some 1) none), .tuple LD, .none, .list (LD ++ [.tuple [.int 1]]), .list BL] : List PyData), fine o := fun o ho => by
    simp only [List.mem_cons, List.not_mem_nil, or_false] at ho
    rcases ho with rfl | rfl | rfl | rfl | rfl | rfl | rfl | rfl
    · exact fineList (by omega) fLD
    · exact fC
    · exact fineList (by rw [List.length_reverse]; omega) fun l hl => fLD l (List.mem_reverse.mp hl)
    · exact fineList (by omega) fun l hl => fLD l (cut_mem hl)
    · exact fineO rfl fun _ z => nomatch z
    · exact fineO rfl fun _ z => nomatch z
    · refine fineList (by simp; omega) fun l hl => ?_
      rcases List.mem_append.mp hl with hl | hl
      · exact fLD l hl
      · rw [List.mem_singleton.mp hl]; exact fineT (xs := [1]) (by simp)
    · exact fineList (by omega) fBL
  generalize hO : ([.list LD, .list C3, .list LD.reverse, .list (cutD LD (some 1) none), .tuple LD, .none, .list (LD ++ [.tuple [.int 1]]), .list BL] : List PyData) = OO at fO
  have lO : OO.length = 8 := by rw [← hO]; rfl
  have k42 : (u42 % 8).toNat < OO.length := by omega
  have eo : L2.atI OO (u42 % 8) = some OO[(u42 % 8).toNat] := by
    rw [at_lit (by omega) (by omega), List.getElem?_eq_getElem k42]
  have fo := fO _ (List.getElem_mem k42)
  generalize OO[(u42 % 8).toNat] = th at eo fo
  have st13 : s_law_13 [some (.d S), some (.d (.list (r.map PyData.int))), some (.d (.tuple (ss.map PyData.int))), some (.d (.tuple (ps.map PyData.int))), some (.d (.list LD)), some (.d (.int at_)), some (.d (.tuple (lot.map PyData.int))), some (.d (.list B2)), some (.d (.list OO)), none, none] = .nx [some (.d S), some (.d (.list (r.map PyData.int))), some (.d (.tuple (ss.map PyData.int))), some (.d (.tuple (ps.map PyData.int))), some (.d (.list LD)), some (.d (.int at_)), some (.d (.tuple (lot.map PyData.int))), some (.d (.list B2)), some (.d (.list OO)), some (.d th), none] := by
    simp [s_law_13, b_ok, b_err, b_bad, o_ok, o_err, n_ok, sSeq_K, seqK_nx, seqK_rt, seqK_er, v_d, v_Rd, v_Ro, v_Fo, v_Fi, v_Fb, v_Fs, v_Ft, v_Fn, f_o, f_d, a_i, a_b, a_l, a_sl, a_st, l_i, l_b, l_s, l_t, l_n, t_b, t_l, t_t, p_add, p_addT, p_addL, p_sub, p_mul, p_mod, p_div, p_pow, p_lt, p_le, p_gt, p_ge, p_min, p_max, p_lenL, p_lenT, p_tupL, p_tupT, p_lstL, p_lstT, p_ixL, p_ixT, p_slL, p_slT, p_eq, p_ne, p_isN, p_isNotN, r_1, r_2, c_k, c_j, i_non, i_bl, i_int, i_str, i_lst, i_tup, gTup_b, gLst_b, mkT_ok, mkL_ok, sap, sit, itK_ok, sex, exK_ok, sre, reK_ok, p_srtL, p_srtT, p_sumL, p_sumT, rs_rt, rs_nx, rs_er, p_inT, p_ninT, p_inL, shp_i, shp_b, shp_n, shp_T, shp_L, eqv_T, eqv_I, sIf, sRet, sSet, sSetO, sDrop, sNext, sRaise, sFrz, gTest, gBin, gUn, gC, gNl, gB, gAnd, gOr, gNot, gIf, gTru, aNil, aCons, gCall, gChain, gIsi, gSeq, gRg1, gRg2, sFor, tgN, gYes, sAsg, tg2, tg3, sPar, gSl, oSo, oNo, gEnum, gZip, gZipM, gR1, gR2, gLRg, gTRg, gLCnt, gLIdx, i42, eo]
  rw [q_nx st13]
  have z1 := deal_ok hp ls (by rw [q3, os.sum]) fo
  have z2 := lawd_ok ps ss fo
  have ee : ∀ b : Bool, pEq (.bool b) (.bool b) = .ok (.bool true) := fun b => by
    rw [p_eq (shp_b b) (shp_b b), PyData.eqv]
    simp
  simp [s_law_14, b_ok, b_err, b_bad, o_ok, o_err, n_ok, sSeq_K, seqK_nx, seqK_rt, seqK_er, v_d, v_Rd, v_Ro, v_Fo, v_Fi, v_Fb, v_Fs, v_Ft, v_Fn, f_o, f_d, a_i, a_b, a_l, a_sl, a_st, l_i, l_b, l_s, l_t, l_n, t_b, t_l, t_t, p_add, p_addT, p_addL, p_sub, p_mul, p_mod, p_div, p_pow, p_lt, p_le, p_gt, p_ge, p_min, p_max, p_lenL, p_lenT, p_tupL, p_tupT, p_lstL, p_lstT, p_ixL, p_ixT, p_slL, p_slT, p_eq, p_ne, p_isN, p_isNotN, r_1, r_2, c_k, c_j, i_non, i_bl, i_int, i_str, i_lst, i_tup, gTup_b, gLst_b, mkT_ok, mkL_ok, sap, sit, itK_ok, sex, exK_ok, sre, reK_ok, p_srtL, p_srtT, p_sumL, p_sumT, rs_rt, rs_nx, rs_er, p_inT, p_ninT, p_inL, shp_i, shp_b, shp_n, shp_T, shp_L, eqv_T, eqv_I, sIf, sRet, sSet, sSetO, sDrop, sNext, sRaise, sFrz, gTest, gBin, gUn, gC, gNl, gB, gAnd, gOr, gNot, gIf, gTru, aNil, aCons, gCall, gChain, gIsi, gSeq, gRg1, gRg2, sFor, tgN, gYes, sAsg, tg2, tg3, sPar, gSl, oSo, oNo, gEnum, gZip, gZipM, gR1, gR2, gLRg, gTRg, gLCnt, gLIdx, z1, z2, ee]
  rw [PyData.eqv]
  simp
end SBL

namespace SBL
open PySem PySem.Spec PyProof.Rows L2 RZ SB
def d0 : He.DefD := ⟨("_law_cell", none), "_law_cell", "_law_cell", defArgs (top 27), defBody (top 27), defScope (top 27), [], []⟩
def d1 : He.DefD := ⟨("_law_row", none), "_law_row", "_law_row", defArgs (top 29), defBody (top 29), defScope (top 29), [], []⟩
def d2 : He.DefD := ⟨("_law_list", none), "_law_list", "_law_list", defArgs (top 31), defBody (top 31), defScope (top 31), [], []⟩
def d3 : He.DefD := ⟨("_law_two", none), "_law_two", "_law_two", defArgs (top 32), defBody (top 32), defScope (top 32), [], []⟩
def d4 : He.DefD := ⟨("is_within", none), "is_within", "is_within", defArgs (top 9), defBody (top 9), defScope (top 9), [], []⟩
def d5 : He.DefD := ⟨("is_rising", none), "is_rising", "is_rising", defArgs (top 10), defBody (top 10), defScope (top 10), [], []⟩
def d6 : He.DefD := ⟨("are_pieces", none), "are_pieces", "are_pieces", defArgs (top 15), defBody (top 15), defScope (top 15), [], []⟩
def d7 : He.DefD := ⟨("look_pieces", none), "look_pieces", "look_pieces", defArgs (top 16), defBody (top 16), defScope (top 16), [], []⟩
def d8 : He.DefD := ⟨("is_list", none), "is_list", "is_list", defArgs (top 11), defBody (top 11), defScope (top 11), [], []⟩
def d9 : He.DefD := ⟨("look", none), "look", "look", defArgs (top 12), defBody (top 12), defScope (top 12), [], []⟩
def d10 : He.DefD := ⟨("look_both", none), "look_both", "look_both", defArgs (top 17), defBody (top 17), defScope (top 17), [], []⟩
def d11 : He.DefD := ⟨("is_dealing", none), "is_dealing", "is_dealing", defArgs (top 23), defBody (top 23), defScope (top 23), [], []⟩
def d12 : He.DefD := ⟨("_law_whole", none), "_law_whole", "_law_whole", defArgs (top 28), defBody (top 28), defScope (top 28), [], []⟩
def d13 : He.DefD := ⟨("_law_in", none), "_law_in", "_law_in", defArgs (top 30), defBody (top 30), defScope (top 30), [], []⟩
def d14 : He.DefD := ⟨("_law_is_rising", none), "_law_is_rising", "_law_is_rising", defArgs (top 33), defBody (top 33), defScope (top 33), [], []⟩
def d15 : He.DefD := ⟨("_law_is_dealing", none), "_law_is_dealing", "_law_is_dealing", defArgs (top 35), defBody (top 35), defScope (top 35), [], []⟩
def d16 : He.DefD := ⟨("serves_of", none), "serves_of", "serves_of", defArgs (top 20), defBody (top 20), defScope (top 20), [], []⟩
def d17 : He.DefD := ⟨("serves", none), "serves", "serves", defArgs (top 21), defBody (top 21), defScope (top 21), [], []⟩
def d18 : He.DefD := ⟨("dealt", none), "dealt", "dealt", defArgs (top 19), defBody (top 19), defScope (top 19), [], []⟩
def d19 : He.DefD := ⟨("dealing", none), "dealing", "dealing", defArgs (top 22), defBody (top 22), defScope (top 22), [], []⟩
def d20 : He.DefD := ⟨("ways_from", none), "ways_from", "ways_from", defArgs (top 24), defBody (top 24), defScope (top 24), [], []⟩
def d21 : He.DefD := ⟨("how_many", none), "how_many", "how_many", defArgs (top 25), defBody (top 25), defScope (top 25), [], []⟩
def d22 : He.DefD := ⟨("_law_serve_word", none), "_law_serve_word", "_law_serve_word", defArgs (top 34), defBody (top 34), defScope (top 34), [], []⟩
def d23 : He.DefD := ⟨("law", none), "law", "law", defArgs (top 36), defBody (top 36), defScope (top 36), [], []⟩
def fnL0 : List He.DefD := [d0, d1, d2, d3, d4, d5, d6, d7, d8, d9, d10, d11, d12, d13, d14, d15, d16, d17, d18, d19, d20, d21, d22, d23]
def fnL : List He.DefD := fnL0
def faL0 : List He.Fa := [.glo "_law_cell", .glo "_law_row", .glo "_law_list", .glo "_law_two", .glo "is_within", .glo "is_rising", .glo "are_pieces", .glo "look_pieces", .glo "is_list", .glo "look", .glo "look_both", .glo "is_dealing", .glo "_law_whole", .glo "_law_in", .glo "_law_is_rising", .glo "_law_is_dealing", .glo "serves_of", .glo "serves", .glo "dealt", .glo "dealing", .glo "ways_from", .glo "how_many", .glo "_law_serve_word", .glo "law", .glo "ShareError", .glo "BadPieces", .glo "BadList", .glo "Unlike", .glo "CantServe", .free "bool"]
def faL1 : List He.Fa := [.free "enumerate", .free "int", .free "isinstance", .free "len", .free "list", .free "min", .free "range", .free "sorted", .free "sum", .free "tuple", .free "zip", .int "MOST_SHARES" 7, .int "MOST_SHARE" 99, .int "MOST_PIECES" 13, .exc "BadPieces", .exc "BadList", .exc "Unlike", .exc "CantServe"]
def faL : List He.Fa := faL0 ++ faL1
def loL0 : List PySem.Str := ["ShareError", "BadPieces", "BadList", "Unlike", "CantServe", "MOST_SHARES", "MOST_SHARE", "is_within", "is_rising", "is_list", "look", "MOST_PIECES", "are_pieces", "look_pieces", "look_both", "fillings", "dealt", "serves_of", "serves", "dealing", "is_dealing", "ways_from", "how_many", "_law_cell", "_law_whole", "_law_row", "_law_in", "_law_list", "_law_two", "_law_is_rising"]
def loL1 : List PySem.Str := ["_law_serve_word", "_law_is_dealing"]
def loL : List PySem.Str := loL0 ++ loL1
abbrev R : PySem.W.OpenRow := PySem.W.OpenLaw.row PySem.Challenge.rw_servesboth_k03_dealings_looked_at
abbrev hk : PySem.W.Hook := He.hookX 4 faL fnL [] [] (exB [0, 2, 3, 4, 5])
def ob (s : PySem.W.SharedT) : He.AlX := He.obsX 4 faL fnL [] [] (exB [0, 2, 3, 4, 5]) (HandSHeadRun.getT s)
theorem ob_eq (s : PySem.W.SharedT) : ob s = hk.obs s.abs := He.obsX_eq (HandSHeadRun.getT_eq s)
theorem run (w : World) : HandSHeadRun.RunEq R (PySem.W.view R.prog [36]) hk ob 8000 loL w := by
  intro os
  kernel_rfl
theorem tx {K : Frg} {h : Heap} {mg : Str → Option Value} (X : K.In h) (G : h.Ns mainGlobals mg) (c : He.SaysD faL fnL K) (e : exB [0, 2, 3, 4, 5] K = true) : Tx K mg where
  xf := ex_xf e
  b_bool := He.free_ok X G (c.fact 29 (f := .free "bool") rfl)
  b_enumerate := He.free_ok X G (c.fact 30 (f := .free "enumerate") rfl)
  b_int := He.free_ok X G (c.fact 31 (f := .free "int") rfl)
  b_isinstance := He.free_ok X G (c.fact 32 (f := .free "isinstance") rfl)
  b_len := He.free_ok X G (c.fact 33 (f := .free "len") rfl)
  b_list := He.free_ok X G (c.fact 34 (f := .free "list") rfl)
  b_min := He.free_ok X G (c.fact 35 (f := .free "min") rfl)
  b_range := He.free_ok X G (c.fact 36 (f := .free "range") rfl)
  b_sorted := He.free_ok X G (c.fact 37 (f := .free "sorted") rfl)
  b_sum := He.free_ok X G (c.fact 38 (f := .free "sum") rfl)
  b_tuple := He.free_ok X G (c.fact 39 (f := .free "tuple") rfl)
  b_zip := He.free_ok X G (c.fact 40 (f := .free "zip") rfl)
  c_MOST_SHARES := He.int_ok X G (c.fact 41 (f := .int "MOST_SHARES" 7) rfl)
  c_MOST_SHARE := He.int_ok X G (c.fact 42 (f := .int "MOST_SHARE" 99) rfl)
  c_MOST_PIECES := He.int_ok X G (c.fact 43 (f := .int "MOST_PIECES" 13) rfl)
  g_ShareError := in_of X G rfl (c.fact 24 (f := .glo "ShareError") rfl)
  x_BadPieces := ef_of X G rfl (c.fact 25 (f := .glo "BadPieces") rfl) (c.fact 44 (f := .exc "BadPieces") rfl)
  g_BadPieces := in_of X G rfl (c.fact 25 (f := .glo "BadPieces") rfl)
  x_BadList := ef_of X G rfl (c.fact 26 (f := .glo "BadList") rfl) (c.fact 45 (f := .exc "BadList") rfl)
  g_BadList := in_of X G rfl (c.fact 26 (f := .glo "BadList") rfl)
  x_Unlike := ef_of X G rfl (c.fact 27 (f := .glo "Unlike") rfl) (c.fact 46 (f := .exc "Unlike") rfl)
  g_Unlike := in_of X G rfl (c.fact 27 (f := .glo "Unlike") rfl)
  x_CantServe := ef_of X G rfl (c.fact 28 (f := .glo "CantServe") rfl) (c.fact 47 (f := .exc "CantServe") rfl)
  g_CantServe := in_of X G rfl (c.fact 28 (f := .glo "CantServe") rfl)
  d__law_cell := let ⟨fd, F⟩ := c.def_ 0 (d := d0) rfl; ⟨_, fd, F, He.glo_ok X G (c.fact 0 (f := .glo "_law_cell") rfl)⟩
  d__law_row := let ⟨fd, F⟩ := c.def_ 1 (d := d1) rfl; ⟨_, fd, F, He.glo_ok X G (c.fact 1 (f := .glo "_law_row") rfl)⟩
  d__law_list := let ⟨fd, F⟩ := c.def_ 2 (d := d2) rfl; ⟨_, fd, F, He.glo_ok X G (c.fact 2 (f := .glo "_law_list") rfl)⟩
  d__law_two := let ⟨fd, F⟩ := c.def_ 3 (d := d3) rfl; ⟨_, fd, F, He.glo_ok X G (c.fact 3 (f := .glo "_law_two") rfl)⟩
  d_is_within := let ⟨fd, F⟩ := c.def_ 4 (d := d4) rfl; ⟨_, fd, F, He.glo_ok X G (c.fact 4 (f := .glo "is_within") rfl)⟩
  d_is_rising := let ⟨fd, F⟩ := c.def_ 5 (d := d5) rfl; ⟨_, fd, F, He.glo_ok X G (c.fact 5 (f := .glo "is_rising") rfl)⟩
  d_are_pieces := let ⟨fd, F⟩ := c.def_ 6 (d := d6) rfl; ⟨_, fd, F, He.glo_ok X G (c.fact 6 (f := .glo "are_pieces") rfl)⟩
  d_look_pieces := let ⟨fd, F⟩ := c.def_ 7 (d := d7) rfl; ⟨_, fd, F, He.glo_ok X G (c.fact 7 (f := .glo "look_pieces") rfl)⟩
  d_is_list := let ⟨fd, F⟩ := c.def_ 8 (d := d8) rfl; ⟨_, fd, F, He.glo_ok X G (c.fact 8 (f := .glo "is_list") rfl)⟩
  d_look := let ⟨fd, F⟩ := c.def_ 9 (d := d9) rfl; ⟨_, fd, F, He.glo_ok X G (c.fact 9 (f := .glo "look") rfl)⟩
  d_look_both := let ⟨fd, F⟩ := c.def_ 10 (d := d10) rfl; ⟨_, fd, F, He.glo_ok X G (c.fact 10 (f := .glo "look_both") rfl)⟩
  d_is_dealing := let ⟨fd, F⟩ := c.def_ 11 (d := d11) rfl; ⟨_, fd, F, He.glo_ok X G (c.fact 11 (f := .glo "is_dealing") rfl)⟩
  d__law_whole := let ⟨fd, F⟩ := c.def_ 12 (d := d12) rfl; ⟨_, fd, F, He.glo_ok X G (c.fact 12 (f := .glo "_law_whole") rfl)⟩
  d__law_in := let ⟨fd, F⟩ := c.def_ 13 (d := d13) rfl; ⟨_, fd, F, He.glo_ok X G (c.fact 13 (f := .glo "_law_in") rfl)⟩
  d__law_is_rising := let ⟨fd, F⟩ := c.def_ 14 (d := d14) rfl; ⟨_, fd, F, He.glo_ok X G (c.fact 14 (f := .glo "_law_is_rising") rfl)⟩
  d__law_is_dealing := let ⟨fd, F⟩ := c.def_ 15 (d := d15) rfl; ⟨_, fd, F, He.glo_ok X G (c.fact 15 (f := .glo "_law_is_dealing") rfl)⟩
  d_serves_of := let ⟨fd, F⟩ := c.def_ 16 (d := d16) rfl; ⟨_, fd, F, He.glo_ok X G (c.fact 16 (f := .glo "serves_of") rfl)⟩
  d_serves := let ⟨fd, F⟩ := c.def_ 17 (d := d17) rfl; ⟨_, fd, F, He.glo_ok X G (c.fact 17 (f := .glo "serves") rfl)⟩
  d_dealt := let ⟨fd, F⟩ := c.def_ 18 (d := d18) rfl; ⟨_, fd, F, He.glo_ok X G (c.fact 18 (f := .glo "dealt") rfl)⟩
  d_dealing := let ⟨fd, F⟩ := c.def_ 19 (d := d19) rfl; ⟨_, fd, F, He.glo_ok X G (c.fact 19 (f := .glo "dealing") rfl)⟩
  d_ways_from := let ⟨fd, F⟩ := c.def_ 20 (d := d20) rfl; ⟨_, fd, F, He.glo_ok X G (c.fact 20 (f := .glo "ways_from") rfl)⟩
  d_how_many := let ⟨fd, F⟩ := c.def_ 21 (d := d21) rfl; ⟨_, fd, F, He.glo_ok X G (c.fact 21 (f := .glo "how_many") rfl)⟩
  d__law_serve_word := let ⟨fd, F⟩ := c.def_ 22 (d := d22) rfl; ⟨_, fd, F, He.glo_ok X G (c.fact 22 (f := .glo "_law_serve_word") rfl)⟩
  d_law := let ⟨fd, F⟩ := c.def_ 23 (d := d23) rfl; ⟨_, fd, F, He.glo_ok X G (c.fact 23 (f := .glo "law") rfl)⟩
theorem law_sp {K : Frg} {cs : List Nat} (e : exB cs K = true) {ns : List Int} (hm : m_law [.list (ns.map PyData.int)] = .ok (.bool true)) {H : Hp} {a : Addr} (hS : SqL K H a (ns.map V.int)) : FnSp (clOf K) m_law [.ref a] H (fun v _ => v = .bl true) (fun _ _ _ => False) := by
  refine ⟨[], [.list (ns.map PyData.int)], (fun p hp => nomatch hp), .cons (.lst (rd_mono hid_nil (ex_noLst e hS)) (dpAll_ints ns)) .nil, ?_⟩
  rw [hm]
  intro v H' s p
  exact rd_bl (.inl p.1)
end SBL
open PySem PySem.W PySem.Calls PyProof.Rows
theorem PySem.Challenge.cw_servesboth_k03_dealings_looked_at_holds : PySem.Challenge.rw_servesboth_k03_dealings_looked_at.Holds := by
  w_on; o_law
  refine HandSHeadRun.head_any (r := OpenLaw.row PySem.Challenge.rw_servesboth_k03_dealings_looked_at) (q := view (OpenLaw.row PySem.Challenge.rw_servesboth_k03_dealings_looked_at).prog [36]) (H := SBL.hk) (ob := SBL.ob) (M := 8000) (loose := SBL.loL) (d := HandSHeadRun.topDef (OpenLaw.row PySem.Challenge.rw_servesboth_k03_dealings_looked_at).prog 36) (kwd := []) SBL.ob_eq
    (by kernel_rfl) (fun s => by kernel_rfl) SBL.run (by kernel_rfl) (by kernel_rfl) (by kernel_rfl) (by rfl) (by first | assumption | decide +kernel) (by decide +kernel) ⟨rfl, rfl, rfl, rfl, rfl, by decide +kernel⟩ ?hw ?hc
  case hw => w_witness2
  case hc =>
    refine L2.walk_ofE (l := PySem.Challenge.rw_servesboth_k03_dealings_looked_at) (n := 63) (k := 8) (x := "script") (CX := SB.CXU (PySem.Challenge.rw_servesboth_k03_dealings_looked_at).prog) rfl (by decide) (by kernel_rfl) ⟨rfl, by decide, by decide⟩ ?F (fun _ _ _ _ z => SB.cxu_no z)
    intro w mg fa h Y G hmg0
    obtain ⟨K, KX, c⟩ := Y
    have hmg : mg ("law" : PySem.Str) = some (.ref fa) := by
      have e : (HandSHeadRun.topDef (OpenLaw.row PySem.Challenge.rw_servesboth_k03_dealings_looked_at).prog 36).name = ("law" : PySem.Str) := by kernel_rfl
      rw [← e]
      exact hmg0
    have T := SBL.tx KX G c.t.d c.more
    obtain ⟨f, fd, F, hm⟩ := T.d_law
    have e := hmg.symm.trans hm
    cases e
    have b := L2.FunD.bindsA (ps := ["script"]) F fun _ _ _ _ _ _ us hl => match us, hl with | [_], _ => rfl
    exact ⟨K, fd, SB.FnSp (SB.clOf K) SBL.m_law, KX, fun s v => b s [v] rfl, fun H a ns hl _ hS => SBL.law_sp c.more (SBL.law_true ns hl) hS, fun base _ _ => SB.cxu_of (SB.fb_fn (SBL.ok_law T) hm F)⟩

