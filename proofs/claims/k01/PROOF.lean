import PyProof.Rows.All
import Wide.All
import OpenK.AllK
import Wide.FinOn
import HandS.ForMost
import HandS.Walk
import HandS.Lambda
import HandS.Flow
import HandS.Defaults
import HandS.IsInst
import HandS.DictComp
import PyProof.ReprNest
import PyProof.ReprDict
import HandS.Set
import HandS.SetFor
import HandS.SetTxt0
import HandS.Strs
import HandS.More
import KE.SortData
import KE.SortKeyHeap
import HandS.SortKw
import HandS.EndTab
import HandS.Words
import HandS.Head0
import HandS.Head1
import HandS.Head2
import HandS.HeadEnd
import HandS.HeadHook1
import HandS.HeadHook2
import PySem.Challenge.RW_halfback_k01_states
set_option Elab.async false
set_option linter.all false
set_option maxRecDepth 100000
set_option maxHeartbeats 1000000
/-! HB, part a: data told of the heap, worlds of live objects, the judgements DE, DT, DA, DS. -/
namespace HB
open PySem PySem.Spec PyProof.Rows L2

/-- plain data; ref k: the k-th live object -/
inductive Dt where
  | non | bl (b : Bool) | int (i : Int) | str (x : Str) | ref (k : Nat)
  | lst (ds : List Dt) | tup (ds : List Dt) | dic (ks : List Key) (ds : List Dt)

abbrev Sto := List (Option Dt)

mutual
def Den (L : List Addr) (B : Addr → Prop) (H : Hp) : Dt → V → Prop
  | .non, v => v = .non
  | .bl b, v => v = .bl b
  | .int i, v => v = .int i
  | .str x, v => v = .str x
  | .ref k, v => ∃ a, L[k]? = some a ∧ v = .ref a
  | .lst ds, v => ∃ a vs, v = .ref a ∧ ¬ B a ∧ H a = some (.lst vs) ∧ Dens L B H ds vs
  | .tup ds, v => ∃ a vs, v = .ref a ∧ H a = some (.tup vs) ∧ Dens L B H ds vs
  | .dic ks ds, v => ∃ a vs, v = .ref a ∧ ¬ B a ∧ Rd H a (.dK (ks.zip vs)) ∧ ks.length = vs.length ∧ Dens L B H ds vs
def Dens (L : List Addr) (B : Addr → Prop) (H : Hp) : List Dt → List V → Prop
  | [], vs => vs = []
  | d :: ds, vs => ∃ v r, vs = v :: r ∧ Den L B H d v ∧ Dens L B H ds r
end

theorem Dens.cons {L : List Addr} {B : Addr → Prop} {H : Hp} {d : Dt} {ds : List Dt} {v : V} {vs : List V} (h : Den L B H d v) (t : Dens L B H ds vs) : Dens L B H (d :: ds) (v :: vs) := by
  unfold Dens; exact ⟨v, vs, rfl, h, t⟩
theorem Dens.nil {L : List Addr} {B : Addr → Prop} {H : Hp} : Dens L B H [] [] := by unfold Dens; rfl
theorem Dens.uncons {L : List Addr} {B : Addr → Prop} {H : Hp} {d : Dt} {ds : List Dt} {vs : List V} (h : Dens L B H (d :: ds) vs) : ∃ v r, vs = v :: r ∧ Den L B H d v ∧ Dens L B H ds r := by
  unfold Dens at h; exact h
theorem Dens.len {L : List Addr} {B : Addr → Prop} {H : Hp} : ∀ {ds : List Dt} {vs : List V}, Dens L B H ds vs → ds.length = vs.length
  | [], vs, h => by unfold Dens at h; subst h; rfl
  | d :: ds, vs, h => by
    obtain ⟨v, r, rfl, _, t⟩ := h.uncons
    simp [Dens.len t]
theorem Dens.get {L : List Addr} {B : Addr → Prop} {H : Hp} : ∀ {ds : List Dt} {vs : List V} {i : Nat} {d : Dt}, Dens L B H ds vs → ds[i]? = some d → ∃ v, vs[i]? = some v ∧ Den L B H d v
  | [], _, _, _, _, e => by simp at e
  | d :: ds, vs, 0, x, h, e => by
    obtain ⟨v, r, rfl, q, _⟩ := h.uncons
    simp at e; subst e
    exact ⟨v, rfl, q⟩
  | d :: ds, vs, i + 1, x, h, e => by
    obtain ⟨v, r, rfl, _, t⟩ := h.uncons
    obtain ⟨u, h1, h2⟩ := Dens.get (i := i) t (by simpa using e)
    exact ⟨u, by simpa using h1, h2⟩
theorem Dens.getV {L : List Addr} {B : Addr → Prop} {H : Hp} {ds : List Dt} {vs : List V} {i : Nat} {v : V} (h : Dens L B H ds vs) (e : vs[i]? = some v) : ∃ d, ds[i]? = some d ∧ Den L B H d v := by
  have hl := h.len
  have hi : i < ds.length := by
    have := (List.getElem?_eq_some_iff.mp e).1
    omega
  obtain ⟨u, h1, h2⟩ := h.get (List.getElem?_eq_getElem hi)
  rw [e] at h1; cases h1
  exact ⟨_, List.getElem?_eq_getElem hi, h2⟩
theorem Dens.append {L : List Addr} {B : Addr → Prop} {H : Hp} : ∀ {ds es : List Dt} {vs us : List V}, Dens L B H ds vs → Dens L B H es us → Dens L B H (ds ++ es) (vs ++ us)
  | [], _, vs, _, h, t => by unfold Dens at h; subst h; exact t
  | d :: ds, es, vs, us, h, t => by
    obtain ⟨v, r, rfl, q, h⟩ := h.uncons
    exact .cons q (Dens.append h t)
theorem Dens.drop {L : List Addr} {B : Addr → Prop} {H : Hp} : ∀ {ds : List Dt} {vs : List V} (n : Nat), Dens L B H ds vs → Dens L B H (ds.drop n) (vs.drop n)
  | _, _, 0, h => h
  | [], vs, n + 1, h => by unfold Dens at h; subst h; exact .nil
  | d :: ds, vs, n + 1, h => by
    obtain ⟨v, r, rfl, _, t⟩ := h.uncons
    exact Dens.drop n t
theorem Dens.take {L : List Addr} {B : Addr → Prop} {H : Hp} : ∀ {ds : List Dt} {vs : List V} (n : Nat), Dens L B H ds vs → Dens L B H (ds.take n) (vs.take n)
  | _, _, 0, h => .nil
  | [], vs, n + 1, h => by unfold Dens at h; subst h; exact .nil
  | d :: ds, vs, n + 1, h => by
    obtain ⟨v, r, rfl, q, t⟩ := h.uncons
    exact .cons q (Dens.take n t)
theorem Dens.set {L : List Addr} {B : Addr → Prop} {H : Hp} {d : Dt} {v : V} (q : Den L B H d v) : ∀ {ds : List Dt} {vs : List V} (n : Nat), Dens L B H ds vs → Dens L B H (ds.set n d) (vs.set n v)
  | [], vs, _, h => by unfold Dens at h; subst h; exact .nil
  | e :: ds, vs, 0, h => by
    obtain ⟨w, r, rfl, _, t⟩ := h.uncons
    exact .cons q t
  | e :: ds, vs, n + 1, h => by
    obtain ⟨w, r, rfl, p, t⟩ := h.uncons
    exact .cons p (Dens.set q n t)
theorem Dens.reverse {L : List Addr} {B : Addr → Prop} {H : Hp} : ∀ {ds : List Dt} {vs : List V}, Dens L B H ds vs → Dens L B H ds.reverse vs.reverse
  | [], vs, h => by unfold Dens at h; subst h; exact .nil
  | d :: ds, vs, h => by
    obtain ⟨v, r, rfl, q, t⟩ := h.uncons
    rw [List.reverse_cons, List.reverse_cons]
    exact (Dens.reverse t).append (.cons q .nil)

theorem rd_ne {H : Hp} {a : Addr} {u : HO} (h : Rd H a u) : H a ≠ none := by
  rcases h with h | ⟨x, h⟩ <;> rw [h] <;> simp
theorem rd_of {H H' : Hp} {a : Addr} {u : HO} (h : Rd H a u) (k : ∀ o, H a = some o → H' a = some o) : Rd H' a u := by
  rcases h with h | ⟨x, h⟩
  · exact .inl (k _ h)
  · exact .inr ⟨x, k _ h⟩

/-- the k-th object of L is live -/
def Liv (L : List Addr) (st : Sto) (a : Addr) : Prop := ∃ (k : Nat) (d : Dt), L[k]? = some a ∧ st[k]? = some (some d)
def Bad (Z : Addr → Prop) (L : List Addr) (st : Sto) (a : Addr) : Prop := Z a ∨ Liv L st a
def OwnO (L : List Addr) (B : Addr → Prop) (H : Hp) (o : HO) : Dt → Prop
  | .lst ds => ∃ vs, o = .lst vs ∧ Dens L B H ds vs
  | .dic ks ds => ∃ vs, o = .dK (ks.zip vs) ∧ ks.length = vs.length ∧ Dens L B H ds vs
  | _ => False
theorem OwnO.imp {L L' : List Addr} {B B' : Addr → Prop} {H H' : Hp} {o : HO} (f : ∀ ds vs, Dens L B H ds vs → Dens L' B' H' ds vs) : ∀ {d : Dt}, OwnO L B H o d → OwnO L' B' H' o d
  | .lst _, h => by obtain ⟨vs, e, t⟩ := h; exact ⟨vs, e, f _ _ t⟩
  | .dic _ _, h => by obtain ⟨vs, e, el, t⟩ := h; exact ⟨vs, e, el, f _ _ t⟩
theorem OwnO.kind {L : List Addr} {B : Addr → Prop} {H : Hp} {o : HO} : ∀ {d : Dt}, OwnO L B H o d → (∃ xs, o = .lst xs) ∨ ∃ kvs, o = .dK kvs
  | .lst _, h => by obtain ⟨vs, e, t⟩ := h; exact .inl ⟨vs, e⟩
  | .dic _ _, h => by obtain ⟨vs, e, el, t⟩ := h; exact .inr ⟨_, e⟩
def OwnAt (L : List Addr) (B : Addr → Prop) (H : Hp) (a : Addr) (d : Dt) : Prop := ∃ o, H a = some o ∧ OwnO L B H o d
/-- the world: tables of code objects, live objects and what they hold, Z not to be touched -/
structure Wd (T : List (Addr × Str)) (Z : Addr → Prop) (L : List Addr) (st : Sto) (H : Hp) : Prop where
  tabs : LamX.Tabs T H
  len : L.length = st.length
  inj : ∀ (i j : Nat) (a : Addr) (d e : Dt), L[i]? = some a → L[j]? = some a → st[i]? = some (some d) → st[j]? = some (some e) → i = j
  own : ∀ (k : Nat) (a : Addr) (d : Dt), L[k]? = some a → st[k]? = some (some d) → ¬ Z a ∧ OwnAt L (Bad Z L st) H a d
  zt : ∀ a, Z a → H a ≠ none
/-- from one world to a later one -/
structure Afz (T : List (Addr × Str)) (Z : Addr → Prop) (L : List Addr) (st : Sto) (H : Hp) (Z' : Addr → Prop) (L' : List Addr) (st' : Sto) (H' : Hp) : Prop where
  wd : Wd T Z' L' st' H'
  pre : ∃ M, L' = L ++ M
  kp : ∀ b o, H b = some o → ¬ Liv L st b → (∀ ps, o ≠ .tbl ps) → H' b = some o
  nw : ∀ a, Liv L' st' a → Liv L st a ∨ H a = none
  trk : ∀ b, H b ≠ none → H' b ≠ none
  tp : ∀ b xs, H b = some (.tup xs) → H' b = some (.tup xs)
  fr : ∀ (k : Nat) (a : Addr), L.length ≤ k → L'[k]? = some a → H a = none
  zs : ∀ a, Z' a → Z a ∨ H a = none
abbrev Af (T : List (Addr × Str)) (Z : Addr → Prop) (L : List Addr) (st : Sto) (H : Hp) (L' : List Addr) (st' : Sto) (H' : Hp) : Prop := Afz T Z L st H Z L' st' H'
section
variable {T : List (Addr × Str)} {Z Z' Z'' : Addr → Prop} {L L' L'' : List Addr} {st st' st'' : Sto} {H H' H'' : Hp}
theorem Afz.refl (w : Wd T Z L st H) : Af T Z L st H L st H := ⟨w, ⟨[], by simp⟩, fun b o h _ _ => h, fun a h => .inl h, fun _ h => h, fun _ _ h => h, fun k a h e => absurd (List.getElem?_eq_some_iff.mp e).1 (by omega), fun a z => .inl z⟩
theorem OwnAt.ne {B : Addr → Prop} {a : Addr} {d : Dt} (h : OwnAt L B H a d) : H a ≠ none := by
  obtain ⟨o, e, _⟩ := h; rw [e]; simp
theorem Wd.livTrk (w : Wd T Z L st H) {a : Addr} (h : Liv L st a) : H a ≠ none := by
  obtain ⟨k, d, h1, h2⟩ := h
  exact (w.own k a d h1 h2).2.ne
theorem Afz.trans (h : Afz T Z L st H Z' L' st' H') (g : Afz T Z' L' st' H' Z'' L'' st'' H'') : Afz T Z L st H Z'' L'' st'' H'' := by
  refine ⟨g.wd, ?_, fun b o e nl nt => ?_, fun a l => ?_, fun b e => g.trk b (h.trk b e), fun b xs e => g.tp b xs (h.tp b xs e), fun k a hk e => ?_, fun a z => ?_⟩
  · obtain ⟨M, rfl⟩ := h.pre
    obtain ⟨N, rfl⟩ := g.pre
    exact ⟨M ++ N, by simp⟩
  · have e' := h.kp b o e nl nt
    have nl' : ¬ Liv L' st' b := fun z => by
      rcases h.nw b z with z | z
      · exact nl z
      · rw [e] at z; cases z
    exact g.kp b o e' nl' nt
  · rcases g.nw a l with z | z
    · exact h.nw a z
    · right
      cases q : H a with
      | none => rfl
      | some o => exact absurd z (h.trk a (by rw [q]; simp))
  · by_cases hl : L'.length ≤ k
    · have z := g.fr k a hl e
      cases q : H a with
      | none => rfl
      | some o => exact absurd z (h.trk a (by rw [q]; simp))
    · obtain ⟨N, rfl⟩ := g.pre
      rw [List.getElem?_append_left (by omega)] at e
      exact h.fr k a hk e
  · rcases g.zs a z with z | z
    · exact h.zs a z
    · right
      cases q : H a with
      | none => rfl
      | some o => exact absurd z (h.trk a (by rw [q]; simp))
theorem Afz.ix (h : Afz T Z L st H Z' L' st' H') {k : Nat} {a : Addr} (e : L[k]? = some a) : L'[k]? = some a := by
  obtain ⟨M, rfl⟩ := h.pre
  rw [List.getElem?_append_left (List.getElem?_eq_some_iff.mp e).1]
  exact e
theorem Afz.bad (h : Afz T Z L st H Z' L' st' H') {a : Addr} (t : H a ≠ none) (n : ¬ Bad Z L st a) : ¬ Bad Z' L' st' a := fun z => by
  rcases z with z | z
  · exact (h.zs a z).elim (fun z => n (.inl z)) t
  · rcases h.nw a z with z | z
    · exact n (.inr z)
    · exact t z
mutual
theorem Den.keep (h : Afz T Z L st H Z' L' st' H') : ∀ {d : Dt} {v : V}, Den L (Bad Z L st) H d v → Den L' (Bad Z' L' st') H' d v
  | .non, _, q => by unfold Den at q ⊢; exact q
  | .bl _, _, q => by unfold Den at q ⊢; exact q
  | .int _, _, q => by unfold Den at q ⊢; exact q
  | .str _, _, q => by unfold Den at q ⊢; exact q
  | .ref _, _, q => by
    unfold Den at q ⊢
    obtain ⟨a, e, r⟩ := q
    exact ⟨a, h.ix e, r⟩
  | .lst ds, _, q => by
    unfold Den at q ⊢
    obtain ⟨a, vs, r, nb, e, t⟩ := q
    exact ⟨a, vs, r, h.bad (by rw [e]; simp) nb, h.kp a _ e (fun z => nb (.inr z)) (fun ps z => by cases z), Dens.keep h t⟩
  | .tup ds, _, q => by
    unfold Den at q ⊢
    obtain ⟨a, vs, r, e, t⟩ := q
    exact ⟨a, vs, r, h.tp a vs e, Dens.keep h t⟩
  | .dic ks ds, _, q => by
    unfold Den at q ⊢
    obtain ⟨a, vs, r, nb, e, el, t⟩ := q
    exact ⟨a, vs, r, h.bad (rd_ne e) nb, rd_of e fun o eo => h.kp a o eo (fun z => nb (.inr z)) (fun ps z => by
      subst z
      rcases e with e | ⟨x, e⟩ <;> rw [eo] at e <;> cases e), el, Dens.keep h t⟩
theorem Dens.keep (h : Afz T Z L st H Z' L' st' H') : ∀ {ds : List Dt} {vs : List V}, Dens L (Bad Z L st) H ds vs → Dens L' (Bad Z' L' st') H' ds vs
  | [], _, q => by unfold Dens at q ⊢; exact q
  | d :: ds, _, q => by
    obtain ⟨v, r, rfl, p, t⟩ := q.uncons
    exact .cons (Den.keep h p) (Dens.keep h t)
end
end
end HB

set_option Elab.async false
set_option linter.all false
set_option maxRecDepth 100000
set_option maxHeartbeats 1000000
/-! HB, part b: readings of the hand layer told by plain functions: Sim. -/
namespace HB
open PySem PySem.Spec PyProof.Rows L2

/-! ### changes of the heap -/
section
variable {T : List (Addr × Str)} {Z Z' B B' : Addr → Prop} {L L' : List Addr} {st st' : Sto} {H H' : Hp} {a p : Addr} {o : HO}
mutual
theorem Den.mono (hb : ∀ a, B' a → B a) : ∀ {d : Dt} {v : V}, Den L B H d v → Den L B' H d v
  | .non, _, q => by unfold Den at q ⊢; exact q
  | .bl _, _, q => by unfold Den at q ⊢; exact q
  | .int _, _, q => by unfold Den at q ⊢; exact q
  | .str _, _, q => by unfold Den at q ⊢; exact q
  | .ref _, _, q => by unfold Den at q ⊢; exact q
  | .lst ds, _, q => by
    unfold Den at q ⊢
    obtain ⟨a, vs, r, nb, e, t⟩ := q
    exact ⟨a, vs, r, fun z => nb (hb a z), e, Dens.mono hb t⟩
  | .tup ds, _, q => by
    unfold Den at q ⊢
    obtain ⟨a, vs, r, e, t⟩ := q
    exact ⟨a, vs, r, e, Dens.mono hb t⟩
  | .dic ks ds, _, q => by
    unfold Den at q ⊢
    obtain ⟨a, vs, r, nb, e, el, t⟩ := q
    exact ⟨a, vs, r, fun z => nb (hb a z), e, el, Dens.mono hb t⟩
theorem Dens.mono (hb : ∀ a, B' a → B a) : ∀ {ds : List Dt} {vs : List V}, Dens L B H ds vs → Dens L B' H ds vs
  | [], _, q => by unfold Dens at q ⊢; exact q
  | d :: ds, _, q => by
    obtain ⟨v, r, rfl, p, t⟩ := q.uncons
    exact .cons (Den.mono hb p) (Dens.mono hb t)
end
mutual
theorem Den.chg (hb : B a) (ht : ∀ xs, H a ≠ some (.tup xs)) : ∀ {d : Dt} {v : V}, Den L B H d v → Den L B (upd H a o) d v
  | .non, _, q => by unfold Den at q ⊢; exact q
  | .bl _, _, q => by unfold Den at q ⊢; exact q
  | .int _, _, q => by unfold Den at q ⊢; exact q
  | .str _, _, q => by unfold Den at q ⊢; exact q
  | .ref _, _, q => by unfold Den at q ⊢; exact q
  | .lst ds, _, q => by
    unfold Den at q ⊢
    obtain ⟨b, vs, r, nb, e, t⟩ := q
    exact ⟨b, vs, r, nb, by rw [upd_ne (fun z => nb (by rw [z]; exact hb))]; exact e, Dens.chg hb ht t⟩
  | .tup ds, _, q => by
    unfold Den at q ⊢
    obtain ⟨b, vs, r, e, t⟩ := q
    exact ⟨b, vs, r, by rw [upd_ne (fun z => ht vs (by rw [← z]; exact e))]; exact e, Dens.chg hb ht t⟩
  | .dic ks ds, _, q => by
    unfold Den at q ⊢
    obtain ⟨b, vs, r, nb, e, el, t⟩ := q
    exact ⟨b, vs, r, nb, rd_of e fun o eo => by rw [upd_ne (fun z => nb (by rw [z]; exact hb))]; exact eo, el, Dens.chg hb ht t⟩
theorem Dens.chg (hb : B a) (ht : ∀ xs, H a ≠ some (.tup xs)) : ∀ {ds : List Dt} {vs : List V}, Dens L B H ds vs → Dens L B (upd H a o) ds vs
  | [], _, q => by unfold Dens at q ⊢; exact q
  | d :: ds, _, q => by
    obtain ⟨v, r, rfl, p, t⟩ := q.uncons
    exact .cons (Den.chg hb ht p) (Dens.chg hb ht t)
end
theorem tabs_upd (ht : LamX.Tabs T H) (hn : ∀ u, H a = some u → (∃ xs, u = .lst xs) ∨ ∃ kvs, u = .dK kvs) : LamX.Tabs T (upd H a o) := by
  intro q hq
  obtain ⟨ps, h1, h2, h3⟩ := ht q hq
  have n1 : q.1 ≠ a := fun z => by
    rcases hn _ (by rw [← z]; exact h1) with ⟨xs, e⟩ | ⟨kvs, e⟩ <;> cases e
  refine ⟨ps, by rw [upd_ne n1]; exact h1, h2, fun pos cv hc => ?_⟩
  obtain ⟨c, e1, e2⟩ := h3 pos cv hc
  refine ⟨c, e1, ?_⟩
  have n2 : c ≠ a := fun z => by
    rcases hn _ (by rw [← z]; exact e2) with ⟨xs, e⟩ | ⟨kvs, e⟩ <;> (unfold LamX.CodeO at e; cases e)
  rw [upd_ne n2]; exact e2
theorem tabs_ext (ht : LamX.Tabs T H) (e : ∀ b o, H b = some o → H' b = some o) : LamX.Tabs T H' := ht.ext e
theorem Wd.notLiv (w : Wd T Z L st H) (h : H p = none) : ¬ Liv L st p := fun z => w.livTrk z h
theorem Wd.notBad (w : Wd T Z L st H) (h : H p = none) : ¬ Bad Z L st p := fun z => z.elim (fun z => w.zt p z h) (w.notLiv h)
theorem same_upd (h : H p = none) : ∀ b u, H b = some u → upd H p o b = some u := fun b u e => by
  rw [upd_ne (ne_of_none e h)]; exact e
mutual
theorem Den.stay (k : ∀ b u, H b = some u → (∀ ps, u ≠ .tbl ps) → H' b = some u) : ∀ {d : Dt} {v : V}, Den L B H d v → Den L B H' d v
  | .non, _, q => by unfold Den at q ⊢; exact q
  | .bl _, _, q => by unfold Den at q ⊢; exact q
  | .int _, _, q => by unfold Den at q ⊢; exact q
  | .str _, _, q => by unfold Den at q ⊢; exact q
  | .ref _, _, q => by unfold Den at q ⊢; exact q
  | .lst ds, _, q => by
    unfold Den at q ⊢
    obtain ⟨b, vs, r, nb, e, t⟩ := q
    exact ⟨b, vs, r, nb, k _ _ e (fun ps z => by cases z), Dens.stay k t⟩
  | .tup ds, _, q => by
    unfold Den at q ⊢
    obtain ⟨b, vs, r, e, t⟩ := q
    exact ⟨b, vs, r, k _ _ e (fun ps z => by cases z), Dens.stay k t⟩
  | .dic ks ds, _, q => by
    unfold Den at q ⊢
    obtain ⟨b, vs, r, nb, e, el, t⟩ := q
    exact ⟨b, vs, r, nb, rd_of e fun o eo => k b o eo (fun ps z => by subst z; rcases e with e | ⟨x, e⟩ <;> rw [eo] at e <;> cases e), el, Dens.stay k t⟩
theorem Dens.stay (k : ∀ b u, H b = some u → (∀ ps, u ≠ .tbl ps) → H' b = some u) : ∀ {ds : List Dt} {vs : List V}, Dens L B H ds vs → Dens L B H' ds vs
  | [], _, q => by unfold Dens at q ⊢; exact q
  | d :: ds, _, q => by
    obtain ⟨v, r, rfl, p, t⟩ := q.uncons
    exact .cons (Den.stay k p) (Dens.stay k t)
end
theorem Den.ext (k : ∀ b u, H b = some u → H' b = some u) {d : Dt} {v : V} (h : Den L B H d v) : Den L B H' d v := h.stay fun b u e _ => k b u e
theorem Dens.ext (k : ∀ b u, H b = some u → H' b = some u) {d : List Dt} {v : List V} (h : Dens L B H d v) : Dens L B H' d v := h.stay fun b u e _ => k b u e
theorem OwnAt.ext (k : ∀ b u, H b = some u → H' b = some u) {d : Dt} (h : OwnAt L B H a d) : OwnAt L B H' a d := by
  obtain ⟨o, e, t⟩ := h
  exact ⟨o, k _ _ e, t.imp fun _ _ q => q.ext k⟩
/-- more objects, nothing changed -/
theorem Wd.ext (w : Wd T Z L st H) (k : ∀ b u, H b = some u → H' b = some u) : Wd T Z L st H' :=
  ⟨w.tabs.ext k, w.len, w.inj, fun i b d h1 h2 => ⟨(w.own i b d h1 h2).1, (w.own i b d h1 h2).2.ext k⟩, fun b z e => by
    cases q : H b with
    | none => exact w.zt b z q
    | some u => rw [k b u q] at e; cases e⟩
theorem Afz.ext (w : Wd T Z L st H) (k : ∀ b u, H b = some u → H' b = some u) : Af T Z L st H L st H' :=
  ⟨w.ext k, ⟨[], by simp⟩, fun b u e _ _ => k b u e, fun _ h => .inl h, fun b n e => (by
    cases q : H b with
    | none => exact n q
    | some u => rw [k b u q] at e; cases e), fun b xs e => k b _ e, fun k a h e => absurd (List.getElem?_eq_some_iff.mp e).1 (by omega), fun a z => .inl z⟩
theorem Afz.new (w : Wd T Z L st H) (h : H p = none) : Af T Z L st H L st (upd H p o) := Afz.ext w (same_upd h)
/-- a by-value list just made -/
theorem Den.newL (w : Wd T Z L st H) (h : H p = none) {ds : List Dt} {vs : List V} (t : Dens L (Bad Z L st) H ds vs) : Den L (Bad Z L st) (upd H p (.lst vs)) (.lst ds) (.ref p) := by
  unfold Den
  exact ⟨p, vs, rfl, w.notBad h, upd_same, t.ext (same_upd h)⟩
theorem Den.newT (w : Wd T Z L st H) (h : H p = none) {ds : List Dt} {vs : List V} (t : Dens L (Bad Z L st) H ds vs) : Den L (Bad Z L st) (upd H p (.tup vs)) (.tup ds) (.ref p) := by
  unfold Den
  exact ⟨p, vs, rfl, upd_same, t.ext (same_upd h)⟩
theorem Den.newD (w : Wd T Z L st H) (h : H p = none) {ks : List Key} {ds : List Dt} {vs : List V} (hl : ks.length = vs.length) (t : Dens L (Bad Z L st) H ds vs) : Den L (Bad Z L st) (upd H p (.dK (ks.zip vs))) (.dic ks ds) (.ref p) := by
  unfold Den
  exact ⟨p, vs, rfl, w.notBad h, .inl upd_same, hl, t.ext (same_upd h)⟩
end

/-! ### one more address not to be touched -/
section
variable {T : List (Addr × Str)} {Z B : Addr → Prop} {L : List Addr} {st : Sto} {H : Hp} {a : Addr} {o : HO}
def zAnd (Z : Addr → Prop) (a : Addr) : Addr → Prop := fun b => Z b ∨ b = a
mutual
theorem Den.away (hn : H a = none) : ∀ {d : Dt} {v : V}, Den L B H d v → Den L (fun b => B b ∨ b = a) H d v
  | .non, _, q => by unfold Den at q ⊢; exact q
  | .bl _, _, q => by unfold Den at q ⊢; exact q
  | .int _, _, q => by unfold Den at q ⊢; exact q
  | .str _, _, q => by unfold Den at q ⊢; exact q
  | .ref _, _, q => by unfold Den at q ⊢; exact q
  | .lst ds, _, q => by
    unfold Den at q ⊢
    obtain ⟨b, vs, r, nb, e, t⟩ := q
    exact ⟨b, vs, r, fun z => z.elim nb (ne_of_none e hn), e, Dens.away hn t⟩
  | .tup ds, _, q => by
    unfold Den at q ⊢
    obtain ⟨b, vs, r, e, t⟩ := q
    exact ⟨b, vs, r, e, Dens.away hn t⟩
  | .dic ks ds, _, q => by
    unfold Den at q ⊢
    obtain ⟨b, vs, r, nb, e, el, t⟩ := q
    exact ⟨b, vs, r, fun z => z.elim nb (fun y => rd_ne e (by rw [y]; exact hn)), e, el, Dens.away hn t⟩
theorem Dens.away (hn : H a = none) : ∀ {ds : List Dt} {vs : List V}, Dens L B H ds vs → Dens L (fun b => B b ∨ b = a) H ds vs
  | [], _, q => by unfold Dens at q ⊢; exact q
  | d :: ds, _, q => by
    obtain ⟨v, r, rfl, p, t⟩ := q.uncons
    exact .cons (Den.away hn p) (Dens.away hn t)
end
/-- a new object that is ours alone for a while -/
theorem Afz.mine (w : Wd T Z L st H) (hn : H a = none) : Afz T Z L st H (zAnd Z a) L st (upd H a o) := by
  have hk := same_upd (o := o) hn
  refine ⟨⟨w.tabs.ext hk, w.len, w.inj, fun k b d h1 h2 => ?_, fun b z e => ?_⟩, ⟨[], by simp⟩, fun b u e _ _ => hk b u e, fun b l => .inl l, fun b n e => ?_, fun b xs e => hk b _ e, fun k b h e => absurd (List.getElem?_eq_some_iff.mp e).1 (by omega), fun b z => z.elim .inl fun y => .inr (by rw [y]; exact hn)⟩
  · obtain ⟨nz, u, eu, q⟩ := w.own k b d h1 h2
    refine ⟨fun z => z.elim nz (ne_of_none eu hn), u, hk _ _ eu, q.imp fun ds vs t => ?_⟩
    refine ((t.away hn).mono fun b z => ?_).ext hk
    rcases z with (z | z) | z
    · exact .inl (.inl z)
    · exact .inr z
    · exact .inl (.inr z)
  · rcases z with z | z
    · cases q : H b with
      | none => exact w.zt b z q
      | some u => rw [hk b u q] at e; cases e
    · rw [z, upd_same] at e; cases e
  · cases q : H b with
    | none => exact n q
    | some u => rw [hk b u q] at e; cases e
/-- what is ours alone is changed -/
theorem Wd.chg (w : Wd T Z L st H) (hz : Z a) (hn : ∀ u, H a = some u → (∃ xs, u = .lst xs) ∨ ∃ kvs, u = .dK kvs) : Wd T Z L st (upd H a o) := by
  have ht : ∀ xs, H a ≠ some (.tup xs) := fun xs e => by
    rcases hn _ e with ⟨ys, z⟩ | ⟨kvs, z⟩ <;> cases z
  refine ⟨tabs_upd w.tabs hn, w.len, w.inj, fun k b d h1 h2 => ?_, fun b z e => ?_⟩
  · obtain ⟨nz, u, eu, q⟩ := w.own k b d h1 h2
    exact ⟨nz, u, by rw [upd_ne (fun y => nz (by rw [y]; exact hz))]; exact eu, q.imp fun ds vs t => t.chg (.inl hz) ht⟩
  · by_cases hb : b = a
    · rw [hb, upd_same] at e; cases e
    · rw [upd_ne hb] at e; exact w.zt b z e
/-- it is everybody's again -/
theorem Wd.less {Z' : Addr → Prop} (w : Wd T Z' L st H) (hz : ∀ b, Z b → Z' b) : Wd T Z L st H :=
  ⟨w.tabs, w.len, w.inj, fun k b d h1 h2 => by
    obtain ⟨nz, u, eu, q⟩ := w.own k b d h1 h2
    exact ⟨fun z => nz (hz b z), u, eu, q.imp fun ds vs t => t.mono fun c z => z.elim (fun y => .inl (hz c y)) .inr⟩, fun b z => w.zt b (hz b z)⟩
end

/-! ### a live object: made, changed, left to be -/
section
variable {T : List (Addr × Str)} {Z : Addr → Prop} {L : List Addr} {st : Sto} {H : Hp} {a p : Addr} {o : HO}
theorem liv_push {x : Option Dt} (hl : L.length = st.length) : Liv (L ++ [p]) (st ++ [x]) a ↔ Liv L st a ∨ (a = p ∧ x ≠ none) := by
  constructor
  · rintro ⟨k, d, h1, h2⟩
    by_cases hk : k < L.length
    · rw [List.getElem?_append_left hk] at h1
      rw [List.getElem?_append_left (by omega)] at h2
      exact .inl ⟨k, d, h1, h2⟩
    · rw [List.getElem?_append_right (by omega)] at h1
      rw [List.getElem?_append_right (by omega)] at h2
      have e : k - L.length = 0 := by
        cases q : k - L.length with
        | zero => rfl
        | succ n => rw [q] at h1; simp at h1
      rw [e] at h1
      rw [show k - st.length = 0 by omega] at h2
      simp at h1 h2
      exact .inr ⟨h1.symm, by rw [h2]; simp⟩
  · rintro (⟨k, d, h1, h2⟩ | ⟨rfl, hx⟩)
    · exact ⟨k, d, by rw [List.getElem?_append_left (List.getElem?_eq_some_iff.mp h1).1]; exact h1, by rw [List.getElem?_append_left (List.getElem?_eq_some_iff.mp h2).1]; exact h2⟩
    · cases x with
      | none => exact absurd rfl hx
      | some d => exact ⟨L.length, d, by simp, by rw [hl]; simp⟩
mutual
theorem Den.push {B B' : Addr → Prop} (hb : ∀ b, B' b → H b ≠ none → B b) : ∀ {d : Dt} {v : V}, Den L B H d v → Den (L ++ [p]) B' H d v
  | .non, _, q => by unfold Den at q ⊢; exact q
  | .bl _, _, q => by unfold Den at q ⊢; exact q
  | .int _, _, q => by unfold Den at q ⊢; exact q
  | .str _, _, q => by unfold Den at q ⊢; exact q
  | .ref k, _, q => by
    unfold Den at q ⊢
    obtain ⟨a, e, r⟩ := q
    exact ⟨a, by rw [List.getElem?_append_left (List.getElem?_eq_some_iff.mp e).1]; exact e, r⟩
  | .lst ds, _, q => by
    unfold Den at q ⊢
    obtain ⟨a, vs, r, nb, e, t⟩ := q
    exact ⟨a, vs, r, fun z => nb (hb a z (by rw [e]; simp)), e, Dens.push hb t⟩
  | .tup ds, _, q => by
    unfold Den at q ⊢
    obtain ⟨a, vs, r, e, t⟩ := q
    exact ⟨a, vs, r, e, Dens.push hb t⟩
  | .dic ks ds, _, q => by
    unfold Den at q ⊢
    obtain ⟨a, vs, r, nb, e, el, t⟩ := q
    exact ⟨a, vs, r, fun z => nb (hb a z (rd_ne e)), e, el, Dens.push hb t⟩
theorem Dens.push {B B' : Addr → Prop} (hb : ∀ b, B' b → H b ≠ none → B b) : ∀ {ds : List Dt} {vs : List V}, Dens L B H ds vs → Dens (L ++ [p]) B' H ds vs
  | [], _, q => by unfold Dens at q ⊢; exact q
  | d :: ds, _, q => by
    obtain ⟨v, r, rfl, a, t⟩ := q.uncons
    exact .cons (Den.push hb a) (Dens.push hb t)
end
/-- a new live object -/
theorem Afz.newR (w : Wd T Z L st H) (h : H p = none) {d : Dt} (hd : OwnO L (Bad Z L st) H o d) : Af T Z L st H (L ++ [p]) (st ++ [some d]) (upd H p o) := by
  have hk := same_upd (o := o) h
  have hb : ∀ b, Bad Z (L ++ [p]) (st ++ [some d]) b → H b ≠ none → Bad Z L st b := fun b z n => by
    rcases z with z | z
    · exact .inl z
    · rcases (liv_push w.len).mp z with z | ⟨rfl, _⟩
      · exact .inr z
      · exact absurd h n
  have tr : ∀ ds vs, Dens L (Bad Z L st) H ds vs → Dens (L ++ [p]) (Bad Z (L ++ [p]) (st ++ [some d])) (upd H p o) ds vs := fun ds vs q => (Dens.push hb q).ext hk
  have get : ∀ (k : Nat) (b : Addr) (e : Dt), (L ++ [p])[k]? = some b → (st ++ [some d])[k]? = some (some e) → (k < L.length ∧ L[k]? = some b ∧ st[k]? = some (some e)) ∨ (k = L.length ∧ b = p ∧ e = d) := by
    intro k b e h1 h2
    have hl := w.len
    by_cases hk : k < L.length
    · rw [List.getElem?_append_left hk] at h1
      rw [List.getElem?_append_left (by omega)] at h2
      exact .inl ⟨hk, h1, h2⟩
    · have hk2 : k = L.length := by
        have := (List.getElem?_eq_some_iff.mp h1).1
        simp at this
        omega
      subst hk2
      simp at h1
      rw [hl] at h2
      simp at h2
      exact .inr ⟨rfl, h1.symm, h2.symm⟩
  refine ⟨⟨w.tabs.ext hk, by simp [w.len], fun i j b x y h1 h2 h3 h4 => ?_, fun k b e h1 h2 => ?_, fun b z e => ?_⟩, ⟨[p], rfl⟩, fun b u e _ _ => hk b u e, fun b l => ?_, fun b n e => ?_, fun b xs e => hk b _ e, fun k b hl e => ?_, fun a z => .inl z⟩
  · rcases get i b x h1 h3 with ⟨_, a1, a2⟩ | ⟨i1, i2, _⟩ <;> rcases get j b y h2 h4 with ⟨_, b1, b2⟩ | ⟨j1, j2, _⟩
    · exact w.inj i j b x y a1 b1 a2 b2
    · exact absurd h (by rw [← j2]; exact w.livTrk ⟨i, x, a1, a2⟩)
    · exact absurd h (by rw [← i2]; exact w.livTrk ⟨j, y, b1, b2⟩)
    · omega
  · rcases get k b e h1 h2 with ⟨_, a1, a2⟩ | ⟨_, rfl, rfl⟩
    · obtain ⟨nz, u, eu, q⟩ := w.own k b e a1 a2
      exact ⟨nz, u, hk _ _ eu, q.imp tr⟩
    · exact ⟨fun z => w.zt b z h, o, upd_same, hd.imp tr⟩
  · cases q : H b with
    | none => exact w.zt b z q
    | some u => rw [hk b u q] at e; cases e
  · rcases (liv_push w.len).mp l with z | ⟨rfl, _⟩
    · exact .inl z
    · exact .inr h
  · cases q : H b with
    | none => exact n q
    | some u => rw [hk b u q] at e; cases e
  · have e2 : k = L.length := by
      have := (List.getElem?_eq_some_iff.mp e).1
      simp at this
      omega
    subst e2
    simp at e
    rw [← e]; exact h
/-- a live object is changed -/
theorem Afz.wr (w : Wd T Z L st H) {k : Nat} {d d' : Dt} (h1 : L[k]? = some a) (h2 : st[k]? = some (some d)) (hd : OwnO L (Bad Z L st) H o d') : Af T Z L st H L (st.set k (some d')) (upd H a o) := by
  have hlt : k < st.length := (List.getElem?_eq_some_iff.mp h2).1
  have la : Liv L st a := ⟨k, d, h1, h2⟩
  obtain ⟨nz, oa, ea, qa⟩ := w.own k a d h1 h2
  have tk : ∀ xs, H a ≠ some (.tup xs) := fun xs z => by
    rw [ea] at z
    rcases qa.kind with ⟨ys, e⟩ | ⟨kvs, e⟩ <;> (rw [e] at z; cases z)
  have liv : ∀ b, Liv L (st.set k (some d')) b ↔ Liv L st b := fun b => by
    constructor
    · rintro ⟨j, e, a1, a2⟩
      by_cases hj : k = j
      · subst hj
        rw [h1] at a1; cases a1
        exact la
      · rw [List.getElem?_set_ne hj] at a2
        exact ⟨j, e, a1, a2⟩
    · rintro ⟨j, e, a1, a2⟩
      by_cases hj : k = j
      · subst hj
        exact ⟨k, d', a1, List.getElem?_set_self hlt⟩
      · exact ⟨j, e, a1, by rw [List.getElem?_set_ne hj]; exact a2⟩
  have eb : Bad Z L (st.set k (some d')) = Bad Z L st := by
    funext b
    unfold Bad
    rw [propext (liv b)]
  have tr : ∀ ds vs, Dens L (Bad Z L st) H ds vs → Dens L (Bad Z L (st.set k (some d'))) (upd H a o) ds vs := fun ds vs q => by
    rw [eb]
    exact Dens.chg (.inr la) tk q
  refine ⟨⟨tabs_upd w.tabs fun u e => by rw [ea] at e; cases e; exact qa.kind, by rw [List.length_set]; exact w.len, fun i j b x y a1 a2 a3 a4 => ?_, fun j b e a1 a2 => ?_, fun b z e => ?_⟩, ⟨[], by simp⟩, fun b u e nl _ => ?_, fun b l => .inl ((liv b).mp l), fun b n e => ?_, fun b xs e => ?_, fun k b h e => absurd (List.getElem?_eq_some_iff.mp e).1 (by omega), fun a z => .inl z⟩
  · have f : ∀ (i : Nat) x, L[i]? = some b → (st.set k (some d'))[i]? = some (some x) → ∃ x', st[i]? = some (some x') := fun i x c1 c2 => by
      by_cases hj : k = i
      · subst hj; exact ⟨d, h2⟩
      · rw [List.getElem?_set_ne hj] at c2; exact ⟨x, c2⟩
    obtain ⟨x', c1⟩ := f i x a1 a3
    obtain ⟨y', c2⟩ := f j y a2 a4
    exact w.inj i j b x' y' a1 a2 c1 c2
  · by_cases hj : k = j
    · subst hj
      rw [h1] at a1; cases a1
      rw [List.getElem?_set_self hlt] at a2
      cases a2
      exact ⟨nz, o, upd_same, hd.imp tr⟩
    · rw [List.getElem?_set_ne hj] at a2
      obtain ⟨nz', u, eu, q⟩ := w.own j b e a1 a2
      have nb : b ≠ a := fun z => by
        subst z
        exact hj (w.inj k j b d e h1 a1 h2 a2)
      exact ⟨nz', u, by rw [upd_ne nb]; exact eu, q.imp tr⟩
  · have nb : b ≠ a := fun y => nz (by rw [← y]; exact z)
    rw [upd_ne nb] at e
    exact w.zt b z e
  · have nb : b ≠ a := fun y => nl (by rw [y]; exact la)
    rw [upd_ne nb]; exact e
  · by_cases hb : b = a
    · rw [hb, upd_same] at e; cases e
    · rw [upd_ne hb] at e; exact n e
  · have nb : b ≠ a := fun y => tk xs (by rw [← y]; exact e)
    rw [upd_ne nb]; exact e
/-- a live object is left to be: from now on it is read by value -/
theorem Wd.frz (w : Wd T Z L st H) {k : Nat} {d : Dt} (h1 : L[k]? = some a) (h2 : st[k]? = some (some d)) : Af T Z L st H L (st.set k none) H ∧ Den L (Bad Z L (st.set k none)) H d (.ref a) := by
  have liv : ∀ b, Liv L (st.set k none) b → Liv L st b ∧ b ≠ a := fun b => by
    rintro ⟨j, e, a1, a2⟩
    by_cases hj : k = j
    · subst hj
      rw [List.getElem?_set] at a2
      rw [if_pos rfl] at a2
      split at a2 <;> cases a2
    · rw [List.getElem?_set_ne hj] at a2
      refine ⟨⟨j, e, a1, a2⟩, fun z => hj ?_⟩
      subst z
      exact w.inj k j b d e h1 a1 h2 a2
  have hb : ∀ b, Bad Z L (st.set k none) b → Bad Z L st b := fun b z => z.elim .inl fun z => .inr (liv b z).1
  have tr : ∀ ds vs, Dens L (Bad Z L st) H ds vs → Dens L (Bad Z L (st.set k none)) H ds vs := fun ds vs q => q.mono hb
  refine ⟨⟨⟨w.tabs, by rw [List.length_set]; exact w.len, fun i j b x y a1 a2 a3 a4 => ?_, fun j b e a1 a2 => ?_, w.zt⟩, ⟨[], by simp⟩, fun b u e _ _ => e, fun b l => .inl (liv b l).1, fun b n => n, fun b xs e => e, fun k b h e => absurd (List.getElem?_eq_some_iff.mp e).1 (by omega), fun a z => .inl z⟩, ?_⟩
  · have f : ∀ (i : Nat) x, (st.set k none)[i]? = some (some x) → st[i]? = some (some x) := fun i x c => by
      by_cases hj : k = i
      · subst hj
        rw [List.getElem?_set, if_pos rfl] at c
        split at c <;> cases c
      · rw [List.getElem?_set_ne hj] at c; exact c
    exact w.inj i j b x y a1 a2 (f i x a3) (f j y a4)
  · by_cases hj : k = j
    · subst hj
      rw [List.getElem?_set, if_pos rfl] at a2
      split at a2 <;> cases a2
    · rw [List.getElem?_set_ne hj] at a2
      obtain ⟨nz', u, eu, q⟩ := w.own j b e a1 a2
      exact ⟨nz', u, eu, q.imp tr⟩
  · obtain ⟨nz, oa, ea, qa⟩ := w.own k a d h1 h2
    have nb : ¬ Bad Z L (st.set k none) a := fun z => z.elim nz fun z => (liv a z).2 rfl
    cases d with
    | lst ds =>
      obtain ⟨vs, rfl, t⟩ := qa
      unfold Den
      exact ⟨a, vs, rfl, nb, ea, tr _ _ t⟩
    | dic ks ds =>
      obtain ⟨vs, rfl, el, t⟩ := qa
      unfold Den
      exact ⟨a, vs, rfl, nb, .inl ea, el, tr _ _ t⟩
    | _ => exact False.elim qa
end
end HB

set_option Elab.async false
set_option linter.all false
set_option maxRecDepth 100000
set_option maxHeartbeats 1000000
/-! HB, part c: the readings of expressions, tests, arguments, statements told by plain functions. -/
namespace HB
open PySem PySem.Spec PyProof.Rows L2

abbrev Evr := List (Option Dt)
def EnvOk (L : List Addr) (B : Addr → Prop) (H : Hp) (r : Evr) (s : L2.St) : Prop := r.length = s.length ∧ ∀ (i : Nat) (d : Dt), r[i]? = some (some d) → ∃ v, s[i]? = some (some v) ∧ Den L B H d v
abbrev SE := Evr → Sto → Option (Dt × Sto)
abbrev ST := Evr → Sto → Option (Bool × Sto)
abbrev SA := Evr → Sto → Option (List Dt × Sto)
inductive Ou where
  | nx (r : Evr) (st : Sto) | rt (d : Dt) (st : Sto) | bk (r : Evr) (st : Sto) | ct (r : Evr) (st : Sto)
abbrev SS := Evr → Sto → Option Ou

def SimE (T : List (Addr × Str)) (t : TE) (f : SE) : Prop := ∀ Z L st H s r d st' (Q : VK), Wd T Z L st H → EnvOk L (Bad Z L st) H r s → f r st = some (d, st') →
  (∀ v H' L', Af T Z L st H L' st' H' → Den L' (Bad Z L' st') H' d v → Q v H') → t s H Q
def SimT (T : List (Addr × Str)) (t : TT) (f : ST) : Prop := ∀ Z L st H s r b st' (Q : Bool → Hp → Prop), Wd T Z L st H → EnvOk L (Bad Z L st) H r s → f r st = some (b, st') →
  (∀ H' L', Af T Z L st H L' st' H' → Q b H') → t s H Q
def SimA (T : List (Addr × Str)) (t : TA) (f : SA) : Prop := ∀ Z L st H s r ds st' (Q : List V → Hp → Prop), Wd T Z L st H → EnvOk L (Bad Z L st) H r s → f r st = some (ds, st') →
  (∀ vs H' L', Af T Z L st H L' st' H' → Dens L' (Bad Z L' st') H' ds vs → Q vs H') → t s H Q
def OuOk (T : List (Addr × Str)) (Z : Addr → Prop) (L : List Addr) (st : Sto) (H : Hp) (D : Ends) : Ou → Prop
  | .nx r st' => ∀ s H' L', Af T Z L st H L' st' H' → EnvOk L' (Bad Z L' st') H' r s → D.nx s H'
  | .rt d st' => ∀ v H' L', Af T Z L st H L' st' H' → Den L' (Bad Z L' st') H' d v → D.rt v H'
  | .bk r st' => ∀ s H' L', Af T Z L st H L' st' H' → EnvOk L' (Bad Z L' st') H' r s → D.bk s H'
  | .ct r st' => ∀ s H' L', Af T Z L st H L' st' H' → EnvOk L' (Bad Z L' st') H' r s → D.ct s H'
def SimS (T : List (Addr × Str)) (t : TS) (g : SS) : Prop := ∀ Z L st H s r o D, Wd T Z L st H → EnvOk L (Bad Z L st) H r s → g r st = some o → OuOk T Z L st H D o → t D s H
/-- operators, calls, methods by values -/
def VO2 (T : List (Addr × Str)) (r : R2) (g : Sto → Dt → Dt → Option (Dt × Sto)) : Prop := ∀ Z L st H x y dx dy d st' (Q : VK), Wd T Z L st H → Den L (Bad Z L st) H dx x → Den L (Bad Z L st) H dy y → g st dx dy = some (d, st') →
  (∀ v H' L', Af T Z L st H L' st' H' → Den L' (Bad Z L' st') H' d v → Q v H') → r x y H Q
def VON (T : List (Addr × Str)) (r : List V → Hp → VK → Prop) (g : Sto → List Dt → Option (Dt × Sto)) : Prop := ∀ Z L st H xs dxs d st' (Q : VK), Wd T Z L st H → Dens L (Bad Z L st) H dxs xs → g st dxs = some (d, st') →
  (∀ v H' L', Af T Z L st H L' st' H' → Den L' (Bad Z L' st') H' d v → Q v H') → r xs H Q
def VOM (T : List (Addr × Str)) (r : V → List V → Hp → VK → Prop) (g : Sto → Dt → List Dt → Option (Dt × Sto)) : Prop := ∀ Z L st H x xs dx dxs d st' (Q : VK), Wd T Z L st H → Den L (Bad Z L st) H dx x → Dens L (Bad Z L st) H dxs xs → g st dx dxs = some (d, st') →
  (∀ v H' L', Af T Z L st H L' st' H' → Den L' (Bad Z L' st') H' d v → Q v H') → r x xs H Q

section
variable {T : List (Addr × Str)} {Z : Addr → Prop} {L L' : List Addr} {st st' : Sto} {H H' : Hp} {r : Evr} {s : L2.St}
theorem EnvOk.keep {Z' : Addr → Prop} (h : Afz T Z L st H Z' L' st' H') (e : EnvOk L (Bad Z L st) H r s) : EnvOk L' (Bad Z' L' st') H' r s :=
  ⟨e.1, fun i d q => by obtain ⟨v, h1, h2⟩ := e.2 i d q; exact ⟨v, h1, h2.keep h⟩⟩
theorem EnvOk.set {B : Addr → Prop} {d : Dt} {v : V} (e : EnvOk L B H r s) (i : Nat) (q : Den L B H d v) : EnvOk L B H (r.set i (some d)) (s.set i (some v)) := by
  refine ⟨by rw [List.length_set, List.length_set]; exact e.1, fun j d' h => ?_⟩
  by_cases hj : i = j
  · subst hj
    by_cases hi : i < r.length
    · rw [List.getElem?_set_self hi] at h
      cases h
      exact ⟨v, List.getElem?_set_self (by rw [← e.1]; exact hi), q⟩
    · rw [List.getElem?_eq_none (by rw [List.length_set]; omega)] at h; cases h
  · rw [List.getElem?_set_ne hj] at h
    obtain ⟨u, h1, h2⟩ := e.2 j d' h
    exact ⟨u, by rw [List.getElem?_set_ne hj]; exact h1, h2⟩
end

/-! ### expressions -/
def eVar (i : Nat) : SE := fun r st => match r[i]? with
  | some (some d) => some (d, st)
  | _ => none
def eC (d : Dt) : SE := fun _ st => some (d, st)
def eOp2 (g : Sto → Dt → Dt → Option (Dt × Sto)) (fa fb : SE) : SE := fun r st => (fa r st).bind fun x => (fb r x.2).bind fun y => g y.2 x.1 y.1
def aNil : SA := fun _ st => some ([], st)
def aCons (fa : SE) (fr : SA) : SA := fun r st => (fa r st).bind fun x => (fr r x.2).bind fun y => some (x.1 :: y.1, y.2)
def eN (g : Sto → List Dt → Option (Dt × Sto)) (fa : SA) : SE := fun r st => (fa r st).bind fun x => g x.2 x.1
def eIf (c : ST) (fa fb : SE) : SE := fun r st => (c r st).bind fun b => if b.1 = true then fa r b.2 else fb r b.2
def eChain (g g' : Sto → Dt → Dt → Option (Dt × Sto)) (fa fb fc : SE) : SE := fun r st => (fa r st).bind fun x => (fb r x.2).bind fun y => (g y.2 x.1 y.1).bind fun z => match z.1 with
  | .bl true => (fc r z.2).bind fun w => g' w.2 y.1 w.1
  | .bl false => some (.bl false, z.2)
  | _ => none
def eAndV (fa fb : SE) : SE := fun r st => (fa r st).bind fun x => match x.1 with
  | .bl true => fb r x.2
  | .bl false => some (.bl false, x.2)
  | _ => none
def eOrV (fa fb : SE) : SE := fun r st => (fa r st).bind fun x => match x.1 with
  | .bl false => fb r x.2
  | .bl true => some (.bl true, x.2)
  | _ => none
def eNotV (fa : SE) : SE := fun r st => (fa r st).bind fun x => match x.1 with
  | .bl b => some (.bl (!b), x.2)
  | _ => none
def cB (fa : SE) : ST := fun r st => (fa r st).bind fun x => match x.1 with
  | .bl b => some (b, x.2)
  | _ => none
def cAnd (c e : ST) : ST := fun r st => (c r st).bind fun b => if b.1 = true then e r b.2 else some (false, b.2)
def cOr (c e : ST) : ST := fun r st => (c r st).bind fun b => if b.1 = true then some (true, b.2) else e r b.2
def cNot (c : ST) : ST := fun r st => (c r st).bind fun b => some (!b.1, b.2)
def cYes : ST := fun _ st => some (true, st)

theorem bind_some' {α β : Type} {x : Option α} {f : α → Option β} {b : β} (h : x.bind f = some b) : ∃ a, x = some a ∧ f a = some b := by
  cases x with
  | none => cases h
  | some a => exact ⟨a, rfl, h⟩
section
variable {T : List (Addr × Str)} {ta tb tc : TE} {fa fb fc : SE}
theorem sim_var {i : Nat} : SimE T (tVar i) (eVar i) := by
  intro Z L st H s r d st' Q w e h q
  unfold eVar at h
  split at h
  · rename_i d' hd
    cases h
    obtain ⟨v, h1, h2⟩ := e.2 i _ hd
    exact ⟨v, h1, q v H L (.refl w) h2⟩
  · cases h
theorem sim_C {d : Dt} {v : V} (hd : ∀ L B H, Den L B H d v) : SimE T (tC v) (eC d) := by
  intro Z L st H s r d' st' Q w e h q
  cases h
  exact q v H L (.refl w) (hd _ _ _)
theorem sim_int {i : Int} : SimE T (tC (.int i)) (eC (.int i)) := sim_C fun _ _ _ => by unfold Den; rfl
theorem sim_str {x : Str} : SimE T (tC (.str x)) (eC (.str x)) := sim_C fun _ _ _ => by unfold Den; rfl
theorem sim_bl {b : Bool} : SimE T (tC (.bl b)) (eC (.bl b)) := sim_C fun _ _ _ => by unfold Den; rfl
theorem sim_non : SimE T (tC .non) (eC .non) := sim_C fun _ _ _ => by unfold Den; rfl
theorem sim_op {r : R2} {g : Sto → Dt → Dt → Option (Dt × Sto)} (ha : SimE T ta fa) (hb : SimE T tb fb) (ho : VO2 T r g) : SimE T (tOp r ta tb) (eOp2 g fa fb) := by
  intro Z L st H s rr d st' Q w e h q
  obtain ⟨⟨dx, st1⟩, h1, h⟩ := bind_some' h
  obtain ⟨⟨dy, st2⟩, h2, h⟩ := bind_some' h
  refine ha Z L st H s rr dx st1 _ w e h1 fun x H1 L1 f1 p1 => ?_
  refine hb Z L1 st1 H1 s rr dy st2 _ f1.wd (e.keep f1) h2 fun y H2 L2 f2 p2 => ?_
  exact ho Z L2 st2 H2 x y dx dy d st' Q f2.wd (p1.keep f2) p2 h fun v H3 L3 f3 p3 => q v H3 L3 (f1.trans (f2.trans f3)) p3
theorem sim_nil : SimA T tNil aNil := by
  intro Z L st H s r d st' Q w e h q
  cases h
  exact q [] H L (.refl w) .nil
theorem sim_cons {tr : TA} {fr : SA} (ha : SimE T ta fa) (hr : SimA T tr fr) : SimA T (tCons ta tr) (aCons fa fr) := by
  intro Z L st H s rr d st' Q w e h q
  obtain ⟨⟨dx, st1⟩, h1, h⟩ := bind_some' h
  obtain ⟨⟨dy, st2⟩, h2, h⟩ := bind_some' h
  cases h
  refine ha Z L st H s rr dx st1 _ w e h1 fun x H1 L1 f1 p1 => ?_
  refine hr Z L1 st1 H1 s rr dy st2 _ f1.wd (e.keep f1) h2 fun y H2 L2 f2 p2 => ?_
  exact q _ H2 L2 (f1.trans f2) (.cons (p1.keep f2) p2)
theorem sim_N {t : TA} {f : SA} {r : List V → Hp → VK → Prop} {g : Sto → List Dt → Option (Dt × Sto)} (ha : SimA T t f) (ho : VON T r g) : SimE T (tCB r t) (eN g f) := by
  intro Z L st H s rr d st' Q w e h q
  obtain ⟨⟨dx, st1⟩, h1, h⟩ := bind_some' h
  refine ha Z L st H s rr dx st1 _ w e h1 fun x H1 L1 f1 p1 => ?_
  exact ho Z L1 st1 H1 x dx d st' Q f1.wd p1 h fun v H3 L3 f3 p3 => q v H3 L3 (f1.trans f3) p3
theorem sim_if {t : TT} {c : ST} (hc : SimT T t c) (ha : SimE T ta fa) (hb : SimE T tb fb) : SimE T (tIf t ta tb) (eIf c fa fb) := by
  intro Z L st H s rr d st' Q w e h q
  obtain ⟨⟨b, st1⟩, h1, h⟩ := bind_some' h
  refine hc Z L st H s rr b st1 _ w e h1 fun H1 L1 f1 => ?_
  cases b with
  | true => exact ha Z L1 st1 H1 s rr d st' Q f1.wd (e.keep f1) h fun v H3 L3 f3 p3 => q v H3 L3 (f1.trans f3) p3
  | false => exact hb Z L1 st1 H1 s rr d st' Q f1.wd (e.keep f1) h fun v H3 L3 f3 p3 => q v H3 L3 (f1.trans f3) p3
theorem den_bl {L : List Addr} {B : Addr → Prop} {H : Hp} {b : Bool} {v : V} (h : Den L B H (.bl b) v) : v = .bl b := by unfold Den at h; exact h
theorem den_int {L : List Addr} {B : Addr → Prop} {H : Hp} {b : Int} {v : V} (h : Den L B H (.int b) v) : v = .int b := by unfold Den at h; exact h
theorem den_str {L : List Addr} {B : Addr → Prop} {H : Hp} {b : Str} {v : V} (h : Den L B H (.str b) v) : v = .str b := by unfold Den at h; exact h
theorem den_non {L : List Addr} {B : Addr → Prop} {H : Hp} {v : V} (h : Den L B H .non v) : v = .non := by unfold Den at h; exact h
theorem Den.int {L : List Addr} {B : Addr → Prop} {H : Hp} {i : Int} : Den L B H (.int i) (.int i) := by unfold Den; rfl
theorem Den.str {L : List Addr} {B : Addr → Prop} {H : Hp} {i : Str} : Den L B H (.str i) (.str i) := by unfold Den; rfl
theorem Den.bl {L : List Addr} {B : Addr → Prop} {H : Hp} {i : Bool} : Den L B H (.bl i) (.bl i) := by unfold Den; rfl
theorem Den.non {L : List Addr} {B : Addr → Prop} {H : Hp} : Den L B H .non .non := by unfold Den; rfl
theorem sim_chain {r r' : R2} {g g' : Sto → Dt → Dt → Option (Dt × Sto)} (ho : VO2 T r g) (ho' : VO2 T r' g') (ha : SimE T ta fa) (hb : SimE T tb fb) (hc : SimE T tc fc) : SimE T (tChain r r' ta tb tc) (eChain g g' fa fb fc) := by
  intro Z L st H s rr d st' Q w e h q
  obtain ⟨⟨dx, st1⟩, h1, h⟩ := bind_some' h
  obtain ⟨⟨dy, st2⟩, h2, h⟩ := bind_some' h
  obtain ⟨⟨dz, st3⟩, h3, h⟩ := bind_some' h
  refine ha Z L st H s rr dx st1 _ w e h1 fun x H1 L1 f1 p1 => ?_
  refine hb Z L1 st1 H1 s rr dy st2 _ f1.wd (e.keep f1) h2 fun y H2 L2 f2 p2 => ?_
  refine ho Z L2 st2 H2 x y dx dy dz st3 _ f2.wd (p1.keep f2) p2 h3 fun v H3 L3 f3 p3 => ?_
  cases dz with
  | bl b =>
    refine ⟨b, den_bl p3, ?_⟩
    cases b with
    | false =>
      cases h
      exact iteF (q _ H3 L3 (f1.trans (f2.trans f3)) Den.bl)
    | true =>
      obtain ⟨⟨dw, st4⟩, h4, h⟩ := bind_some' h
      refine iteT (hc Z L3 st3 H3 s rr dw st4 _ f3.wd (((e.keep f1).keep f2).keep f3) h4 fun u H4 L4 f4 p4 => ?_)
      exact ho' Z L4 st4 H4 y u dy dw d st' Q f4.wd ((p2.keep f3).keep f4) p4 h fun v H5 L5 f5 p5 => q v H5 L5 (f1.trans (f2.trans (f3.trans (f4.trans f5)))) p5
  | _ => cases h
theorem sim_andV (ha : SimE T ta fa) (hb : SimE T tb fb) : SimE T (tAndV ta tb) (eAndV fa fb) := by
  intro Z L st H s rr d st' Q w e h q
  obtain ⟨⟨dx, st1⟩, h1, h⟩ := bind_some' h
  refine ha Z L st H s rr dx st1 _ w e h1 fun x H1 L1 f1 p1 => ?_
  cases dx with
  | bl b =>
    refine ⟨b, den_bl p1, ?_⟩
    cases b with
    | false => cases h; exact iteF (q _ H1 L1 f1 Den.bl)
    | true => exact iteT (hb Z L1 st1 H1 s rr d st' Q f1.wd (e.keep f1) h fun v H3 L3 f3 p3 => q v H3 L3 (f1.trans f3) p3)
  | _ => cases h
theorem sim_orV (ha : SimE T ta fa) (hb : SimE T tb fb) : SimE T (tOrV ta tb) (eOrV fa fb) := by
  intro Z L st H s rr d st' Q w e h q
  obtain ⟨⟨dx, st1⟩, h1, h⟩ := bind_some' h
  refine ha Z L st H s rr dx st1 _ w e h1 fun x H1 L1 f1 p1 => ?_
  cases dx with
  | bl b =>
    refine ⟨b, den_bl p1, ?_⟩
    cases b with
    | true => cases h; exact iteT (q _ H1 L1 f1 Den.bl)
    | false => exact iteF (hb Z L1 st1 H1 s rr d st' Q f1.wd (e.keep f1) h fun v H3 L3 f3 p3 => q v H3 L3 (f1.trans f3) p3)
  | _ => cases h
theorem sim_notV (ha : SimE T ta fa) : SimE T (tNotV ta) (eNotV fa) := by
  intro Z L st H s rr d st' Q w e h q
  obtain ⟨⟨dx, st1⟩, h1, h⟩ := bind_some' h
  refine ha Z L st H s rr dx st1 _ w e h1 fun x H1 L1 f1 p1 => ?_
  cases dx with
  | bl b => cases h; exact ⟨b, den_bl p1, q _ H1 L1 f1 Den.bl⟩
  | _ => cases h
theorem sim_cB (ha : SimE T ta fa) : SimT T (tB ta) (cB fa) := by
  intro Z L st H s rr d st' Q w e h q
  obtain ⟨⟨dx, st1⟩, h1, h⟩ := bind_some' h
  refine ha Z L st H s rr dx st1 _ w e h1 fun x H1 L1 f1 p1 => ?_
  cases dx with
  | bl b => cases h; exact ⟨_, den_bl p1, q H1 L1 f1⟩
  | _ => cases h
theorem sim_cBT (ha : SimE T ta fa) : SimT T (tTest ta) (cB fa) := sim_cB ha
theorem sim_and {t u : TT} {c e : ST} (hc : SimT T t c) (he : SimT T u e) : SimT T (tAnd t u) (cAnd c e) := by
  intro Z L st H s rr d st' Q w ev h q
  obtain ⟨⟨b, st1⟩, h1, h⟩ := bind_some' h
  refine hc Z L st H s rr b st1 _ w ev h1 fun H1 L1 f1 => ?_
  cases b with
  | true => exact iteT (he Z L1 st1 H1 s rr d st' Q f1.wd (ev.keep f1) h fun H3 L3 f3 => q H3 L3 (f1.trans f3))
  | false => cases h; exact iteF (q H1 L1 f1)
theorem sim_or {t u : TT} {c e : ST} (hc : SimT T t c) (he : SimT T u e) : SimT T (tOr t u) (cOr c e) := by
  intro Z L st H s rr d st' Q w ev h q
  obtain ⟨⟨b, st1⟩, h1, h⟩ := bind_some' h
  refine hc Z L st H s rr b st1 _ w ev h1 fun H1 L1 f1 => ?_
  cases b with
  | true => cases h; exact iteT (q H1 L1 f1)
  | false => exact iteF (he Z L1 st1 H1 s rr d st' Q f1.wd (ev.keep f1) h fun H3 L3 f3 => q H3 L3 (f1.trans f3))
theorem sim_not {t : TT} {c : ST} (hc : SimT T t c) : SimT T (tNot t) (cNot c) := by
  intro Z L st H s rr d st' Q w ev h q
  obtain ⟨⟨b, st1⟩, h1, h⟩ := bind_some' h
  cases h
  exact hc Z L st H s rr b st1 _ w ev h1 fun H1 L1 f1 => q H1 L1 f1
theorem sim_yes : SimT T tYes cYes := by
  intro Z L st H s rr d st' Q w ev h q
  cases h
  exact q H L (.refl w)
end

/-! ### statements -/
def sNx : SS := fun r st => some (.nx r st)
def sBk : SS := fun r st => some (.bk r st)
def sCt : SS := fun r st => some (.ct r st)
def sRet (f : SE) : SS := fun r st => (f r st).bind fun x => some (.rt x.1 x.2)
def sRetN : SS := fun _ st => some (.rt .non st)
def sEx (f : SE) : SS := fun r st => (f r st).bind fun x => some (.nx r x.2)
def sSet (i : Nat) (f : SE) : SS := fun r st => (f r st).bind fun x => some (.nx (r.set i (some x.1)) x.2)
def sSeq (g k : SS) : SS := fun r st => (g r st).bind fun o => match o with
  | .nx r' st' => k r' st'
  | o => some o
def sIf (c : ST) (g k : SS) : SS := fun r st => (c r st).bind fun b => if b.1 = true then g r b.2 else k r b.2
def sNo : SS := fun _ _ => none
def sWh (c : ST) (g : SS) : Nat → SS
  | 0 => fun _ _ => none
  | n + 1 => fun r st => (c r st).bind fun b => if b.1 = true then (g r b.2).bind fun o => match o with
      | .nx r' st' => sWh c g n r' st'
      | .ct r' st' => sWh c g n r' st'
      | .bk r' st' => some (.nx r' st')
      | .rt d st' => some (.rt d st')
    else some (.nx r b.2)
/-- an object in the slot i is left to be -/
def sFrz (i : Nat) : SS := fun r st => match r[i]? with
  | some (some (.ref k)) => (match st[k]? with
    | some (some d) => some (.nx (r.set i (some d)) (st.set k none))
    | _ => none)
  | _ => none
section
variable {T : List (Addr × Str)} {ta tb tc : TE} {fa fb fc : SE}
theorem OuOk.after {Z : Addr → Prop} {L L1 : List Addr} {st st1 : Sto} {H H1 : Hp} {D : Ends} {o : Ou} (f : Af T Z L st H L1 st1 H1) (h : OuOk T Z L st H D o) : OuOk T Z L1 st1 H1 D o := by
  cases o with
  | nx r st' => exact fun s H' L' g e => h s H' L' (f.trans g) e
  | rt d st' => exact fun s H' L' g e => h s H' L' (f.trans g) e
  | bk r st' => exact fun s H' L' g e => h s H' L' (f.trans g) e
  | ct r st' => exact fun s H' L' g e => h s H' L' (f.trans g) e
theorem sim_nx : SimS T tNext sNx := by
  intro Z L st H s r o D w e h q
  cases h
  exact q s H L (.refl w) e
theorem sim_break : SimS T tBreak sBk := by
  intro Z L st H s r o D w e h q
  cases h
  exact q s H L (.refl w) e
theorem sim_cont : SimS T tCont sCt := by
  intro Z L st H s r o D w e h q
  cases h
  exact q s H L (.refl w) e
theorem sim_never : SimS T tNever sNo := by
  intro Z L st H s r o D w e h q
  cases h
theorem sim_ret (ha : SimE T ta fa) : SimS T (tRet ta) (sRet fa) := by
  intro Z L st H s r o D w e h q
  obtain ⟨⟨dx, st1⟩, h1, h⟩ := bind_some' h
  cases h
  exact ha Z L st H s r dx st1 _ w e h1 fun v H1 L1 f1 p1 => q v H1 L1 f1 p1
theorem sim_retN : SimS T tRetN sRetN := by
  intro Z L st H s r o D w e h q
  cases h
  exact q .non H L (.refl w) Den.non
theorem sim_ex (ha : SimE T ta fa) : SimS T (tDrop ta) (sEx fa) := by
  intro Z L st H s r o D w e h q
  obtain ⟨⟨dx, st1⟩, h1, h⟩ := bind_some' h
  cases h
  exact ha Z L st H s r dx st1 _ w e h1 fun v H1 L1 f1 p1 => q s H1 L1 f1 (e.keep f1)
theorem sim_set {i : Nat} (ha : SimE T ta fa) : SimS T (tAsg ta (gName i)) (sSet i fa) := by
  intro Z L st H s r o D w e h q
  obtain ⟨⟨dx, st1⟩, h1, h⟩ := bind_some' h
  cases h
  exact ha Z L st H s r dx st1 _ w e h1 fun v H1 L1 f1 p1 => q _ H1 L1 f1 ((e.keep f1).set i p1)
theorem sim_seq {t u : TS} {g k : SS} (h1 : SimS T t g) (h2 : SimS T u k) : SimS T (tSeq t u) (sSeq g k) := by
  intro Z L st H s r o D w e h q
  obtain ⟨o1, a1, h⟩ := bind_some' h
  refine h1 Z L st H s r o1 _ w e a1 ?_
  cases o1 with
  | nx r' st' => exact fun s1 H1 L1 f1 e1 => h2 Z L1 st' H1 s1 r' o D f1.wd e1 h (q.after f1)
  | rt d st' => cases h; exact q
  | bk r' st' => cases h; exact q
  | ct r' st' => cases h; exact q
theorem sim_ifS {t : TT} {c : ST} {u v : TS} {g k : SS} (hc : SimT T t c) (h1 : SimS T u g) (h2 : SimS T v k) : SimS T (tIfS t u v) (sIf c g k) := by
  intro Z L st H s r o D w e h q
  obtain ⟨⟨b, st1⟩, a1, h⟩ := bind_some' h
  refine hc Z L st H s r b st1 _ w e a1 fun H1 L1 f1 => ?_
  cases b with
  | true => exact iteT (h1 Z L1 st1 H1 s r o D f1.wd (e.keep f1) h (q.after f1))
  | false => exact iteF (h2 Z L1 st1 H1 s r o D f1.wd (e.keep f1) h (q.after f1))
theorem sim_wh {t : TT} {c : ST} {u : TS} {g : SS} (hc : SimT T t c) (hb : SimS T u g) (n : Nat) : SimS T (tWhile t u) (sWh c g n) := by
  intro Z L st H s r o D w e h q
  refine ⟨fun m s1 H1 => ∃ L1 st1 r1, Af T Z L st H L1 st1 H1 ∧ EnvOk L1 (Bad Z L1 st1) H1 r1 s1 ∧ sWh c g m r1 st1 = some o, ⟨n, L, st, r, .refl w, e, h⟩, ?_⟩
  rintro m s1 H1 ⟨L1, st1, r1, f1, e1, h1⟩
  cases m with
  | zero => cases h1
  | succ m =>
    obtain ⟨⟨b, st2⟩, a1, h2⟩ := bind_some' h1
    refine hc Z L1 st1 H1 s1 r1 b st2 _ f1.wd e1 a1 fun H2 L2 f2 => ?_
    cases b with
    | false =>
      rw [if_neg (by simp)] at h2
      cases h2
      exact iteF (q s1 H2 L2 (f1.trans f2) (e1.keep f2))
    | true =>
      rw [if_pos rfl] at h2
      obtain ⟨o1, a2, h3⟩ := bind_some' h2
      refine iteT ⟨fun s3 H3 => ∃ L3 st3 r3, Af T Z L st H L3 st3 H3 ∧ EnvOk L3 (Bad Z L3 st3) H3 r3 s3 ∧ sWh c g m r3 st3 = some o, fun s3 H3 x => ⟨m, Nat.lt_succ_self _, x⟩, ?_⟩
      refine hb Z L2 st2 H2 s1 r1 o1 _ f2.wd (e1.keep f2) a2 ?_
      cases o1 with
      | nx r' st' => exact fun s3 H3 L3 f3 e3 => ⟨L3, st', r', f1.trans (f2.trans f3), e3, h3⟩
      | ct r' st' => exact fun s3 H3 L3 f3 e3 => ⟨L3, st', r', f1.trans (f2.trans f3), e3, h3⟩
      | bk r' st' => cases h3; exact fun s3 H3 L3 f3 e3 => q s3 H3 L3 (f1.trans (f2.trans f3)) e3
      | rt d st' => cases h3; exact fun v H3 L3 f3 e3 => q v H3 L3 (f1.trans (f2.trans f3)) e3
/-- a ghost step ahead of a statement -/
theorem sim_frz {t : TS} {g : SS} {i : Nat} (h1 : SimS T t g) : SimS T t (sSeq (sFrz i) g) := by
  intro Z L st H s r o D w e h q
  obtain ⟨o1, a1, h⟩ := bind_some' h
  unfold sFrz at a1
  split at a1
  · rename_i k hk
    split at a1
    · rename_i d hd
      cases a1
      obtain ⟨v, v1, v2⟩ := e.2 i _ hk
      unfold Den at v2
      obtain ⟨a, la, rfl⟩ := v2
      obtain ⟨f, p⟩ := w.frz la hd
      refine h1 Z L (st.set k none) H s (r.set i (some d)) o D f.wd ?_ h (q.after f)
      have e2 := (e.keep f).set i p
      have e3 : s.set i (some (.ref a)) = s := by
        apply List.ext_getElem?
        intro j
        by_cases hj : i = j
        · subst hj
          rw [List.getElem?_set_self (List.getElem?_eq_some_iff.mp v1).1, v1]
        · rw [List.getElem?_set_ne hj]
      rw [e3] at e2
      exact e2
    · cases a1
  · cases a1
end
end HB

set_option Elab.async false
set_option linter.all false
set_option maxRecDepth 100000
set_option maxHeartbeats 1000000
/-! HB, part d: what is walked; for, comprehensions; defs. -/
namespace HB
open PySem PySem.Spec PyProof.Rows L2

/-- the walk gives the items one by one, in every later world -/
def WalkD (T : List (Addr × Str)) (Z : Addr → Prop) (L : List Addr) (st : Sto) (H : Hp) (J : It) (xs : List Dt) : Prop := ∀ Z1 L1 st1 H1, Afz T Z L st H Z1 L1 st1 H1 →
  J.stop xs.length H1 ∧ ∀ (i : Nat) (d : Dt), xs[i]? = some d → J.go i H1 ∧ ∀ x H2, J.yld i H1 x H2 → Afz T Z1 L1 st1 H1 Z1 L1 st1 H2 ∧ Den L1 (Bad Z1 L1 st1) H2 d x
def SimI (T : List (Addr × Str)) (t : TI) (f : SA) : Prop := ∀ Z L st H s r xs st' (Q : It → Hp → Prop), Wd T Z L st H → EnvOk L (Bad Z L st) H r s → f r st = some (xs, st') →
  (∀ J H' L', Af T Z L st H L' st' H' → WalkD T Z L' st' H' J xs → Q J H') → t s H Q
section
variable (T : List (Addr × Str)) (Z : Addr → Prop) (L : List Addr) (st : Sto) (H : Hp) (s : L2.St) (r : Evr)
/-- the same at one world -/
def EAt (t : TE) (f : SE) : Prop := ∀ d st' (Q : VK), f r st = some (d, st') → (∀ v H' L', Af T Z L st H L' st' H' → Den L' (Bad Z L' st') H' d v → Q v H') → t s H Q
def IAt (t : TI) (f : SA) : Prop := ∀ xs st' (Q : It → Hp → Prop), f r st = some (xs, st') → (∀ J H' L', Af T Z L st H L' st' H' → WalkD T Z L' st' H' J xs → Q J H') → t s H Q
end
theorem SimI.at {T : List (Addr × Str)} {t : TI} {f : SA} (h : SimI T t f) {Z : Addr → Prop} {L : List Addr} {st : Sto} {H : Hp} {s : L2.St} {r : Evr} (w : Wd T Z L st H) (e : EnvOk L (Bad Z L st) H r s) : IAt T Z L st H s r t f := fun xs st' Q a q => h Z L st H s r xs st' Q w e a q
/-- targets: is, the slots that may be set -/
abbrev SG := Dt → Evr → Option Evr
def SimG (T : List (Addr × Str)) (is : List Nat) (g : TG) (k : SG) : Prop := ∀ Z L st H s r v d r' (Q : L2.St → Hp → Prop), Wd T Z L st H → EnvOk L (Bad Z L st) H r s → Den L (Bad Z L st) H d v → k d r = some r' →
  (∀ s', EnvOk L (Bad Z L st) H r' s' → (∀ vs : List Nat, (∀ i ∈ is, i ∈ vs) → wipe s' vs = wipe s vs) → Q s' H) → g v s H Q
def SimGs (T : List (Addr × Str)) (is : List Nat) (g : TGs) (k : List Dt → Evr → Option Evr) : Prop := ∀ Z L st H s r vs ds r' (Q : L2.St → Hp → Prop), Wd T Z L st H → EnvOk L (Bad Z L st) H r s → Dens L (Bad Z L st) H ds vs → k ds r = some r' →
  (∀ s', EnvOk L (Bad Z L st) H r' s' → (∀ vs : List Nat, (∀ i ∈ is, i ∈ vs) → wipe s' vs = wipe s vs) → Q s' H) → g vs s H Q
theorem wipe_set {s : L2.St} {i : Nat} {x : Option V} : ∀ {vs : List Nat}, i ∈ vs → wipe (s.set i x) vs = wipe s vs
  | [], h => by simp at h
  | v :: vs, h => by
    unfold wipe
    by_cases hv : i = v
    · subst hv
      by_cases hm : i ∈ vs
      · rw [wipe_set hm]
      · have key : ∀ {us : List Nat}, i ∉ us → wipe (s.set i x) us = (wipe s us).set i x := by
          intro us
          induction us with
          | nil => intro _; rfl
          | cons u us ih =>
            intro hu
            simp only [List.mem_cons, not_or] at hu
            show (wipe (s.set i x) us).set u none = ((wipe s us).set u none).set i x
            rw [ih hu.2, List.set_comm _ _ hu.1]
        rw [key hm, List.set_set]
    · rcases List.mem_cons.mp h with e | hm
      · exact absurd e hv
      · rw [wipe_set hm]
theorem wipe_wipe (s : L2.St) : ∀ vs : List Nat, wipe (wipe s vs) vs = wipe s vs := by
  intro vs
  have key : ∀ (us : List Nat) (s : L2.St), (∀ u ∈ us, u ∈ vs) → wipe (wipe s us) vs = wipe s vs := by
    intro us
    induction us with
    | nil => intro s _; rfl
    | cons u us ih =>
      intro s h
      show wipe ((wipe s us).set u none) vs = wipe s vs
      rw [wipe_set (h u (by simp)), ih s (fun w hw => h w (by simp [hw]))]
  exact key vs s fun _ h => h
def wipeD (r : Evr) : List Nat → Evr
  | [] => r
  | v :: vs => (wipeD r vs).set v none
theorem EnvOk.forget {L : List Addr} {B : Addr → Prop} {H : Hp} {r : Evr} {s : L2.St} (e : EnvOk L B H r s) (i : Nat) : EnvOk L B H (r.set i none) (s.set i none) := by
  refine ⟨by rw [List.length_set, List.length_set]; exact e.1, fun j d h => ?_⟩
  by_cases hj : i = j
  · subst hj
    rw [List.getElem?_set, if_pos rfl] at h
    split at h <;> cases h
  · rw [List.getElem?_set_ne hj] at h
    obtain ⟨u, h1, h2⟩ := e.2 j d h
    exact ⟨u, by rw [List.getElem?_set_ne hj]; exact h1, h2⟩
theorem EnvOk.wipe {L : List Addr} {B : Addr → Prop} {H : Hp} {r : Evr} {s : L2.St} (e : EnvOk L B H r s) : ∀ vs : List Nat, EnvOk L B H (wipeD r vs) (L2.wipe s vs)
  | [] => e
  | v :: vs => (EnvOk.wipe e vs).forget v
def kName (i : Nat) : SG := fun d r => some (r.set i (some d))
def ksNil : List Dt → Evr → Option Evr := fun ds r => match ds with
  | [] => some r
  | _ => none
def ksCons (k : SG) (ks : List Dt → Evr → Option Evr) : List Dt → Evr → Option Evr := fun ds r => match ds with
  | d :: ds => (k d r).bind fun r' => ks ds r'
  | [] => none
def kTup (ks : List Dt → Evr → Option Evr) : SG := fun d r => match d with
  | .tup ds => ks ds r
  | _ => none
section
variable {T : List (Addr × Str)}
theorem sim_gname {i : Nat} : SimG T [i] (gName i) (kName i) := by
  intro Z L st H s r v d r' Q w e h k q
  cases k
  exact q _ (e.set i h) fun vs hv => wipe_set (hv i (by simp))
theorem sim_gnil : SimGs T [] gNil ksNil := by
  intro Z L st H s r vs ds r' Q w e h k q
  unfold ksNil at k
  cases ds with
  | nil =>
    cases k
    unfold Dens at h
    exact ⟨h, q s e fun _ _ => rfl⟩
  | cons d ds => cases k
theorem sim_gcons {is js : List Nat} {t : TG} {k : SG} {u : TGs} {ks : List Dt → Evr → Option Evr} (h1 : SimG T is t k) (h2 : SimGs T js u ks) : SimGs T (is ++ js) (gCons t u) (ksCons k ks) := by
  intro Z L st H s r vs ds r' Q w e h kk q
  unfold ksCons at kk
  cases ds with
  | nil => cases kk
  | cons d ds =>
    obtain ⟨r1, a1, a2⟩ := bind_some' kk
    obtain ⟨v, vr, rfl, p, t'⟩ := h.uncons
    refine ⟨v, vr, rfl, h1 Z L st H s r v d r1 _ w e p a1 fun s1 e1 w1 => ?_⟩
    exact h2 Z L st H s1 r1 vr ds r' Q w e1 t' a2 fun s2 e2 w2 => q s2 e2 fun vs hv => (w2 vs fun i hi => hv i (by simp [hi])).trans (w1 vs fun i hi => hv i (by simp [hi]))
theorem sim_gtup {K : PySem.W.Frag} {n : Nat} {is : List Nat} {t : TGs} {ks : List Dt → Evr → Option Evr} (h : SimGs T is t ks) (hn : ∀ ds r r', ks ds r = some r' → ds.length = n) : SimG T is (gTup K n t) (kTup ks) := by
  intro Z L st H s r v d r' Q w e hd k q
  unfold kTup at k
  cases d with
  | tup ds =>
    unfold Den at hd
    obtain ⟨a, vs, rfl, ea, t'⟩ := hd
    refine ⟨a, vs, rfl, SqT.of ea, ?_, h Z L st H s r vs ds r' Q w e t' k q⟩
    rw [← t'.len]
    exact hn ds r r' k
  | _ => cases k
end

/-! ### for -/
def sForGo (k : SG) (g : SS) : List Dt → SS
  | [] => fun r st => some (.nx r st)
  | x :: xs => fun r st => (k x r).bind fun r1 => (g r1 st).bind fun o => match o with
    | .nx r' st' => sForGo k g xs r' st'
    | .ct r' st' => sForGo k g xs r' st'
    | .bk r' st' => some (.nx r' st')
    | .rt d st' => some (.rt d st')
def sFor (f : SA) (k : SG) (g : SS) : SS := fun r st => (f r st).bind fun xs => sForGo k g xs.1 r xs.2
section
variable {T : List (Addr × Str)}
theorem for_run {is : List Nat} {wi : TI} {f : SA} {g : TG} {k : SG} {tb : TS} {gb : SS} {Z : Addr → Prop} {L : List Addr} {st : Sto} {H : Hp} {s : L2.St} {r : Evr} {o : Ou} {D : Ends} (hi : IAt T Z L st H s r wi f) (hg : SimG T is g k) (hb : SimS T tb gb) (w : Wd T Z L st H) (e : EnvOk L (Bad Z L st) H r s) (h : sFor f k gb r st = some o) (q : OuOk T Z L st H D o) : tFor wi g tb D s H := by
  obtain ⟨⟨xs, st1⟩, a1, h⟩ := bind_some' h
  refine hi xs st1 _ a1 fun J H1 L1 f1 wk => ?_
  refine ⟨fun i m s2 H2 => m = xs.length - i ∧ i ≤ xs.length ∧ ∃ L2 st2 r2, Af T Z L1 st1 H1 L2 st2 H2 ∧ EnvOk L2 (Bad Z L2 st2) H2 r2 s2 ∧ sForGo k gb (xs.drop i) r2 st2 = some o,
    ⟨xs.length, by simp, Nat.zero_le _, L1, st1, r, .refl f1.wd, e.keep f1, h⟩, ?_⟩
  rintro i m s2 H2 ⟨rfl, hle, L2, st2, r2, f2, e2, h2⟩
  obtain ⟨ws, wg⟩ := wk Z L2 st2 H2 f2
  by_cases hlt : i < xs.length
  · right
    obtain ⟨go, yl⟩ := wg i xs[i] (List.getElem?_eq_getElem hlt)
    refine ⟨go, fun s5 H5 => ∃ L5 st5 r5, Af T Z L1 st1 H1 L5 st5 H5 ∧ EnvOk L5 (Bad Z L5 st5) H5 r5 s5 ∧ sForGo k gb (xs.drop (i + 1)) r5 st5 = some o, fun s5 H5 x => ⟨xs.length - (i + 1), by omega, rfl, hlt, x⟩, fun x H3 y => ?_⟩
    obtain ⟨f3, p3⟩ := yl x H3 y
    rw [List.drop_eq_getElem_cons hlt] at h2
    obtain ⟨r3, b1, b2⟩ := bind_some' h2
    obtain ⟨o1, b3, b4⟩ := bind_some' b2
    refine hg Z L2 st2 H3 s2 r2 x _ r3 _ f3.wd (e2.keep f3) p3 b1 fun s3 e3 _ => ?_
    refine hb Z L2 st2 H3 s3 r3 o1 _ f3.wd e3 b3 ?_
    cases o1 with
    | nx r' st' => exact fun s4 H4 L4 f4 e4 => ⟨L4, st', r', f2.trans (f3.trans f4), e4, b4⟩
    | ct r' st' => exact fun s4 H4 L4 f4 e4 => ⟨L4, st', r', f2.trans (f3.trans f4), e4, b4⟩
    | bk r' st' => cases b4; exact fun s4 H4 L4 f4 e4 => q s4 H4 L4 (f1.trans (f2.trans (f3.trans f4))) e4
    | rt d st' => cases b4; exact fun v H4 L4 f4 e4 => q v H4 L4 (f1.trans (f2.trans (f3.trans f4))) e4
  · left
    have hx : i = xs.length := by omega
    subst hx
    rw [List.drop_length] at h2
    cases h2
    exact ⟨ws, q s2 H2 L2 (f1.trans f2) e2⟩
theorem sim_for {is : List Nat} {wi : TI} {f : SA} {g : TG} {k : SG} {tb : TS} {gb : SS} (hi : SimI T wi f) (hg : SimG T is g k) (hb : SimS T tb gb) : SimS T (tFor wi g tb) (sFor f k gb) :=
  fun Z L st H s r o D w e h q => for_run (hi.at w e) hg hb w e h q
end

/-! ### list comprehensions -/
def lcGo (k : SG) (c : ST) (f : SE) (r : Evr) : List Dt → Sto → Option (List Dt × Sto)
  | [], st => some ([], st)
  | x :: xs, st => (k x r).bind fun r1 => (c r1 st).bind fun b => if b.1 = true then (f r1 b.2).bind fun y => (lcGo k c f r xs y.2).bind fun z => some (y.1 :: z.1, z.2) else lcGo k c f r xs b.2
def lc (fi : SA) (own : List Nat) (k : SG) (c : ST) (f : SE) : SA := fun r st => (fi r st).bind fun xs => (lcGo k c f (wipeD r own) xs.1 xs.2).bind fun z => if z.1.length ≤ sizeLine then some z else none
/-- as a value, as a new live object -/
def toV (f : SA) : SE := fun r st => (f r st).bind fun z => some (.lst z.1, z.2)
def toR (f : SA) : SE := fun r st => (f r st).bind fun z => some (.ref z.2.length, z.2 ++ [some (.lst z.1)])
section
variable {T : List (Addr × Str)}
theorem lc_run {is own : List Nat} {wi : TI} {fi : SA} {g : TG} {k : SG} {tt : TT} {c : ST} {te : TE} {f : SE} {Z : Addr → Prop} {L : List Addr} {st : Sto} {H : Hp} {s : L2.St} {r : Evr} {zs : List Dt} {st' : Sto} {Q : VK} (hi : IAt T Z L st H s r wi fi) (hg : SimG T is g k) (hc : SimT T tt c) (hf : SimE T te f) (hs : ∀ i ∈ is, i ∈ own)
    (w : Wd T Z L st H) (e : EnvOk L (Bad Z L st) H r s) (h : lc fi own k c f r st = some (zs, st'))
    (q : ∀ D vs H' L', Afz T Z L st H (zAnd Z D) L' st' H' → H D = none → H' D = some (.lst vs) → Dens L' (Bad (zAnd Z D) L' st') H' zs vs → Q (.ref D) H') : tLc wi g tt te own s H Q := by
  obtain ⟨⟨xs, st1⟩, a1, h⟩ := bind_some' h
  obtain ⟨⟨ys, st9⟩, a2, h⟩ := bind_some' h
  split at h
  case isFalse => cases h
  case isTrue hz =>
  cases h
  refine hi xs st1 _ a1 fun J H1 L1 f1 wk D nD => ?_
  have nD0 : H D = none := by
    cases qq : H D with
    | none => rfl
    | some o => exact absurd nD (f1.trk D (by rw [qq]; simp))
  have m1 : Afz T Z L1 st1 H1 (zAnd Z D) L1 st1 (upd H1 D (.lst [])) := Afz.mine f1.wd nD
  refine ⟨fun i m H2 => m = xs.length - i ∧ i ≤ xs.length ∧ ∃ L2 st2 acc rest vs, Afz T Z L1 st1 H1 (zAnd Z D) L2 st2 H2 ∧ H2 D = some (.lst vs) ∧ Dens L2 (Bad (zAnd Z D) L2 st2) H2 acc vs ∧ lcGo k c f (wipeD r own) (xs.drop i) st2 = some (rest, st') ∧ acc ++ rest = zs,
    ⟨xs.length, by simp, Nat.zero_le _, L1, st1, [], zs, [], m1, upd_same, .nil, a2, rfl⟩, ?_⟩
  rintro i m H2 ⟨rfl, hle, L2, st2, acc, rest, vs, f2, hD, hacc, h2, ez⟩
  obtain ⟨ws, wg⟩ := wk (zAnd Z D) L2 st2 H2 f2
  by_cases hlt : i < xs.length
  · right
    obtain ⟨go, yl⟩ := wg i xs[i] (List.getElem?_eq_getElem hlt)
    rw [List.drop_eq_getElem_cons hlt] at h2
    obtain ⟨r3, b1, b2⟩ := bind_some' h2
    obtain ⟨⟨b, st3⟩, b3, b4⟩ := bind_some' b2
    refine ⟨go, fun H5 => ∃ L5 st5 acc5 rest5 vs5, Afz T Z L1 st1 H1 (zAnd Z D) L5 st5 H5 ∧ H5 D = some (.lst vs5) ∧ Dens L5 (Bad (zAnd Z D) L5 st5) H5 acc5 vs5 ∧ lcGo k c f (wipeD r own) (xs.drop (i + 1)) st5 = some (rest5, st') ∧ acc5 ++ rest5 = zs,
      fun H5 x => ⟨xs.length - (i + 1), by omega, rfl, hlt, x⟩, fun x H3 y => ?_⟩
    obtain ⟨f3, p3⟩ := yl x H3 y
    have e3 := (((e.keep f1).keep f2).keep f3).wipe own
    refine hg (zAnd Z D) L2 st2 H3 _ _ x _ r3 _ f3.wd e3 p3 b1 fun s4 e4 wp => ⟨?_, ?_⟩
    · rw [wp own hs, wipe_wipe]
    refine hc (zAnd Z D) L2 st2 H3 s4 r3 b st3 _ f3.wd e4 b3 fun H4 L4 f4 => ?_
    have keepD : ∀ {L' : List Addr} {st'' : Sto} {H' : Hp}, Afz T (zAnd Z D) L2 st2 H2 (zAnd Z D) L' st'' H' → H' D = some (.lst vs) := fun ff => ff.kp D _ hD (fun z => by
      obtain ⟨j, d, j1, j2⟩ := z
      exact (f2.wd.own j D d j1 j2).1 (.inr rfl)) (fun ps z => by cases z)
    cases b with
    | false =>
      rw [if_neg (by simp)] at b4
      exact iteF ⟨L4, st3, acc, rest, vs, f2.trans (f3.trans f4), keepD (f3.trans f4), (hacc.keep f3).keep f4, b4, ez⟩
    | true =>
      rw [if_pos rfl] at b4
      obtain ⟨⟨dy, st5⟩, c1, c2⟩ := bind_some' b4
      obtain ⟨⟨rest5, st6⟩, c3, c4⟩ := bind_some' c2
      cases c4
      refine iteT (hf (zAnd Z D) L4 st3 H4 s4 r3 dy st5 _ f4.wd (e4.keep f4) c1 fun y H5 L5 f5 p5 => ?_)
      have fall := f3.trans (f4.trans f5)
      have hacc5 := ((hacc.keep f3).keep f4).keep f5
      have hlen : vs.length < sizeLine := by
        rw [← hacc.len]
        have : (acc ++ dy :: rest5).length ≤ sizeLine := by rw [ez]; exact hz
        rw [List.length_append, List.length_cons] at this
        omega
      have zD : zAnd Z D D := .inr rfl
      have hD5 := keepD fall
      have tD5 : ∀ zs, H5 D ≠ some (.tup zs) := fun zs z => by rw [hD5] at z; cases z
      have wd6 : Wd T (zAnd Z D) L5 st5 (upd H5 D (.lst (vs ++ [y]))) := f5.wd.chg zD fun u eu => by rw [hD5] at eu; cases eu; exact .inl ⟨_, rfl⟩
      have fa := f2.trans fall
      refine ⟨vs, hD5, hlen, L5, st5, acc ++ [dy], rest5, vs ++ [y], ⟨wd6, fa.pre, fun b u eb nl nt => ?_, fa.nw, fun b n z => ?_, fun b us eb => ?_, fa.fr, fa.zs⟩, upd_same, (hacc5.append (.cons p5 .nil)).chg (.inl zD) tD5, c3, by rw [← ez]; simp⟩
      · rw [upd_ne (ne_of_none eb nD)]; exact fa.kp b u eb nl nt
      · by_cases hb : b = D
        · rw [hb, upd_same] at z; cases z
        · rw [upd_ne hb] at z; exact fa.trk b n z
      · rw [upd_ne (ne_of_none eb nD)]; exact fa.tp b us eb
  · left
    have hx : i = xs.length := by omega
    subst hx
    rw [List.drop_length] at h2
    cases h2
    rw [List.append_nil] at ez
    subst ez
    exact ⟨ws, q D vs H2 L2 (f1.trans f2) nD0 hD hacc⟩
theorem Afz.back {Z : Addr → Prop} {L L' : List Addr} {st st' : Sto} {H H' : Hp} {D : Addr} (f : Afz T Z L st H (zAnd Z D) L' st' H') : Af T Z L st H L' st' H' :=
  ⟨f.wd.less fun b z => .inl z, f.pre, f.kp, f.nw, f.trk, f.tp, f.fr, fun a z => .inl z⟩
theorem bad_zAnd {Z : Addr → Prop} {L : List Addr} {st : Sto} {D : Addr} : ∀ b, Bad Z L st b → Bad (zAnd Z D) L st b := fun b z => z.elim (fun y => .inl (.inl y)) .inr
theorem at_lcV {is own : List Nat} {wi : TI} {fi : SA} {g : TG} {k : SG} {tt : TT} {c : ST} {te : TE} {f : SE} {Z : Addr → Prop} {L : List Addr} {st : Sto} {H : Hp} {s : L2.St} {r : Evr} (hi : IAt T Z L st H s r wi fi) (hg : SimG T is g k) (hc : SimT T tt c) (hf : SimE T te f) (hs : ∀ i ∈ is, i ∈ own) (w : Wd T Z L st H) (e : EnvOk L (Bad Z L st) H r s) : EAt T Z L st H s r (tLc wi g tt te own) (toV (lc fi own k c f)) := by
  intro d st' Q h q
  obtain ⟨⟨zs, st1⟩, a1, h⟩ := bind_some' h
  cases h
  refine lc_run hi hg hc hf hs w e a1 fun D vs H' L' ff nD hD hv => ?_
  refine q _ H' L' ff.back ?_
  unfold Den
  refine ⟨D, vs, rfl, fun z => ?_, hD, hv.mono bad_zAnd⟩
  rcases z with z | ⟨j, d, j1, j2⟩
  · exact w.zt D z nD
  · exact (ff.wd.own j D d j1 j2).1 (.inr rfl)
theorem sim_lcV {is own : List Nat} {wi : TI} {fi : SA} {g : TG} {k : SG} {tt : TT} {c : ST} {te : TE} {f : SE} (hi : SimI T wi fi) (hg : SimG T is g k) (hc : SimT T tt c) (hf : SimE T te f) (hs : ∀ i ∈ is, i ∈ own := by decide) : SimE T (tLc wi g tt te own) (toV (lc fi own k c f)) := by
  intro Z L st H s r d st' Q w e h q
  obtain ⟨⟨zs, st1⟩, a1, h⟩ := bind_some' h
  cases h
  refine lc_run (hi.at w e) hg hc hf hs w e a1 fun D vs H' L' ff nD hD hv => ?_
  refine q _ H' L' ff.back ?_
  unfold Den
  refine ⟨D, vs, rfl, fun z => ?_, hD, hv.mono bad_zAnd⟩
  rcases z with z | ⟨j, d, j1, j2⟩
  · exact w.zt D z nD
  · exact (ff.wd.own j D d j1 j2).1 (.inr rfl)
/-- what was ours alone becomes a live object -/
theorem Afz.claim {Z : Addr → Prop} {L L' : List Addr} {st st' : Sto} {H H' : Hp} {D : Addr} {o : HO} {d : Dt} (f : Afz T Z L st H (zAnd Z D) L' st' H') (w0 : Wd T Z L st H) (nD : H D = none) (hD : H' D = some o) (ho : OwnO L' (Bad (zAnd Z D) L' st') H' o d) : Af T Z L st H (L' ++ [D]) (st' ++ [some d]) H' := by
  have w := f.wd
  have nl : ∀ (j : Nat) e, L'[j]? = some D → st'[j]? = some (some e) → False := fun j e j1 j2 => (w.own j D e j1 j2).1 (.inr rfl)
  have hb : ∀ b, Bad Z (L' ++ [D]) (st' ++ [some d]) b → H' b ≠ none → Bad (zAnd Z D) L' st' b := fun b z _ => by
    rcases z with z | z
    · exact .inl (.inl z)
    · rcases (liv_push w.len).mp z with z | ⟨rfl, _⟩
      · exact .inr z
      · exact .inl (.inr rfl)
  have tr : ∀ ds vs, Dens L' (Bad (zAnd Z D) L' st') H' ds vs → Dens (L' ++ [D]) (Bad Z (L' ++ [D]) (st' ++ [some d])) H' ds vs := fun ds vs q => Dens.push hb q
  have get : ∀ (k : Nat) (b : Addr) (e : Dt), (L' ++ [D])[k]? = some b → (st' ++ [some d])[k]? = some (some e) → (L'[k]? = some b ∧ st'[k]? = some (some e)) ∨ (k = L'.length ∧ b = D ∧ e = d) := by
    intro k b e h1 h2
    have hl := w.len
    by_cases hk : k < L'.length
    · rw [List.getElem?_append_left hk] at h1
      rw [List.getElem?_append_left (by omega)] at h2
      exact .inl ⟨h1, h2⟩
    · have hk2 : k = L'.length := by
        have := (List.getElem?_eq_some_iff.mp h1).1
        simp at this
        omega
      subst hk2
      simp at h1
      rw [hl] at h2
      simp at h2
      exact .inr ⟨rfl, h1.symm, h2.symm⟩
  refine ⟨⟨w.tabs, by simp [w.len], fun i j b x y h1 h2 h3 h4 => ?_, fun k b e h1 h2 => ?_, fun b z => w.zt b (.inl z)⟩, ?_, f.kp, fun b l => ?_, f.trk, f.tp, fun k b hl e => ?_, fun a z => .inl z⟩
  · rcases get i b x h1 h3 with ⟨a1, a2⟩ | ⟨i1, i2, _⟩ <;> rcases get j b y h2 h4 with ⟨b1, b2⟩ | ⟨j1, j2, _⟩
    · exact w.inj i j b x y a1 b1 a2 b2
    · subst j2; exact (nl i x a1 a2).elim
    · subst i2; exact (nl j y b1 b2).elim
    · omega
  · rcases get k b e h1 h2 with ⟨a1, a2⟩ | ⟨_, rfl, rfl⟩
    · obtain ⟨nz, u, eu, q⟩ := w.own k b e a1 a2
      exact ⟨fun z => nz (.inl z), u, eu, q.imp tr⟩
    · exact ⟨fun z => w0.zt b z nD, o, hD, ho.imp tr⟩
  · obtain ⟨M, rfl⟩ := f.pre
    exact ⟨M ++ [D], by simp⟩
  · rcases (liv_push w.len).mp l with z | ⟨rfl, _⟩
    · exact f.nw b z
    · exact .inr nD
  · by_cases hk : k < L'.length
    · rw [List.getElem?_append_left hk] at e
      exact f.fr k b hl e
    · have e2 : k = L'.length := by
        have := (List.getElem?_eq_some_iff.mp e).1
        simp at this
        omega
      subst e2
      simp at e
      rw [← e]; exact nD
theorem sim_lcR {is own : List Nat} {wi : TI} {fi : SA} {g : TG} {k : SG} {tt : TT} {c : ST} {te : TE} {f : SE} (hi : SimI T wi fi) (hg : SimG T is g k) (hc : SimT T tt c) (hf : SimE T te f) (hs : ∀ i ∈ is, i ∈ own := by decide) : SimE T (tLc wi g tt te own) (toR (lc fi own k c f)) := by
  intro Z L st H s r d st' Q w e h q
  obtain ⟨⟨zs, st1⟩, a1, h⟩ := bind_some' h
  cases h
  refine lc_run (hi.at w e) hg hc hf hs w e a1 fun D vs H' L' ff nD hD hv => ?_
  refine q _ H' (L' ++ [D]) (ff.claim w nD hD ⟨vs, rfl, hv⟩) ?_
  unfold Den
  exact ⟨D, by rw [← ff.wd.len]; simp, rfl⟩
end
end HB

set_option Elab.async false
set_option linter.all false
set_option maxRecDepth 100000
set_option maxHeartbeats 1000000
/-! HB, part e: defs that are called where no repr is under way; pure ones, ones that make a new object, ones that change one object. -/
namespace HB
open PySem PySem.Spec PyProof.Rows L2

theorem nodupIx {α : Type} {x : α} : ∀ {l : List α} {i j : Nat}, l.Nodup → l[i]? = some x → l[j]? = some x → i = j
  | [], _, _, _, h, _ => by simp at h
  | _ :: _, 0, 0, _, _, _ => rfl
  | y :: l, 0, j + 1, nd, h1, h2 => by
    simp at h1; subst h1
    exact absurd (List.mem_of_getElem? (by simpa using h2)) (List.nodup_cons.mp nd).1
  | y :: l, i + 1, 0, nd, h1, h2 => by
    simp at h2; subst h2
    exact absurd (List.mem_of_getElem? (by simpa using h1)) (List.nodup_cons.mp nd).1
  | y :: l, i + 1, j + 1, nd, h1, h2 => congrArg (· + 1) (nodupIx (List.nodup_cons.mp nd).2 (by simpa using h1) (by simpa using h2))
/-- the def at f keeps sp wherever no object is being shown -/
structure GFn (P : Program) (w : World) (K : PySem.W.Frag) (mg : Str → Option Value) (base : Heap) (k : Nat) (f : Addr) (fd : FuncData) (ps : List Str) (sp : Sp) : Prop where
  run : ∀ (A : Around) (outer : List Env) (s : Shared) (H : Hp) (args : Args) (us : List Value) (vs : List V) (Q : VK), Room k A → A.guards = some [] → Env0 P w K mg base A outer s H → BindsTo s fd args (ps.zip us) → us.length = ps.length → Vals vs us → sp vs H Q E0 →
    codeAny (model P w) A (.call (.ref f) args) (CR CX0 outer P w H s Q E0) s
/-- a global name that holds such a def -/
structure GCal (P : Program) (w : World) (K : PySem.W.Frag) (mg : Str → Option Value) (base : Heap) (k : Nat) (x : Str) (ps : List Str) (sp : Sp) : Prop where
  ex : ∃ (f : Addr) (fd : FuncData), mg x = some (.ref f) ∧ PySem.W.keepIn K (.ref f) = true ∧ GFn P w K mg base k f fd ps sp ∧
    (∀ (s : Shared) (us : List Value), us.length = ps.length → BindsTo s fd ⟨us, []⟩ (ps.zip us)) ∧
    ∀ (s : Shared) (p : List Nat) (ws : List Value), ws.length = ps.length → p.Perm (List.range ps.length) → BindsTo s fd ⟨[], (p.map fun i => ps.getD i "").zip (p.map fun i => ws.getD i .none)⟩ (ps.zip ws)
section
variable {P : Program} {w : World} {K : PySem.W.Frag} {mg : Str → Option Value} {base : Heap} {k j : Nat} {f : Addr} {fd : FuncData} {ps : List Str} {sp sp' : Sp}
theorem GFn.mono (F : GFn P w K mg base k f fd ps sp) (h : k ≤ j) : GFn P w K mg base j f fd ps sp := ⟨fun A outer s H args us vs Q hr => F.run A outer s H args us vs Q (hr.mono h)⟩
theorem GFn.imp (F : GFn P w K mg base k f fd ps sp) (h : ∀ vs H Q, sp' vs H Q E0 → sp vs H Q E0) : GFn P w K mg base k f fd ps sp' :=
  ⟨fun A outer s H args us vs Q hr hg e0 hb hl hv hs => F.run A outer s H args us vs Q hr hg e0 hb hl hv (h _ _ _ hs)⟩
end
section
variable {X : Cx} {k : Nat} {x : Str} {ps : List Str} {sp : Sp} {p pos : Pos} {e : Expr} {es : List Expr} {t : TA} {kws : List Keyword}
theorem run_g {f : Addr} {fd : FuncData} {pins : List (Addr × Obj)} {s1 : L2.St} {H : Hp} {s : Shared} {Q : VK} {us ws : List Value} {kw : List (Str × Value)} {vs : List V} (F : GFn X.prog X.w X.K X.mg X.base k f fd ps sp) (hr : Room k X.A) (hg : X.A.guards = some [])
    (hb : BindsTo s fd ⟨ws, kw⟩ (ps.zip us)) (hl : us.length = ps.length) (I : Inv X pins s1 H s) (r : Vals vs us) (h : sp vs H Q E0) : wpAny (model X.prog X.w) X.A (call (.ref f) ws kw) (EP X pins s1 Q) X.xe s := by
  refine wpAny_call (codeAny_mono (F.run X.A X.stack s H ⟨ws, kw⟩ us vs Q hr hg I.env0 hb hl r h) fun res s2 hq => ?_)
  match res, hq with
  | .error _, hq => exact False.elim hq
  | .ok (.ret _), hq => exact I.after hq
  | .ok .next, hq => exact False.elim hq
  | .ok .brk, hq => exact False.elim hq
  | .ok .cont, hq => exact False.elim hq
def tG (n : Nat) (sp : Sp) (t : TA) : TE := fun s H Q => t s H fun vs H1 => vs.length = n ∧ sp vs H1 Q E0
/-- f(e, ..) -/
theorem pe_g (c : GCal X.prog X.w X.K X.mg X.base k x ps sp) (hr : Room k X.A) (hg : X.A.guards = some []) (gl : Gl X x) (ha : PA X (e :: es) t) (hdb : (x == ("__debug__" : Str)) = false := by decide)
    (he : starEach (e :: es) X.env = (false, eval e X.env) :: starEach es X.env := by rfl) (hpl : (backTo pos (starEach es X.env)).any (·.1) = false := by rfl) : PE X (.Call (.Name x p) (e :: es) [] pos) (tG ps.length sp t) := by
  obtain ⟨f, fd, hm, hk, F, hb, _⟩ := c.ex
  constructor
  intro pins s s1 H Q I h
  refine wpAny_Call_Name_kw (ld_glob I gl hm ?_ hdb)
  refine PySem.W.callWith_K (h₀ := X.base) I.ok.mod.kin hk (thn (ha.run pos pins s s1 H _ I h) fun us s2 ⟨vs, H1, I1, r, hl, q⟩ => ⟨I1.kIn, ?_⟩) he hpl
  have hl' : us.length = ps.length := by rw [← r.length]; exact hl
  exact run_g F hr hg (hb s2 us hl') hl' I1 r q
/-- f(k = e, ..): q tells which parameter each keyword names -/
def tGk (n : Nat) (q : List Nat) (sp : Sp) (t : TA) : TE := fun s H Q => t s H fun vs H1 => ∃ us : List V, us.length = n ∧ vs = q.map (fun i => us.getD i .non) ∧ sp us H1 Q E0
theorem pe_gk {q : List Nat} (c : GCal X.prog X.w X.K X.mg X.base k x ps sp) (hr : Room k X.A) (hg : X.A.guards = some []) (gl : Gl X x) (hk : PK X kws t) (hq : q.Perm (List.range ps.length)) (hdb : (x == ("__debug__" : Str)) = false := by decide)
    (hall : (backToKw pos (keywordEach kws X.env)).all (·.1.isSome) = true := by rfl) (hks : (backToKw pos (keywordEach kws X.env)).filterMap (·.1) = q.map fun i => ps.getD i "" := by rfl)
    (hpl : ((backTo pos (starEach [] X.env)).any (·.1) || (backToKw pos (keywordEach kws X.env)).any (·.1.isNone)) = false := by rfl) : PE X (.Call (.Name x p) [] kws pos) (tGk ps.length q sp t) := by
  obtain ⟨f, fd, hm, hk', F, _, hb⟩ := c.ex
  constructor
  intro pins s s1 H Q I h
  refine wpAny_Call_Name_kw (ld_glob I gl hm ?_ hdb)
  refine PySem.W.callWith_KW0 (h₀ := X.base) I.ok.mod.kin hk' hall (thn (hk.run pos pins s s1 H _ I h) fun ws s2 ⟨vs, H1, I1, r, us, hl, ev, qq⟩ => ⟨I1.kIn, ?_⟩) hpl
  rw [hks]
  have hm' : ∀ i, i < us.length → ∃ j, q[j]? = some i := fun i hi => by
    have : i ∈ q := hq.mem_iff.mpr (by simp; omega)
    exact List.mem_iff_getElem?.mp this
  -- the values in the parameters' order
  have key : ∃ zs : List Value, Vals us zs ∧ ws = q.map fun i => zs.getD i .none := by
    have hex : ∀ i : Nat, ∃ z : Value, i < us.length → (RelV (us.getD i .non) z ∧ ∀ j : Nat, q[j]? = some i → ws[j]? = some z) := fun i => by
      by_cases hi : i < us.length
      · obtain ⟨j, hj⟩ := hm' i hi
        have hv : vs[j]? = some (us.getD i .non) := by rw [ev, List.getElem?_map, hj]; rfl
        obtain ⟨z, hz, rz⟩ := r.get hv
        refine ⟨z, fun _ => ⟨rz, fun j' hj' => ?_⟩⟩
        have nd : q.Nodup := hq.nodup_iff.mpr List.nodup_range
        have : j = j' := nodupIx nd hj hj'
        subst this
        exact hz
      · exact ⟨.none, fun h => absurd h hi⟩
    obtain ⟨z, hz⟩ := Classical.axiomOfChoice hex
    refine ⟨(List.range us.length).map z, ?_, ?_⟩
    · have all : ∀ (n : Nat) (us' : List V) (g : Nat → Value), us'.length = n → (∀ i, i < n → RelV (us'.getD i .non) (g i)) → Vals us' ((List.range n).map g) := by
        intro n
        induction n with
        | zero => intro us' g h1 _; rw [List.length_eq_zero_iff.mp h1]; exact .nil
        | succ n ih =>
          intro us' g h1 h2
          match us', h1 with
          | u :: us', h1 =>
            rw [List.range_succ_eq_map, List.map_cons, List.map_map]
            exact .cons (h2 0 (by omega)) (ih us' _ (by simpa using h1) fun i hi => by simpa using h2 (i + 1) (by omega))
      exact all us.length us z rfl fun i hi => (hz i hi).1
    · apply List.ext_getElem?
      intro j
      rw [List.getElem?_map]
      cases hj : q[j]? with
      | none =>
        have : q.length ≤ j := List.getElem?_eq_none_iff.mp hj
        rw [List.getElem?_eq_none]
        · rfl
        · have e1 := r.length
          have e2 : vs.length = q.length := by rw [ev, List.length_map]
          omega
      | some i =>
        have hi : i < us.length := by
          have : i ∈ q := List.mem_of_getElem? hj
          have := hq.mem_iff.mp this
          simp at this
          omega
        rw [(hz i hi).2 j hj]
        simp [hi]
  obtain ⟨zs, rz, ez⟩ := key
  have hlz : zs.length = ps.length := by rw [← rz.length]; exact hl
  rw [ez]
  exact run_g F hr hg (hb s2 q zs hlz hq) hlz I1 rz qq
end

/-! ### a def by its body -/
def startD (n : Nat) (ds : List Dt) : Evr := ds.map some ++ List.replicate (n - ds.length) none
def bodyF (g : SS) (n : Nat) : List Dt → Sto → Option (Dt × Sto) := fun ds st => (g (startD n ds) st).bind fun o => match o with
  | .rt d st' => some (d, st')
  | .nx _ st' => some (.non, st')
  | _ => none
def SpF (T : List (Addr × Str)) (n : Nat) (F : List Dt → Sto → Option (Dt × Sto)) : Sp := fun vs H Q _ => ∃ Z L st ds d st', vs.length = n ∧ Wd T Z L st H ∧ Dens L (Bad Z L st) H ds vs ∧ F ds st = some (d, st') ∧
  ∀ v H' L', Af T Z L st H L' st' H' → Den L' (Bad Z L' st') H' d v → Q v H'
theorem env_start {L : List Addr} {B : Addr → Prop} {H : Hp} {N : List Str} {ds : List Dt} {vs : List V} (h : Dens L B H ds vs) : EnvOk L B H (startD N.length ds) (L2.start N vs) := by
  have hl := h.len
  unfold startD L2.start
  refine ⟨by simp [hl], fun i d e => ?_⟩
  by_cases hi : i < ds.length
  · rw [List.getElem?_append_left (by simpa using hi), List.getElem?_map] at e
    cases q : ds[i]? with
    | none => rw [q] at e; cases e
    | some d' =>
      rw [q] at e
      cases e
      obtain ⟨v, hv, p⟩ := h.get q
      exact ⟨v, by rw [List.getElem?_append_left (by rw [List.length_map]; omega), List.getElem?_map, hv]; rfl, p⟩
  · rw [List.getElem?_append_right (by simpa using hi), List.getElem?_replicate] at e
    split at e <;> cases e
section
variable {T : List (Addr × Str)} {P : Program} {w : World} {K : PySem.W.Frag} {mg : Str → Option Value} {base : Heap}
/-- the context of a def's body -/
abbrev gX (P : Program) (w : World) (K : PySem.W.Frag) (mg : Str → Option Value) (base : Heap) (N : List Str) (x : Str) (sc : Scope) (f : Addr) (cdv : Value) (A : Around) (outer : List Env) (s : Shared) (H : Hp) : Cx := (cxOf CX0 P w K mg base N x sc f cdv A outer s H E0).nox
theorem gfn {x : Str} {args : Arguments} {body : List Stmt} {sc : Scope} {f : Addr} {fd : FuncData} {N ps : List Str} {k : Nat} {t : TS} {g : SS} (F : FunD K x x args body sc [] [] f fd) (S : FnScope N ps sc)
    (hb : ∀ A outer s H, Room k (gX P w K mg base N x sc f fd.code A outer s H).A → (gX P w K mg base N x sc f fd.code A outer s H).A.guards = some [] → PSs (gX P w K mg base N x sc f fd.code A outer s H) body t) (hs : SimS T t g) :
    GFn P w K mg base (k + 1) f fd ps (SpF T ps.length (bodyF g N.length)) := by
  obtain ⟨oc, od, dV, kV, doc, pm, an, cdv, ct, osl, rfl, lk, hcd, _, _⟩ := F.ex
  constructor
  intro A outer s H binds us vs Q hr hg e0 hbt hlu rv hsp
  obtain ⟨Z, L, st, ds, d, st', hlv, wd, dn, hF, q⟩ := hsp
  have keeps : ∀ b o, base.get? b = some o → s.heap.get? b = some o := fun b o e => (e0.bs b o e).1
  have inK : K.In s.heap := e0.mod.kin.keeps keeps
  have places : ∀ y ∈ ps.zip us, sc.names.lookup y.1 = some .local ∨ (sc.names.lookup y.1 = some .cell ∧ ((cellsFrom (s.heap.objs.size + 1) sc.names []).lookup y.1).isSome = true) := by
    intro y hy
    have hm := (List.of_mem_zip (a := y.1) (b := y.2) hy).1
    cases S.par y.1 hm with
    | inl z => exact .inl z
    | inr z => exact .inr ⟨z, PySem.W.cellsFrom_some _ _ _ (.inl z)⟩
  refine codeAny_call_function hr.depth (inK _ _ lk) rfl S.co S.gen rfl (PySem.W.codeRec_of inK hcd) (hbt _ _ _ _ ?_)
  refine wpAny_newFunctionEnv_cells S.kind places fun env he s1 ic => ?_
  subst he
  refine ⟨(e0.mod.nolimit.keeps keeps).keeps ic.toInCall.keep, codeAny_func ?_⟩
  have I : Inv (cxOf CX0 P w K mg base N x sc f cdv A outer s H E0) [] (L2.start N vs) H s1 := inv_start S hr.hd e0 hlv rv ic
  have ht := hb A outer s H (hr.deeper _) hg
  obtain ⟨o, a1, a2⟩ := bind_some' hF
  have reading : t { nx := fun _ H' => Q .non H', rt := Q } (L2.start N vs) H := by
    refine hs Z L st H _ _ o _ wd (env_start dn) a1 ?_
    cases o with
    | rt d1 st1 => cases a2; exact fun v H' L' f p => q v H' L' f p
    | nx r1 st1 => cases a2; exact fun s' H' L' f _ => q .non H' L' f Den.non
    | bk r1 st1 => cases a2
    | ct r1 st1 => cases a2
  refine wpAny_mono (ht.nox.run [] s1 (L2.start N vs) H _ I reading) (fun fl s2 hq => ?_) fun _ _ hx => hx
  match fl, hq with
  | .ret u, ⟨v, _, H', J, rv', qv⟩ => exact ⟨v, H', J.os, J.bare, J.base, J.hok, rv', qv⟩
  | .next, ⟨_, H', J, qv⟩ => exact ⟨.non, H', J.os, J.bare, J.base, J.hok, rfl, qv⟩
  | .brk, ⟨_, _, _, qv⟩ => exact False.elim qv
  | .cont, ⟨_, _, _, qv⟩ => exact False.elim qv
end

/-! ### pure defs -/
mutual
def noRef : Dt → Bool
  | .ref _ => false
  | .lst ds => noRefs ds
  | .tup ds => noRefs ds
  | .dic _ ds => noRefs ds
  | _ => true
def noRefs : List Dt → Bool
  | [] => true
  | d :: ds => noRef d && noRefs ds
end
mutual
theorem Den.anyL {L L' : List Addr} {B : Addr → Prop} {H : Hp} : ∀ {d : Dt} {v : V}, noRef d = true → Den L B H d v → Den L' B H d v
  | .non, _, _, q => by unfold Den at q ⊢; exact q
  | .bl _, _, _, q => by unfold Den at q ⊢; exact q
  | .int _, _, _, q => by unfold Den at q ⊢; exact q
  | .str _, _, _, q => by unfold Den at q ⊢; exact q
  | .ref _, _, n, q => by unfold noRef at n; cases n
  | .lst ds, _, n, q => by
    unfold noRef at n
    unfold Den at q ⊢
    obtain ⟨a, vs, r, nb, e, t⟩ := q
    exact ⟨a, vs, r, nb, e, Dens.anyL n t⟩
  | .tup ds, _, n, q => by
    unfold noRef at n
    unfold Den at q ⊢
    obtain ⟨a, vs, r, e, t⟩ := q
    exact ⟨a, vs, r, e, Dens.anyL n t⟩
  | .dic ks ds, _, n, q => by
    unfold noRef at n
    unfold Den at q ⊢
    obtain ⟨a, vs, r, nb, e, el, t⟩ := q
    exact ⟨a, vs, r, nb, e, el, Dens.anyL n t⟩
theorem Dens.anyL {L L' : List Addr} {B : Addr → Prop} {H : Hp} : ∀ {ds : List Dt} {vs : List V}, noRefs ds = true → Dens L B H ds vs → Dens L' B H ds vs
  | [], _, _, q => by unfold Dens at q ⊢; exact q
  | d :: ds, _, n, q => by
    unfold noRefs at n
    rw [Bool.and_eq_true] at n
    obtain ⟨v, r, rfl, p, t⟩ := q.uncons
    exact .cons (Den.anyL n.1 p) (Dens.anyL n.2 t)
end
/-! the data behind refs -/
mutual
def deref (st : Sto) : Nat → Dt → Option Dt
  | 0, d => if noRef d = true then some d else none
  | n + 1, d => if noRef d = true then some d else match d with
    | .ref k => (match st[k]? with
      | some (some c) => deref st n c
      | _ => none)
    | .lst ds => (derefs st n ds).map .lst
    | .tup ds => (derefs st n ds).map .tup
    | .dic ks ds => (derefs st n ds).map (.dic ks)
    | _ => none
def derefs (st : Sto) : Nat → List Dt → Option (List Dt)
  | _, [] => some []
  | 0, ds => if noRefs ds = true then some ds else none
  | n + 1, d :: ds => (deref st n d).bind fun e => (derefs st n ds).map fun es => e :: es
end
theorem OwnAt.den {L : List Addr} {Z B : Addr → Prop} {H : Hp} {a : Addr} {d : Dt} (h : OwnAt L B H a d) (nz : ¬ Z a) (hb : ∀ b, Z b → B b) : Den L Z H d (.ref a) := by
  obtain ⟨o, e, q⟩ := h
  cases d with
  | lst ds =>
    obtain ⟨vs, rfl, t⟩ := q
    unfold Den
    exact ⟨a, vs, rfl, nz, e, t.mono hb⟩
  | dic ks ds =>
    obtain ⟨vs, rfl, el, t⟩ := q
    unfold Den
    exact ⟨a, vs, rfl, nz, .inl e, el, t.mono hb⟩
  | _ => exact False.elim q
mutual
theorem deref_ok {T : List (Addr × Str)} {Z : Addr → Prop} {L L0 : List Addr} {st : Sto} {H : Hp} (w : Wd T Z L st H) : ∀ {n : Nat} {d c : Dt} {v : V}, deref st n d = some c → Den L Z H d v → Den L0 Z H c v
  | 0, d, c, v, h, q => by
    unfold deref at h
    split at h
    · rename_i hn
      cases h
      exact q.anyL hn
    · cases h
  | n + 1, d, c, v, h, q => by
    unfold deref at h
    split at h
    · rename_i hn
      cases h
      exact q.anyL hn
    · cases d with
      | ref k =>
        dsimp only at h
        unfold Den at q
        obtain ⟨a, ka, rfl⟩ := q
        split at h
        · rename_i c0 hk
          obtain ⟨nz, o⟩ := w.own k a c0 ka hk
          exact deref_ok w h (o.den nz fun b z => .inl z)
        · cases h
      | lst ds =>
        dsimp only at h
        obtain ⟨es, h1, rfl⟩ := Option.map_eq_some_iff.mp h
        unfold Den at q ⊢
        obtain ⟨a, vs, r, nb, e, t⟩ := q
        exact ⟨a, vs, r, nb, e, derefs_ok w h1 t⟩
      | tup ds =>
        dsimp only at h
        obtain ⟨es, h1, rfl⟩ := Option.map_eq_some_iff.mp h
        unfold Den at q ⊢
        obtain ⟨a, vs, r, e, t⟩ := q
        exact ⟨a, vs, r, e, derefs_ok w h1 t⟩
      | dic ks ds =>
        dsimp only at h
        obtain ⟨es, h1, rfl⟩ := Option.map_eq_some_iff.mp h
        unfold Den at q ⊢
        obtain ⟨a, vs, r, nb, e, el, t⟩ := q
        exact ⟨a, vs, r, nb, e, el, derefs_ok w h1 t⟩
      | _ => cases h
theorem derefs_ok {T : List (Addr × Str)} {Z : Addr → Prop} {L L0 : List Addr} {st : Sto} {H : Hp} (w : Wd T Z L st H) : ∀ {n : Nat} {ds es : List Dt} {vs : List V}, derefs st n ds = some es → Dens L Z H ds vs → Dens L0 Z H es vs
  | n, [], es, vs, h, q => by
    have e : es = [] := by
      cases n <;> (unfold derefs at h; cases h; rfl)
    subst e
    unfold Dens at q ⊢
    exact q
  | 0, d :: ds, es, vs, h, q => by
    unfold derefs at h
    split at h
    · rename_i hn
      cases h
      exact q.anyL hn
    · cases h
  | n + 1, d :: ds, es, vs, h, q => by
    unfold derefs at h
    obtain ⟨e, h1, h2⟩ := bind_some' h
    obtain ⟨es', h3, rfl⟩ := Option.map_eq_some_iff.mp h2
    obtain ⟨v, r, rfl, p, t⟩ := q.uncons
    exact .cons (deref_ok w h1 p) (derefs_ok w h3 t)
end
def fV (F : List Dt → Sto → Option (Dt × Sto)) : List Dt → Option Dt := fun ds => (F ds []).bind fun x => deref x.2 6 x.1
def fR (F : List Dt → Sto → Option (Dt × Sto)) : List Dt → Option Dt := fun ds => (F ds []).bind fun x => match x.1 with
  | .ref k => (match x.2[k]? with
    | some (some (.lst ds)) => (derefs (x.2.set k none) 6 ds).map .lst
    | some (some (.dic ks ds)) => (derefs (x.2.set k none) 6 ds).map (.dic ks)
    | _ => none)
  | _ => none
def liftV (f : List Dt → Option Dt) : List Dt → Sto → Option (Dt × Sto) := fun ds st => if noRefs ds = true then (f ds).map fun d => (d, st) else none
def liftR (f : List Dt → Option Dt) : List Dt → Sto → Option (Dt × Sto) := fun ds st => if noRefs ds = true then (f ds).map fun d => (.ref st.length, st ++ [some d]) else none
section
variable {T : List (Addr × Str)} {Z : Addr → Prop} {L : List Addr} {st : Sto} {H : Hp}
theorem bad_nil {a : Addr} : Bad Z [] [] a ↔ Z a := ⟨fun z => z.elim id fun ⟨k, d, h, _⟩ => by simp at h, .inl⟩
/-- a callee's world, in which all that is live here is not to be touched -/
theorem Wd.inner (w : Wd T Z L st H) : Wd T (Bad Z L st) [] [] H :=
  ⟨w.tabs, rfl, fun i j a d e h => by simp at h, fun k a d h => by simp at h, fun a z => z.elim (w.zt a) w.livTrk⟩
theorem bad_inner : Bad (Bad Z L st) [] [] = Bad Z L st := funext fun a => propext bad_nil
/-- .. and back -/
theorem Wd.outer {L' : List Addr} {st' : Sto} {H' : Hp} (w : Wd T Z L st H) (f : Af T (Bad Z L st) [] [] H L' st' H') : Af T Z L st H L st H' := by
  have nl : ∀ b, ¬ Liv ([] : List Addr) ([] : Sto) b := fun b ⟨k, d, h, _⟩ => by simp at h
  have st : ∀ b u, H b = some u → (∀ ps, u ≠ .tbl ps) → H' b = some u := fun b u e n => f.kp b u e (nl b) n
  refine ⟨⟨f.wd.tabs, w.len, w.inj, fun k a d h1 h2 => ?_, fun a z => f.trk a (w.zt a z)⟩, ⟨[], by simp⟩, fun b u e _ n => st b u e n, fun a l => .inl l, f.trk, f.tp, fun k a h e => absurd (List.getElem?_eq_some_iff.mp e).1 (by omega), fun a z => .inl z⟩
  obtain ⟨nz, o, e, q⟩ := w.own k a d h1 h2
  refine ⟨nz, o, st a o e fun ps z => ?_, q.imp fun ds vs t => t.stay st⟩
  rcases q.kind with ⟨xs, y⟩ | ⟨kvs, y⟩ <;> (rw [y] at z; cases z)
variable {P : Program} {w : World} {K : PySem.W.Frag} {mg : Str → Option Value} {base : Heap} {k n : Nat} {f : Addr} {fd : FuncData} {ps : List Str} {F : List Dt → Sto → Option (Dt × Sto)}
theorem gfn_V (G : GFn P w K mg base k f fd ps (SpF T n F)) : GFn P w K mg base k f fd ps (SpF T n (liftV (fV F))) := by
  refine G.imp fun vs H Q h => ?_
  obtain ⟨Z, L, st, ds, d, st', hl, wd, dn, hF, q⟩ := h
  unfold liftV at hF
  split at hF
  case isFalse => cases hF
  case isTrue hn =>
  obtain ⟨d1, e1, e2⟩ := Option.map_eq_some_iff.mp hF
  cases e2
  obtain ⟨⟨d0, st0⟩, e3, e4⟩ := bind_some' e1
  refine ⟨Bad Z L st, [], [], ds, d0, st0, hl, wd.inner, by rw [bad_inner]; exact dn.anyL hn, e3, fun v H' L' ff p => ?_⟩
  exact q v H' L (wd.outer ff) (deref_ok ff.wd e4 (p.mono fun b z => .inl z))
theorem set_none {st : Sto} {j i : Nat} {x : Dt} (c : (st.set j none)[i]? = some (some x)) : j ≠ i ∧ st[i]? = some (some x) := by
  by_cases hj : j = i
  · subst hj
    rw [List.getElem?_set, if_pos rfl] at c
    split at c <;> cases c
  · rw [List.getElem?_set_ne hj] at c; exact ⟨hj, c⟩
/-- a live object is set apart -/
theorem Wd.toZ {a : Addr} {j : Nat} {c : Dt} (w : Wd T Z L st H) (h1 : L[j]? = some a) (h2 : st[j]? = some (some c)) : Wd T (zAnd Z a) L (st.set j none) H ∧ OwnAt L (Bad (zAnd Z a) L (st.set j none)) H a c := by
  have eb : ∀ b, Bad (zAnd Z a) L (st.set j none) b → Bad Z L st b := fun b z => by
    rcases z with (z | z) | ⟨i, d, i1, i2⟩
    · exact .inl z
    · rw [z]; exact .inr ⟨j, c, h1, h2⟩
    · exact .inr ⟨i, d, i1, (set_none i2).2⟩
  have tr : ∀ ds vs, Dens L (Bad Z L st) H ds vs → Dens L (Bad (zAnd Z a) L (st.set j none)) H ds vs := fun ds vs t => t.mono eb
  refine ⟨⟨w.tabs, by rw [List.length_set]; exact w.len, fun i k b x y a1 a2 a3 a4 => w.inj i k b x y a1 a2 (set_none a3).2 (set_none a4).2, fun i b d a1 a2 => ?_, fun b z => ?_⟩, ?_⟩
  · obtain ⟨nj, a2⟩ := set_none a2
    obtain ⟨nz, o, e, q⟩ := w.own i b d a1 a2
    refine ⟨fun z => z.elim nz fun y => nj ?_, o, e, q.imp tr⟩
    subst y
    exact w.inj j i b c d h1 a1 h2 a2
  · rcases z with z | z
    · exact w.zt b z
    · rw [z]; exact w.livTrk ⟨j, c, h1, h2⟩
  · obtain ⟨nz, o, e, q⟩ := w.own j a c h1 h2
    exact ⟨o, e, q.imp tr⟩
theorem gfn_R (G : GFn P w K mg base k f fd ps (SpF T n F)) : GFn P w K mg base k f fd ps (SpF T n (liftR (fR F))) := by
  refine G.imp fun vs H Q h => ?_
  obtain ⟨Z, L, st, ds, d, st', hl, wd, dn, hF, q⟩ := h
  unfold liftR at hF
  split at hF
  case isFalse => cases hF
  case isTrue hn =>
  obtain ⟨d1, e1, e2⟩ := Option.map_eq_some_iff.mp hF
  cases e2
  obtain ⟨⟨d0, st0⟩, e3, e4⟩ := bind_some' e1
  refine ⟨Bad Z L st, [], [], ds, d0, st0, hl, wd.inner, by rw [bad_inner]; exact dn.anyL hn, e3, fun v H' L' ff p => ?_⟩
  cases d0 with
  | ref j =>
    dsimp only at e4
    have fo := wd.outer ff
    unfold Den at p
    obtain ⟨a, ja, rfl⟩ := p
    have na : H a = none := ff.fr j a (Nat.zero_le _) ja
    have nl : ∀ b, ¬ Liv ([] : List Addr) ([] : Sto) b := fun b ⟨k, d, h, _⟩ => by simp at h
    have stay : ∀ b u, H b = some u → (∀ ps, u ≠ .tbl ps) → H' b = some u := fun b u e n => ff.kp b u e (nl b) n
    have hz : ∀ b, zAnd (Bad Z L st) a b ↔ Bad (zAnd Z a) L st b := fun b => by
      constructor
      · rintro ((z | z) | z)
        · exact .inl (.inl z)
        · exact .inr z
        · exact .inl (.inr z)
      · rintro ((z | z) | z)
        · exact .inl (.inl z)
        · exact .inr z
        · exact .inl (.inr z)
    -- the caller's world with a set apart
    have fz : Afz T Z L st H (zAnd Z a) L st H' := by
      refine ⟨⟨fo.wd.tabs, wd.len, wd.inj, fun i b x a1 a2 => ?_, fun b z => ?_⟩, fo.pre, fo.kp, fo.nw, fo.trk, fo.tp, fo.fr, fun b z => z.elim .inl fun y => .inr (by rw [y]; exact na)⟩
      · obtain ⟨nz, o, e, qq⟩ := wd.own i b x a1 a2
        refine ⟨fun z => z.elim nz (ne_of_none e na), o, stay b o e fun ps z => ?_, qq.imp fun ds vs t => ?_⟩
        · rcases qq.kind with ⟨xs, y⟩ | ⟨kvs, y⟩ <;> (rw [y] at z; cases z)
        · exact ((t.away na).stay stay).mono fun b z => by
            rcases (hz b).mpr z with z | z
            · exact .inl z
            · exact .inr z
      · rcases z with z | z
        · exact fo.trk b (wd.zt b z)
        · split at e4
          · rename_i xs hx
            rw [z]; exact ff.wd.livTrk ⟨j, _, ja, hx⟩
          · rename_i ks xs hx
            rw [z]; exact ff.wd.livTrk ⟨j, _, ja, hx⟩
          · cases e4
    have fin : ∀ o, H' a = some o → OwnO L (Bad (zAnd Z a) L st) H' o d1 → Q (.ref a) H' := fun o ho hd => by
      refine q _ H' (L ++ [a]) (fz.claim wd na ho hd) ?_
      unfold Den
      exact ⟨a, by rw [← wd.len]; simp, rfl⟩
    split at e4
    · rename_i xs hx
      obtain ⟨es, e5, rfl⟩ := Option.map_eq_some_iff.mp e4
      obtain ⟨wz, o, ho, us, rfl, t⟩ := ff.wd.toZ ja hx
      refine fin _ ho ⟨us, rfl, ?_⟩
      exact (derefs_ok (L0 := L) wz e5 (t.mono fun b z => .inl z)).mono fun b z => (hz b).mpr z
    · rename_i ks xs hx
      obtain ⟨es, e5, rfl⟩ := Option.map_eq_some_iff.mp e4
      obtain ⟨wz, o, ho, us, rfl, el, t⟩ := ff.wd.toZ ja hx
      refine fin _ ho ⟨us, rfl, el, ?_⟩
      exact (derefs_ok (L0 := L) wz e5 (t.mono fun b z => .inl z)).mono fun b z => (hz b).mpr z
    · cases e4
  | _ => cases e4
end
mutual
theorem Den.stayB {L : List Addr} {B : Addr → Prop} {H H' : Hp} (k : ∀ b u, H b = some u → (∀ ps, u ≠ .tbl ps) → ((∃ xs, u = .tup xs) ∨ ¬ B b) → H' b = some u) : ∀ {d : Dt} {v : V}, Den L B H d v → Den L B H' d v
  | .non, _, q => by unfold Den at q ⊢; exact q
  | .bl _, _, q => by unfold Den at q ⊢; exact q
  | .int _, _, q => by unfold Den at q ⊢; exact q
  | .str _, _, q => by unfold Den at q ⊢; exact q
  | .ref _, _, q => by unfold Den at q ⊢; exact q
  | .lst ds, _, q => by
    unfold Den at q ⊢
    obtain ⟨b, vs, r, nb, e, t⟩ := q
    exact ⟨b, vs, r, nb, k _ _ e (fun ps z => by cases z) (.inr nb), Dens.stayB k t⟩
  | .tup ds, _, q => by
    unfold Den at q ⊢
    obtain ⟨b, vs, r, e, t⟩ := q
    exact ⟨b, vs, r, k _ _ e (fun ps z => by cases z) (.inl ⟨_, rfl⟩), Dens.stayB k t⟩
  | .dic ks ds, _, q => by
    unfold Den at q ⊢
    obtain ⟨b, vs, r, nb, e, el, t⟩ := q
    exact ⟨b, vs, r, nb, rd_of e fun o eo => k b o eo (fun ps z => by subst z; rcases e with e | ⟨x, e⟩ <;> rw [eo] at e <;> cases e) (.inr nb), el, Dens.stayB k t⟩
theorem Dens.stayB {L : List Addr} {B : Addr → Prop} {H H' : Hp} (k : ∀ b u, H b = some u → (∀ ps, u ≠ .tbl ps) → ((∃ xs, u = .tup xs) ∨ ¬ B b) → H' b = some u) : ∀ {ds : List Dt} {vs : List V}, Dens L B H ds vs → Dens L B H' ds vs
  | [], _, q => by unfold Dens at q ⊢; exact q
  | d :: ds, _, q => by
    obtain ⟨v, r, rfl, p, t⟩ := q.uncons
    exact .cons (Den.stayB k p) (Dens.stayB k t)
end
/-! ### defs that change their first argument -/
def fE (F : List Dt → Sto → Option (Dt × Sto)) : Dt → List Dt → Option (Dt × Dt) := fun c ds => (F (.ref 0 :: ds) [some c]).bind fun x => match x.2[0]? with
  | some (some c') => if noRef c' = true then (deref (x.2.set 0 none) 6 x.1).map fun d => (d, c') else none
  | _ => none
def liftE (f : Dt → List Dt → Option (Dt × Dt)) : List Dt → Sto → Option (Dt × Sto) := fun ds st => match ds with
  | .ref k :: ds => if noRefs ds = true then (match st[k]? with
    | some (some c) => if noRef c = true then (f c ds).map fun x => (x.1, st.set k (some x.2)) else none
    | _ => none) else none
  | _ => none
theorem OwnO.anyL {L L' : List Addr} {B : Addr → Prop} {H : Hp} {o : HO} : ∀ {d : Dt}, noRef d = true → OwnO L B H o d → OwnO L' B H o d
  | .lst _, n, h => by unfold noRef at n; obtain ⟨vs, e, t⟩ := h; exact ⟨vs, e, t.anyL n⟩
  | .dic _ _, n, h => by unfold noRef at n; obtain ⟨vs, e, el, t⟩ := h; exact ⟨vs, e, el, t.anyL n⟩
section
variable {T : List (Addr × Str)} {P : Program} {w : World} {K : PySem.W.Frag} {mg : Str → Option Value} {base : Heap} {k n : Nat} {f : Addr} {fd : FuncData} {ps : List Str} {F : List Dt → Sto → Option (Dt × Sto)}
theorem gfn_E (G : GFn P w K mg base k f fd ps (SpF T n F)) : GFn P w K mg base k f fd ps (SpF T n (liftE (fE F))) := by
  refine G.imp fun vs H Q h => ?_
  obtain ⟨Z, L, st, ds, d, st', hl, wd, dn, hF, q⟩ := h
  unfold liftE at hF
  split at hF
  case h_2 => cases hF
  case h_1 k ds =>
  split at hF
  case isFalse => cases hF
  case isTrue hn =>
  split at hF
  case h_2 => cases hF
  case h_1 c hc =>
  split at hF
  case isFalse => cases hF
  case isTrue hnc =>
  obtain ⟨⟨d1, c1⟩, e1, e2⟩ := Option.map_eq_some_iff.mp hF
  cases e2
  obtain ⟨⟨d0, st0⟩, e3, e4⟩ := bind_some' e1
  obtain ⟨v0, us, rfl, p0, dn'⟩ := dn.uncons
  unfold Den at p0
  obtain ⟨a, ka, rfl⟩ := p0
  have la : Liv L st a := ⟨k, c, ka, hc⟩
  obtain ⟨nza, oa, ea, qa⟩ := wd.own k a c ka hc
  have ta : ∀ xs, oa ≠ .tup xs := fun xs z => by
    rcases qa.kind with ⟨ys, y⟩ | ⟨kvs, y⟩ <;> (rw [y] at z; cases z)
  let Z1 : Addr → Prop := fun b => Bad Z L st b ∧ b ≠ a
  have l1 : ∀ b, Liv [a] [some c] b ↔ b = a := fun b => by
    constructor
    · rintro ⟨j, x, j1, j2⟩
      cases j with
      | zero => simp at j1; exact j1.symm
      | succ j => simp at j1
    · rintro rfl
      exact ⟨0, c, rfl, rfl⟩
  have b1 : ∀ b, Bad Z1 [a] [some c] b → Bad Z L st b := fun b z => by
    rcases z with z | z
    · exact z.1
    · rw [(l1 b).mp z]; exact .inr la
  have w1 : Wd T Z1 [a] [some c] H := by
    refine ⟨wd.tabs, rfl, fun i j b x y a1 a2 _ _ => ?_, fun j b x a1 a2 => ?_, fun b z => z.1.elim (wd.zt b) wd.livTrk⟩
    · cases i with
      | zero =>
        cases j with
        | zero => rfl
        | succ j => simp at a2
      | succ i => simp at a1
    · cases j with
      | zero =>
        simp at a1 a2
        subst a1; subst a2
        exact ⟨fun z => z.2 rfl, oa, ea, (qa.imp fun ds vs t => t.mono b1).anyL hnc⟩
      | succ j => simp at a1
  have da : Dens [a] (Bad Z1 [a] [some c]) H (.ref 0 :: ds) (.ref a :: us) := by
    refine .cons ?_ ((dn'.mono b1).anyL hn)
    unfold Den
    exact ⟨a, rfl, rfl⟩
  refine ⟨Z1, [a], [some c], .ref 0 :: ds, d0, st0, hl, w1, da, e3, fun v H' L' ff p => ?_⟩
  dsimp only at e4
  split at e4
  case h_2 => cases e4
  case h_1 c' hc' =>
  split at e4
  case isFalse => cases e4
  case isTrue hnc' =>
  obtain ⟨d2, e5, e6⟩ := Option.map_eq_some_iff.mp e4
  cases e6
  have a0 : L'[0]? = some a := ff.ix rfl
  have lst : ∀ b, Liv L (st.set k (some c1)) b → Liv L st b := fun b ⟨j, x, j1, j2⟩ => by
    by_cases hj : k = j
    · subst hj
      rw [ka] at j1; cases j1
      exact la
    · rw [List.getElem?_set_ne hj] at j2
      exact ⟨j, x, j1, j2⟩
  have bz : ∀ b, Bad Z L (st.set k (some c1)) b → zAnd Z1 a b := fun b z => by
    by_cases hb : b = a
    · exact .inr hb
    · exact .inl ⟨z.elim .inl fun z => .inr (lst b z), hb⟩
  have bz2 : ∀ b, zAnd Z1 a b → Bad Z1 L' st0 b := fun b z => by
    rcases z with z | z
    · exact .inl z
    · rw [z]; exact .inr ⟨0, c1, a0, hc'⟩
  have stay : ∀ b u, b ≠ a → H b = some u → (∀ ps, u ≠ .tbl ps) → H' b = some u := fun b u nb e nt => ff.kp b u e (fun z => nb ((l1 b).mp z)) nt
  have bs : ∀ b, Bad Z L (st.set k (some c1)) b → Bad Z L st b := fun b z => z.elim .inl fun z => .inr (lst b z)
  have trD : ∀ ds vs, Dens L (Bad Z L st) H ds vs → Dens L (Bad Z L (st.set k (some c1))) H' ds vs := fun ds vs t =>
    (t.stayB fun b u e nt z => stay b u (fun y => by
      rcases z with ⟨xs, z⟩ | z
      · subst y; rw [ea] at e; cases e; exact ta xs z
      · exact z (by rw [y]; exact .inr la)) e nt).mono bs
  have hlt : k < st.length := (List.getElem?_eq_some_iff.mp hc).1
  refine q v H' L ⟨⟨ff.wd.tabs, by rw [List.length_set]; exact wd.len, fun i j b x y a1 a2 a3 a4 => ?_, fun j b x a1 a2 => ?_, fun b z => ff.trk b (wd.zt b z)⟩, ⟨[], by simp⟩, fun b u e nl nt => stay b u (fun y => nl (by rw [y]; exact la)) e nt, fun b z => .inl (lst b z), ff.trk, ff.tp, fun j b h e => absurd (List.getElem?_eq_some_iff.mp e).1 (by omega), fun b z => .inl z⟩ ?_
  · have g : ∀ (i : Nat) x, L[i]? = some b → (st.set k (some c1))[i]? = some (some x) → ∃ x', st[i]? = some (some x') := fun i x g1 g2 => by
      by_cases hj : k = i
      · subst hj; exact ⟨c, hc⟩
      · rw [List.getElem?_set_ne hj] at g2; exact ⟨x, g2⟩
    obtain ⟨x', g1⟩ := g i x a1 a3
    obtain ⟨y', g2⟩ := g j y a2 a4
    exact wd.inj i j b x' y' a1 a2 g1 g2
  · by_cases hj : k = j
    · subst hj
      rw [ka] at a1; cases a1
      rw [List.getElem?_set_self hlt] at a2
      cases a2
      obtain ⟨_, o, eo, qo⟩ := ff.wd.own 0 a c1 a0 hc'
      exact ⟨nza, o, eo, (qo.imp fun ds vs t => t.mono fun b z => bz2 b (bz b z)).anyL hnc'⟩
    · rw [List.getElem?_set_ne hj] at a2
      obtain ⟨nz, o, eo, qo⟩ := wd.own j b x a1 a2
      have nb : b ≠ a := fun y => by
        subst y
        exact hj (wd.inj k j b c x ka a1 hc a2)
      refine ⟨nz, o, stay b o nb eo fun ps z => ?_, qo.imp trD⟩
      rcases qo.kind with ⟨ys, y⟩ | ⟨kvs, y⟩ <;> (rw [y] at z; cases z)
  · obtain ⟨wz, _⟩ := ff.wd.toZ a0 hc'
    exact (deref_ok (L0 := L) wz e5 (p.mono bz2)).mono bz
end
end HB

set_option Elab.async false
set_option linter.all false
set_option maxRecDepth 100000
set_option maxHeartbeats 1000000
/-! HB, part f: operators and built-ins by values. -/
namespace HB
open PySem PySem.Spec PyProof.Rows L2

/-! ### what may be read -/
def asL (st : Sto) : Dt → Option (List Dt)
  | .lst ds => some ds
  | .ref k => (match st[k]? with
    | some (some (.lst ds)) => some ds
    | _ => none)
  | _ => none
def asD (st : Sto) : Dt → Option (List Key × List Dt)
  | .dic ks ds => some (ks, ds)
  | .ref k => (match st[k]? with
    | some (some (.dic ks ds)) => some (ks, ds)
    | _ => none)
  | _ => none
section
variable {T : List (Addr × Str)} {Z : Addr → Prop} {L : List Addr} {st : Sto} {H : Hp} {d : Dt} {v : V}
theorem asL_ok {ds : List Dt} (w : Wd T Z L st H) (h : Den L (Bad Z L st) H d v) (e : asL st d = some ds) : ∃ a vs, v = .ref a ∧ H a = some (.lst vs) ∧ Dens L (Bad Z L st) H ds vs := by
  cases d with
  | lst xs =>
    cases e
    unfold Den at h
    obtain ⟨a, vs, r, _, e, t⟩ := h
    exact ⟨a, vs, r, e, t⟩
  | ref k =>
    unfold asL at e
    dsimp only at e
    split at e
    · rename_i xs hk
      cases e
      unfold Den at h
      obtain ⟨a, ka, r⟩ := h
      obtain ⟨_, o, eo, vs, rfl, t⟩ := w.own k a _ ka hk
      exact ⟨a, vs, r, eo, t⟩
    · cases e
  | _ => cases e
theorem asD_ok {ks : List Key} {ds : List Dt} (w : Wd T Z L st H) (h : Den L (Bad Z L st) H d v) (e : asD st d = some (ks, ds)) : ∃ a vs, v = .ref a ∧ Rd H a (.dK (ks.zip vs)) ∧ ks.length = vs.length ∧ Dens L (Bad Z L st) H ds vs := by
  cases d with
  | dic xs ys =>
    cases e
    unfold Den at h
    obtain ⟨a, vs, r, _, e, el, t⟩ := h
    exact ⟨a, vs, r, e, el, t⟩
  | ref k =>
    unfold asD at e
    dsimp only at e
    split at e
    · rename_i xs ys hk
      cases e
      unfold Den at h
      obtain ⟨a, ka, r⟩ := h
      obtain ⟨_, o, eo, vs, rfl, el, t⟩ := w.own k a _ ka hk
      exact ⟨a, vs, r, .inl eo, el, t⟩
    · cases e
  | _ => cases e
end

/-! ### several rules for one operator -/
theorem OpR.or {X : Cx} {f : Value → Value → Sem Value} {r r' : R2} (h : OpR X f r) (h' : OpR X f r') : OpR X f (fun x y H Q => r x y H Q ∨ r' x y H Q) := by
  intro pins s s1 H x y v u Q I rx ry q
  rcases q with q | q
  · exact h pins s s1 H x y v u Q I rx ry q
  · exact h' pins s s1 H x y v u Q I rx ry q
theorem CallR.or {X : Cx} {f : Value} {r r' : List V → Hp → VK → Prop} (h : CallR X f r) (h' : CallR X f r') : CallR X f (fun x H Q => r x H Q ∨ r' x H Q) := by
  intro pins s s1 H x v Q I rx q
  rcases q with q | q
  · exact h pins s s1 H x v Q I rx q
  · exact h' pins s s1 H x v Q I rx q
/-! ### numbers -/
def gI (C : Int → Int → Bool) (f : Int → Int → Int) : Sto → Dt → Dt → Option (Dt × Sto) := fun st x y => match x, y with
  | .int i, .int j => if C i j = true then some (.int (f i j), st) else none
  | _, _ => none
def gIb (f : Int → Int → Bool) : Sto → Dt → Dt → Option (Dt × Sto) := fun st x y => match x, y with
  | .int i, .int j => some (.bl (f i j), st)
  | _, _ => none
section
variable {T : List (Addr × Str)}
theorem vo_I {C : Int → Int → Prop} {Cb : Int → Int → Bool} {f : Int → Int → Int} (hC : ∀ i j, Cb i j = true → C i j) : VO2 T (rI C fun i j => .int (f i j)) (gI Cb f) := by
  intro Z L st H x y dx dy d st' Q w hx hy h q
  unfold gI at h
  split at h
  · rename_i i j
    split at h
    · rename_i hc
      cases h
      exact ⟨i, j, den_int hx, den_int hy, hC i j hc, q _ H L (.refl w) Den.int⟩
    · cases h
  · cases h
theorem vo_I0 {f : Int → Int → Int} : VO2 T (rI0 fun i j => .int (f i j)) (gI (fun _ _ => true) f) := by
  intro Z L st H x y dx dy d st' Q w hx hy h q
  unfold gI at h
  split at h
  · rename_i i j
    cases h
    exact ⟨i, j, den_int hx, den_int hy, q _ H L (.refl w) Den.int⟩
  · cases h
theorem vo_Ib {f : Int → Int → Bool} : VO2 T (rI0 fun i j => .bl (f i j)) (gIb f) := by
  intro Z L st H x y dx dy d st' Q w hx hy h q
  unfold gIb at h
  split at h
  · rename_i i j
    cases h
    exact ⟨i, j, den_int hx, den_int hy, q _ H L (.refl w) Den.bl⟩
  · cases h
end
/-- great powers -/
def CPowW (i j : Int) : Prop := 0 ≤ j ∧ (Builtin.Int.intBits i : Int) * j ≤ 2 ^ 27
theorem op_powW {X : Cx} : OpR X (binaryOp .Pow) (rI CPowW fun i j => .int (i ^ j.toNat)) := opI fun _ _ _ _ _ _ _ hc q => pow_int hc.1 hc.2 q

/-! ### + -/
def rAddS : R2 := fun x y H Q => ∃ i j, x = .str i ∧ y = .str j ∧ i.length + j.length ≤ sizeLine ∧ Q (.str (i ++ j)) H
def rAdd : R2 := fun x y H Q => rI0 (fun i j => .int (i + j)) x y H Q ∨ rAddS x y H Q ∨ rCat x y H Q
theorem op_Add {X : Cx} : OpR X (binaryOp .Add) rAdd := OpR.or op_add (OpR.or op_add_str op_cat)
def gAdd (st : Sto) (x y : Dt) : Option (Dt × Sto) := match x, y with
  | .int i, .int j => some (.int (i + j), st)
  | .str i, .str j => if i.length + j.length ≤ sizeLine then some (.str (i ++ j), st) else none
  | x, y => (match asL st x, asL st y with
    | some a, some b => if a.length + b.length ≤ sizeLine then some (.lst (a ++ b), st) else none
    | _, _ => none)
section
variable {T : List (Addr × Str)}
theorem vo_Add : VO2 T rAdd gAdd := by
  intro Z L st H x y dx dy d st' Q w hx hy h q
  unfold gAdd at h
  split at h
  · cases h
    exact .inl ⟨_, _, den_int hx, den_int hy, q _ H L (.refl w) Den.int⟩
  · split at h
    · rename_i hl
      cases h
      exact .inr (.inl ⟨_, _, den_str hx, den_str hy, hl, q _ H L (.refl w) Den.str⟩)
    · cases h
  · split at h
    · rename_i a b ha hb
      split at h
      · rename_i hl
        cases h
        obtain ⟨p1, vs, rfl, e1, t1⟩ := asL_ok w hx ha
        obtain ⟨p2, us, rfl, e2, t2⟩ := asL_ok w hy hb
        refine .inr (.inr ⟨p1, p2, vs, us, rfl, rfl, e1, e2, by rw [← t1.len, ← t2.len]; exact hl, fun p np => q _ _ L (.new w np) (.newL w np (t1.append t2))⟩)
      · cases h
    · cases h
end

/-! ### flat data -/
def flatD : Dt → Option V
  | .non => some .non
  | .bl b => some (.bl b)
  | .int i => some (.int i)
  | .str x => some (.str x)
  | _ => none
theorem flatD_ok {L : List Addr} {B : Addr → Prop} {H : Hp} {d : Dt} {v x : V} (h : Den L B H d v) (e : flatD d = some x) : v = x ∧ flatV x = true := by
  cases d <;> (unfold flatD at e; first | (cases e; done) | (cases e; unfold Den at h; exact ⟨h, rfl⟩))
def flats : List Dt → Option (List V)
  | [] => some []
  | d :: ds => (flatD d).bind fun x => (flats ds).map fun xs => x :: xs
theorem flats_ok {L : List Addr} {B : Addr → Prop} {H : Hp} : ∀ {ds : List Dt} {vs xs : List V}, Dens L B H ds vs → flats ds = some xs → vs = xs ∧ xs.all flatV = true
  | [], vs, xs, h, e => by
    cases e
    unfold Dens at h
    exact ⟨h, rfl⟩
  | d :: ds, vs, xs, h, e => by
    obtain ⟨v, r, rfl, p, t⟩ := h.uncons
    obtain ⟨x, e1, e2⟩ := bind_some' e
    obtain ⟨ys, e3, rfl⟩ := Option.map_eq_some_iff.mp e2
    obtain ⟨h1, h2⟩ := flatD_ok p e1
    obtain ⟨h3, h4⟩ := flats_ok t e3
    subst h1; subst h3
    exact ⟨rfl, by rw [List.all_cons, h2, h4]; rfl⟩
theorem flatD_str (x : Str) : flatD (.str x) = some (.str x) := rfl
theorem flats_map {α : Type} (f : α → Dt) (g : α → V) (h : ∀ a, flatD (f a) = some (g a)) : ∀ l : List α, flats (l.map f) = some (l.map g)
  | [] => rfl
  | a :: l => by
    show (flatD (f a)).bind _ = _
    rw [h a, Option.bind_some, flats_map f g h l]
    rfl
/-! ### nested data as the library's -/
def py (st : Sto) : Nat → Dt → Option PyData
  | 0, _ => none
  | n + 1, d => match d with
    | .non => some .none
    | .bl b => some (.bool b)
    | .int i => some (.int i)
    | .str x => some (.str x)
    | .ref k => (match st[k]? with
      | some (some c) => py st n c
      | _ => none)
    | .lst ds => (ds.mapM (py st n)).map .list
    | .tup ds => (ds.mapM (py st n)).map .tuple
    | .dic _ _ => none
theorem py_ok {T : List (Addr × Str)} {Z B : Addr → Prop} {L : List Addr} {st : Sto} {H : Hp} {K : PySem.W.Frag} (w : Wd T Z L st H) : ∀ {n : Nat} {d : Dt} {p : PyData} {v : V}, py st n d = some p → Den L Z H d v → Dp K H v p
  | 0, d, p, v, h, q => by cases h
  | n + 1, d, p, v, h, q => by
    have all : ∀ {ds : List Dt} {ps : List PyData} {vs : List V}, ds.mapM (py st n) = some ps → Dens L Z H ds vs → DpAll K H vs ps := by
      intro ds
      induction ds with
      | nil =>
        intro ps vs h q
        cases h
        unfold Dens at q
        subst q
        exact .nil
      | cons d ds ih =>
        intro ps vs h q
        rw [List.mapM_cons] at h
        obtain ⟨p, h1, h2⟩ := bind_some' h
        obtain ⟨ps', h3, h4⟩ := bind_some' h2
        cases h4
        obtain ⟨v, r, rfl, a, t⟩ := q.uncons
        exact .cons (py_ok (B := B) w h1 a) (ih h3 t)
    unfold py at h
    cases d with
    | non => cases h; unfold Den at q; subst q; exact .non
    | bl b => cases h; unfold Den at q; subst q; exact .bl b
    | int i => cases h; unfold Den at q; subst q; exact .int i
    | str x => cases h; unfold Den at q; subst q; exact .str x
    | ref k =>
      dsimp only at h
      unfold Den at q
      obtain ⟨a, ka, rfl⟩ := q
      split at h
      · rename_i c hk
        obtain ⟨nz, o⟩ := w.own k a c ka hk
        exact py_ok (B := B) w h (o.den nz fun b z => .inl z)
      · cases h
    | lst ds =>
      dsimp only at h
      obtain ⟨ps, h1, rfl⟩ := Option.map_eq_some_iff.mp h
      unfold Den at q
      obtain ⟨a, vs, rfl, nb, e, t⟩ := q
      exact .lst (SqL.of e) (all h1 t)
    | tup ds =>
      dsimp only at h
      obtain ⟨ps, h1, rfl⟩ := Option.map_eq_some_iff.mp h
      unfold Den at q
      obtain ⟨a, vs, rfl, e, t⟩ := q
      exact .tup (SqT.of e) (all h1 t)
    | dic ks ds => cases h

/-! ### == and != -/
def rEqA (K : PySem.W.Frag) : R2 := fun x y H Q => rEq x y H Q ∨ rEqD K x y H Q
def rNeA (K : PySem.W.Frag) : R2 := fun x y H Q => rNe x y H Q ∨ rNeD K x y H Q
theorem op_EqA {X : Cx} (hu : X.A.units + 64 < cLine) : OpR X (compareOp .Eq) (rEqA X.K) := OpR.or op_eq (op_eqD hu)
theorem op_NeA {X : Cx} (hu : X.A.units + 64 < cLine) : OpR X (compareOp .NotEq) (rNeA X.K) := OpR.or op_ne (op_neD hu)
def eqD (st : Sto) (x y : Dt) : Option Bool := match flatD x, flatD y with
  | some a, some b => if scal a b = true then some (decide (a = b)) else none
  | _, _ => (py st 8 x).bind fun a => (py st 8 y).bind fun b => if (SeqAt.shaped a && SeqAt.shaped b) = true then some (PyData.eqv a b) else none
def gEq (st : Sto) (x y : Dt) : Option (Dt × Sto) := (eqD st x y).map fun b => (.bl b, st)
def gNe (st : Sto) (x y : Dt) : Option (Dt × Sto) := (eqD st x y).map fun b => (.bl (!b), st)
section
variable {T : List (Addr × Str)} {K : PySem.W.Frag}
theorem vo_Eq : VO2 T (rEqA K) gEq := by
  intro Z L st H x y dx dy d st' Q w hx hy h q
  obtain ⟨b, h1, h2⟩ := Option.map_eq_some_iff.mp h
  cases h2
  have q' := q _ H L (.refl w) Den.bl
  unfold eqD at h1
  split at h1
  · rename_i a c ha hc
    split at h1
    · rename_i hs
      cases h1
      obtain ⟨rfl, _⟩ := flatD_ok hx ha
      obtain ⟨rfl, _⟩ := flatD_ok hy hc
      exact .inl ⟨hs, q'⟩
    · cases h1
  · obtain ⟨a, e1, e2⟩ := bind_some' h1
    obtain ⟨c, e3, e4⟩ := bind_some' e2
    split at e4
    · rename_i hs
      cases e4
      rw [Bool.and_eq_true] at hs
      exact .inr ⟨a, c, py_ok (B := Z) w e1 (hx.mono fun b z => .inl z), py_ok (B := Z) w e3 (hy.mono fun b z => .inl z), hs.1, hs.2, q'⟩
    · cases e4
theorem vo_Ne : VO2 T (rNeA K) gNe := by
  intro Z L st H x y dx dy d st' Q w hx hy h q
  obtain ⟨b, h1, h2⟩ := Option.map_eq_some_iff.mp h
  cases h2
  have q' := q _ H L (.refl w) Den.bl
  unfold eqD at h1
  split at h1
  · rename_i a c ha hc
    split at h1
    · rename_i hs
      cases h1
      obtain ⟨rfl, _⟩ := flatD_ok hx ha
      obtain ⟨rfl, _⟩ := flatD_ok hy hc
      exact .inl ⟨hs, q'⟩
    · cases h1
  · obtain ⟨a, e1, e2⟩ := bind_some' h1
    obtain ⟨c, e3, e4⟩ := bind_some' e2
    split at e4
    · rename_i hs
      cases e4
      rw [Bool.and_eq_true] at hs
      exact .inr ⟨a, c, py_ok (B := Z) w e1 (hx.mono fun b z => .inl z), py_ok (B := Z) w e3 (hy.mono fun b z => .inl z), hs.1, hs.2, q'⟩
    · cases e4
end

/-! ### tables by parallel lists -/
def keyD : Dt → Option Key
  | .int i => some (.inl i)
  | .str x => some (.inr x)
  | _ => none
theorem keyD_ok {L : List Addr} {B : Addr → Prop} {H : Hp} {d : Dt} {v : V} {k : Key} (h : Den L B H d v) (e : keyD d = some k) : v = kV k := by
  cases d <;> (unfold keyD at e; first | (cases e; done) | (cases e; unfold Den at h; exact h))
def pGet {α : Type} (k : Key) : List Key → List α → Option α
  | k' :: ks, x :: xs => if k' = k then some x else pGet k ks xs
  | _, _ => none
def pSet {α : Type} (k : Key) (x : α) : List Key → List α → List α
  | k' :: ks, y :: ys => (if k' = k then x else y) :: pSet k x ks ys
  | _, _ => []
def pPut {α : Type} (k : Key) (x : α) (ks : List Key) (ys : List α) : List Key × List α := if (ks.any fun j => decide (j = k)) = true then (ks, pSet k x ks ys) else (ks ++ [k], ys ++ [x])
theorem pGet_val (k : Key) : ∀ (ks : List Key) (vs : List V), valV (ks.zip vs) k = pGet k ks vs
  | [], _ => rfl
  | _ :: _, [] => rfl
  | k' :: ks, v :: vs => by
    rw [List.zip_cons_cons]
    unfold pGet
    by_cases e : k' = k
    · rw [if_pos e]; exact valV_pos (p := (k', v)) e
    · rw [if_neg e, valV_neg (p := (k', v)) e, pGet_val k ks vs]
theorem pSet_len {α : Type} (k : Key) (x : α) : ∀ (ks : List Key) (ys : List α), ks.length = ys.length → (pSet k x ks ys).length = ys.length
  | [], [], _ => rfl
  | [], _ :: _, h => by simp at h
  | _ :: _, [], h => by simp at h
  | k' :: ks, y :: ys, h => by simp [pSet, pSet_len k x ks ys (by simpa using h)]
theorem pPut_len {α : Type} (k : Key) (x : α) {ks : List Key} {ys : List α} (h : ks.length = ys.length) : (pPut k x ks ys).1.length = (pPut k x ks ys).2.length := by
  unfold pPut
  split
  · simp [pSet_len k x ks ys h, h]
  · simp [h]
theorem pPut_keys {α β : Type} (k : Key) (x : α) (y : β) (ks : List Key) (xs : List α) (ys : List β) : (pPut k x ks xs).1 = (pPut k y ks ys).1 := by
  unfold pPut
  split <;> rfl
theorem zip_any (k : Key) : ∀ (ks : List Key) (vs : List V), ks.length = vs.length → ((ks.zip vs).any fun kv => decide (kv.1 = k)) = ks.any fun j => decide (j = k)
  | [], [], _ => by simp
  | [], _ :: _, h => by simp at h
  | _ :: _, [], h => by simp at h
  | k' :: ks, y :: ys, h => by
    rw [List.zip_cons_cons, List.any_cons, List.any_cons, zip_any k ks ys (by simpa using h)]
theorem zip_put (k : Key) (v : V) : ∀ (ks : List Key) (vs : List V), ks.length = vs.length → (ks.zip vs).map (fun kv => if kv.1 = k then (kv.1, v) else kv) = ks.zip (pSet k v ks vs)
  | [], [], _ => rfl
  | [], _ :: _, h => by simp at h
  | _ :: _, [], h => by simp at h
  | k' :: ks, y :: ys, h => by
    rw [List.zip_cons_cons, List.map_cons, zip_put k v ks ys (by simpa using h)]
    show _ = (k' :: ks).zip ((if k' = k then v else y) :: pSet k v ks ys)
    rw [List.zip_cons_cons]
    by_cases e : k' = k
    · rw [if_pos e, if_pos e]
    · rw [if_neg e, if_neg e]
theorem pPut_zip (k : Key) (v : V) {ks : List Key} {vs : List V} (h : ks.length = vs.length) : putK (ks.zip vs) k v = (pPut k v ks vs).1.zip (pPut k v ks vs).2 := by
  unfold putK pPut
  rw [zip_any k ks vs h]
  split
  · exact zip_put k v ks vs h
  · show ks.zip vs ++ [(k, v)] = (ks ++ [k]).zip (vs ++ [v])
    rw [List.zip_append h]
    rfl
theorem Dens.pSet {L : List Addr} {B : Addr → Prop} {H : Hp} {d : Dt} {v : V} (q : Den L B H d v) (k : Key) : ∀ {ks : List Key} {ds : List Dt} {vs : List V}, Dens L B H ds vs → Dens L B H (pSet k d ks ds) (pSet k v ks vs)
  | [], ds, vs, h => by unfold HB.pSet; exact .nil
  | k' :: ks, [], vs, h => by unfold Dens at h; subst h; exact .nil
  | k' :: ks, e :: ds, vs, h => by
    obtain ⟨w, r, rfl, p, t⟩ := h.uncons
    unfold HB.pSet
    refine .cons ?_ (Dens.pSet q k t)
    split
    · exact q
    · exact p
theorem Dens.pPut {L : List Addr} {B : Addr → Prop} {H : Hp} {d : Dt} {v : V} (q : Den L B H d v) (k : Key) {ks : List Key} {ds : List Dt} {vs : List V} (h : Dens L B H ds vs) : Dens L B H (pPut k d ks ds).2 (pPut k v ks vs).2 := by
  unfold HB.pPut
  split
  · exact h.pSet q k
  · exact h.append (.cons q .nil)
theorem Dens.pGet {L : List Addr} {B : Addr → Prop} {H : Hp} (k : Key) : ∀ {ks : List Key} {ds : List Dt} {vs : List V}, Dens L B H ds vs → (pGet k ks ds = none ∧ pGet k ks vs = none) ∨ ∃ d v, pGet k ks ds = some d ∧ pGet k ks vs = some v ∧ Den L B H d v
  | [], ds, vs, h => .inl ⟨rfl, rfl⟩
  | k' :: ks, [], vs, h => by unfold Dens at h; subst h; exact .inl ⟨rfl, rfl⟩
  | k' :: ks, e :: ds, vs, h => by
    obtain ⟨w, r, rfl, p, t⟩ := h.uncons
    unfold HB.pGet
    split
    · exact .inr ⟨e, w, rfl, rfl, p⟩
    · exact Dens.pGet k t
end HB

set_option Elab.async false
set_option linter.all false
set_option maxRecDepth 100000
set_option maxHeartbeats 1000000
/-! HB, part g: subscripts, slices, in, len, isinstance, displays, methods, what is walked. -/
namespace HB
open PySem PySem.Spec PyProof.Rows L2

/-! ### in -/
def rDIn (neg : Bool) : R2 := fun x y H Q => ∃ a o, y = .ref a ∧ DGet H a x o ∧ Q (.bl (if neg then !o.isSome else o.isSome)) H
theorem op_dIn {X : Cx} (hu : X.A.units + 1 < cLine) : OpR X (compareOp .In) (rDIn false) := by
  intro pins s s1 H x y v u Q I rx ry q
  obtain ⟨a, o, rfl, g, q⟩ := q
  cases ry
  exact d_in hu I g rx fun s' I' => ⟨.bl _, H, I', rfl, q⟩
theorem op_dNotIn {X : Cx} (hu : X.A.units + 1 < cLine) : OpR X (compareOp .NotIn) (rDIn true) := by
  intro pins s s1 H x y v u Q I rx ry q
  obtain ⟨a, o, rfl, g, q⟩ := q
  cases ry
  exact d_notIn hu I g rx fun s' I' => ⟨.bl _, H, I', rfl, q⟩
def rSIn (neg : Bool) : R2 := fun x y H Q => ∃ i j, x = .str i ∧ y = .str j ∧ Q (.bl (if neg then (Builtin.Str.occurrences j i 0 j.length 1).isEmpty else !(Builtin.Str.occurrences j i 0 j.length 1).isEmpty)) H
def rInA (K : PySem.W.Frag) (neg : Bool) : R2 := fun x y H Q => rIn K neg x y H Q ∨ rDIn neg x y H Q
theorem op_InA {X : Cx} (hu : X.A.units + 1 < cLine) : OpR X (compareOp .In) (rInA X.K false) := OpR.or op_in_seq (op_dIn hu)
theorem op_NotInA {X : Cx} (hu : X.A.units + 1 < cLine) : OpR X (compareOp .NotIn) (rInA X.K true) := OpR.or op_notIn_seq (op_dNotIn hu)
def inD (st : Sto) (x y : Dt) : Option Bool := match asL st y with
  | some ds => (flatD x).bind fun a => (flats ds).map fun vs => inV a vs
  | none => (match asD st y with
    | some (ks, ds) => (keyD x).map fun k => (pGet k ks ds).isSome
    | none => none)
def gIn (neg : Bool) (st : Sto) (x y : Dt) : Option (Dt × Sto) := (inD st x y).map fun b => (.bl (if neg then !b else b), st)
section
variable {T : List (Addr × Str)} {K : PySem.W.Frag}
theorem vo_In {neg : Bool} : VO2 T (rInA K neg) (gIn neg) := by
  intro Z L st H x y dx dy d st' Q w hx hy h q
  obtain ⟨b, h1, h2⟩ := Option.map_eq_some_iff.mp h
  cases h2
  have q' := q _ H L (.refl w) Den.bl
  unfold inD at h1
  split at h1
  · rename_i ds hd
    obtain ⟨a, e1, e2⟩ := bind_some' h1
    obtain ⟨vs, e3, rfl⟩ := Option.map_eq_some_iff.mp e2
    obtain ⟨p, us, rfl, ep, t⟩ := asL_ok w hy hd
    obtain ⟨rfl, f1⟩ := flatD_ok hx e1
    obtain ⟨rfl, f2⟩ := flats_ok t e3
    exact .inl ⟨p, us, rfl, .inl (SqL.of ep), f1, f2, q'⟩
  · split at h1
    · rename_i ks ds hd
      obtain ⟨k, e1, rfl⟩ := Option.map_eq_some_iff.mp h1
      obtain ⟨p, us, rfl, ep, el, t⟩ := asD_ok w hy hd
      have ek := keyD_ok hx e1
      have hg : (pGet k ks us).isSome = (pGet k ks ds).isSome := by
        rcases t.pGet k (ks := ks) with ⟨z1, z2⟩ | ⟨d, v, z1, z2, _⟩ <;> rw [z1, z2] <;> rfl
      rw [← hg] at q'
      exact .inr ⟨p, pGet k ks us, rfl, .inl ⟨_, k, ep, ek, (pGet_val k ks us).symm⟩, q'⟩
    · cases h1
end

/-! ### order -/
def rLeS : R2 := fun x y H Q => ∃ i j, x = .str i ∧ y = .str j ∧ Q (.bl (!decide (j.cps.toList < i.cps.toList))) H
def rLeA : R2 := fun x y H Q => rI0 (fun i j => .bl (decide (i ≤ j))) x y H Q ∨ rLeS x y H Q
theorem op_LeA {X : Cx} : OpR X (compareOp .LtE) rLeA := OpR.or op_le op_le_str
def gLe (st : Sto) (x y : Dt) : Option (Dt × Sto) := match x, y with
  | .int i, .int j => some (.bl (decide (i ≤ j)), st)
  | .str i, .str j => some (.bl (!decide (j.cps.toList < i.cps.toList)), st)
  | _, _ => none
section
variable {T : List (Addr × Str)} {K : PySem.W.Frag}
theorem vo_Le : VO2 T rLeA gLe := by
  intro Z L st H x y dx dy d st' Q w hx hy h q
  unfold gLe at h
  split at h
  · cases h; exact .inl ⟨_, _, den_int hx, den_int hy, q _ H L (.refl w) Den.bl⟩
  · cases h; exact .inr ⟨_, _, den_str hx, den_str hy, q _ H L (.refl w) Den.bl⟩
  · cases h
end

/-! ### subscripts -/
def rIxDic : R2 := fun x y H Q => ∃ a v, x = .ref a ∧ DGet H a y (some v) ∧ Q v H
def rIxA (K : PySem.W.Frag) : R2 := fun x y H Q => rIx K x y H Q ∨ rIxDic x y H Q
def gIx (st : Sto) (x y : Dt) : Option (Dt × Sto) := match x with
  | .tup ds => (match y with
    | .int i => (atI ds i).map fun d => (d, st)
    | _ => none)
  | .str z => (match y with
    | .int i => if z.length ≤ sizeLine then (atI z.cps.toList i).map fun c => (.str ⟨#[c]⟩, st) else none
    | _ => none)
  | x => (match asL st x with
    | some ds => (match y with
      | .int i => (atI ds i).map fun d => (d, st)
      | _ => none)
    | none => (match asD st x with
      | some (ks, ds) => (keyD y).bind fun k => (pGet k ks ds).map fun d => (d, st)
      | none => none))
theorem dens_atI {L : List Addr} {B : Addr → Prop} {H : Hp} {ds : List Dt} {vs : List V} {i : Int} {d : Dt} (t : Dens L B H ds vs) (e : atI ds i = some d) : ∃ v, atI vs i = some v ∧ Den L B H d v := by
  unfold atI at e ⊢
  rw [← t.len]
  obtain ⟨j, e1, e2⟩ := bind_some' e
  obtain ⟨v, h1, h2⟩ := t.get e2
  exact ⟨v, by rw [e1]; exact h1, h2⟩
section
variable {T : List (Addr × Str)} {K : PySem.W.Frag}
theorem vo_Ix : VO2 T (rIxA K) gIx := by
  intro Z L st H x y dx dy d st' Q w hx hy h q
  unfold gIx at h
  split at h
  · rename_i ds
    split at h
    · obtain ⟨d', e1, e2⟩ := Option.map_eq_some_iff.mp h
      cases e2
      unfold Den at hx
      obtain ⟨a, vs, rfl, ea, t⟩ := hx
      obtain ⟨v, h1, h2⟩ := dens_atI t e1
      exact .inl (.inr (.inl ⟨a, vs, _, v, rfl, den_int hy, SqT.of ea, h1, q v H L (.refl w) h2⟩))
    · cases h
  · split at h
    · split at h
      · rename_i hz
        obtain ⟨c, e1, e2⟩ := Option.map_eq_some_iff.mp h
        cases e2
        exact .inl (.inr (.inr ⟨_, _, c, den_str hx, den_int hy, hz, e1, q _ H L (.refl w) Den.str⟩))
      · cases h
    · cases h
  · split at h
    · rename_i ds hd
      split at h
      · obtain ⟨d', e1, e2⟩ := Option.map_eq_some_iff.mp h
        cases e2
        obtain ⟨a, vs, rfl, ea, t⟩ := asL_ok w hx hd
        obtain ⟨v, h1, h2⟩ := dens_atI t e1
        exact .inl (.inl ⟨a, vs, _, v, rfl, den_int hy, SqL.of ea, h1, q v H L (.refl w) h2⟩)
      · cases h
    · split at h
      · rename_i ks ds hd
        obtain ⟨k, e1, e2⟩ := bind_some' h
        obtain ⟨d', e3, e4⟩ := Option.map_eq_some_iff.mp e2
        cases e4
        obtain ⟨p, us, rfl, ep, el, t⟩ := asD_ok w hx hd
        rcases t.pGet k (ks := ks) with ⟨z1, z2⟩ | ⟨d2, v, z1, z2, z3⟩
        · rw [z1] at e3; cases e3
        · rw [z1] at e3; cases e3
          exact .inr ⟨p, v, rfl, .inl ⟨_, k, ep, keyD_ok hy e1, by rw [pGet_val, z2]⟩, q v H L (.refl w) z3⟩
      · cases h
end
/-! ### slices -/
def cutL {α : Type} (xs : List α) (lo hi : Option Int) : List α := (xs.drop (HT.sIx xs.length 0 lo)).take (HT.sIx xs.length xs.length hi - HT.sIx xs.length 0 lo)
def rSlA (K : PySem.W.Frag) : V → Option Int → Option Int → Hp → VK → Prop := fun x lo hi H Q => rSlL K x lo hi H Q ∨ rSlS x lo hi H Q
theorem sl_any {X : Cx} : SlR X (rSlA X.K) := SlR.or sl_list sl_str
abbrev SO := Evr → Sto → Option (Option Int × Sto)
def SimO (T : List (Addr × Str)) (t : TO) (f : SO) : Prop := ∀ Z L st H s r o st' (Q : Option Int → Hp → Prop), Wd T Z L st H → EnvOk L (Bad Z L st) H r s → f r st = some (o, st') →
  (∀ H' L', Af T Z L st H L' st' H' → Q o H') → t s H Q
def oNo : SO := fun _ st => some (none, st)
def oE (f : SE) : SO := fun r st => (f r st).bind fun x => match x.1 with
  | .int i => some (some i, x.2)
  | _ => none
def gSl (st : Sto) (x : Dt) (lo hi : Option Int) : Option Dt := match x with
  | .str z => if z.length ≤ sizeLine then some (.str (cutS z lo hi)) else none
  | x => (asL st x).map fun ds => .lst (cutL ds lo hi)
def eSl (f : SE) (l h : SO) : SE := fun r st => (f r st).bind fun x => (l r x.2).bind fun a => (h r a.2).bind fun b => (gSl b.2 x.1 a.1 b.1).map fun d => (d, b.2)
section
variable {T : List (Addr × Str)} {K : PySem.W.Frag}
theorem sim_oNo : SimO T tNoPart oNo := by
  intro Z L st H s r o st' Q w e h q
  cases h
  exact q H L (.refl w)
theorem sim_oE {te : TE} {f : SE} (hf : SimE T te f) : SimO T (tPart te) (oE f) := by
  intro Z L st H s r o st' Q w e h q
  obtain ⟨⟨dx, st1⟩, h1, h⟩ := bind_some' h
  refine hf Z L st H s r dx st1 _ w e h1 fun x H1 L1 f1 p1 => ?_
  cases dx with
  | int i => cases h; exact ⟨i, den_int p1, q H1 L1 f1⟩
  | _ => cases h
theorem sim_sl {te : TE} {tl th : TO} {f : SE} {l h : SO} (hf : SimE T te f) (hl : SimO T tl l) (hh : SimO T th h) : SimE T (tSl (rSlA K) te tl th) (eSl f l h) := by
  intro Z L st H s r d st' Q w e hq q
  obtain ⟨⟨dx, st1⟩, h1, hq⟩ := bind_some' hq
  obtain ⟨⟨lo, st2⟩, h2, hq⟩ := bind_some' hq
  obtain ⟨⟨hi, st3⟩, h3, hq⟩ := bind_some' hq
  obtain ⟨d', h4, h5⟩ := Option.map_eq_some_iff.mp hq
  cases h5
  refine hf Z L st H s r dx st1 _ w e h1 fun x H1 L1 f1 p1 => ?_
  refine hl Z L1 st1 H1 s r lo st2 _ f1.wd (e.keep f1) h2 fun H2 L2 f2 => ?_
  refine hh Z L2 st2 H2 s r hi st3 _ f2.wd ((e.keep f1).keep f2) h3 fun H3 L3 f3 => ?_
  have p3 := (p1.keep f2).keep f3
  have fa := f1.trans (f2.trans f3)
  dsimp only at h4
  unfold gSl at h4
  split at h4
  · split at h4
    · rename_i hz
      cases h4
      exact .inr ⟨_, den_str p3, hz, q _ H3 L3 fa Den.str⟩
    · cases h4
  · obtain ⟨ds, h5, rfl⟩ := Option.map_eq_some_iff.mp h4
    obtain ⟨a, vs, rfl, ea, t⟩ := asL_ok f3.wd p3 h5
    refine .inl ⟨a, vs, rfl, SqL.of ea, fun p np => q _ _ L3 (fa.trans (.new f3.wd np)) ?_⟩
    refine .newL f3.wd np ?_
    show Dens _ _ _ (cutL ds lo hi) (cutV vs lo hi)
    unfold cutL cutV
    rw [t.len]
    exact (t.drop _).take _
end

/-! ### len, isinstance, int, all, any -/
def rLenA (K : PySem.W.Frag) : List V → Hp → VK → Prop := fun xs H Q => ((∃ p ys, xs = [.ref p] ∧ (SqL K H p ys ∨ SqT K H p ys) ∧ Q (.int ys.length) H) ∨ (∃ z, xs = [.str z] ∧ z.length ≤ sizeLine ∧ Q (.int z.length) H)) ∨ ∃ a kvs, xs = [.ref a] ∧ Rd H a (.dK kvs) ∧ Q (.int kvs.length) H
theorem call_lenA {X : Cx} : CallR X (.builtin "len") (rLenA X.K) := by
  refine CallR.or (CallR.or call_len_seq call_len_str) ?_
  intro pins s s1 H xs us Q I r q
  obtain ⟨a, kvs, rfl, hd, q⟩ := q
  obtain rfl := Vals.ref1 r
  exact d_len I hd fun t s' I' => ⟨.int _, H, I', ⟨t, rfl⟩, q⟩
def gLen (st : Sto) (xs : List Dt) : Option (Dt × Sto) := match xs with
  | [.str z] => if z.length ≤ sizeLine then some (.int z.length, st) else none
  | [.tup ds] => some (.int ds.length, st)
  | [x] => (match asL st x with
    | some ds => some (.int ds.length, st)
    | none => (asD st x).map fun y => (.int y.1.length, st))
  | _ => none
theorem dens1 {L : List Addr} {B : Addr → Prop} {H : Hp} {d : Dt} {vs : List V} (h : Dens L B H [d] vs) : ∃ v, vs = [v] ∧ Den L B H d v := by
  obtain ⟨v, r, rfl, p, t⟩ := h.uncons
  unfold Dens at t
  subst t
  exact ⟨v, rfl, p⟩
theorem dens2 {L : List Addr} {B : Addr → Prop} {H : Hp} {d e : Dt} {vs : List V} (h : Dens L B H [d, e] vs) : ∃ v u, vs = [v, u] ∧ Den L B H d v ∧ Den L B H e u := by
  obtain ⟨v, r, rfl, p, t⟩ := h.uncons
  obtain ⟨u, rfl, q⟩ := dens1 t
  exact ⟨v, u, rfl, p, q⟩
section
variable {T : List (Addr × Str)} {K : PySem.W.Frag}
theorem vo_len : VON T (rLenA K) gLen := by
  intro Z L st H xs dxs d st' Q w hx h q
  unfold gLen at h
  split at h
  · obtain ⟨v, rfl, p⟩ := dens1 hx
    split at h
    · rename_i hz
      cases h
      exact .inl (.inr ⟨_, by rw [den_str p], hz, q _ H L (.refl w) Den.int⟩)
    · cases h
  · obtain ⟨v, rfl, p⟩ := dens1 hx
    cases h
    unfold Den at p
    obtain ⟨a, vs, rfl, ea, t⟩ := p
    refine .inl (.inl ⟨a, vs, rfl, .inr (SqT.of ea), ?_⟩)
    rw [← t.len]
    exact q _ H L (.refl w) Den.int
  · obtain ⟨v, rfl, p⟩ := dens1 hx
    split at h
    · rename_i ds hd
      cases h
      obtain ⟨a, vs, rfl, ea, t⟩ := asL_ok w p hd
      refine .inl (.inl ⟨a, vs, rfl, .inl (SqL.of ea), ?_⟩)
      rw [← t.len]
      exact q _ H L (.refl w) Den.int
    · obtain ⟨⟨ks, ds⟩, e1, e2⟩ := Option.map_eq_some_iff.mp h
      cases e2
      obtain ⟨a, us, rfl, ea, el, t⟩ := asD_ok w p e1
      refine .inr ⟨a, _, rfl, ea, ?_⟩
      have e3 : (ks.zip us).length = ks.length := by rw [List.length_zip]; omega
      rw [e3]
      exact q _ H L (.refl w) Den.int
  · cases h
def gInt (st : Sto) (xs : List Dt) : Option (Dt × Sto) := match xs with
  | [.int i] => some (.int i, st)
  | _ => none
theorem vo_int : VON T (fun xs H Q => (∃ i, xs = [.int i] ∧ Q (.int i) H) ∨ ∃ k, xs = [.bl k] ∧ Q (.int (if k then 1 else 0)) H) gInt := by
  intro Z L st H xs dxs d st' Q w hx h q
  unfold gInt at h
  split at h
  · obtain ⟨v, rfl, p⟩ := dens1 hx
    cases h
    exact .inl ⟨_, by rw [den_int p], q _ H L (.refl w) Den.int⟩
  · cases h
def bools : List Dt → Option (List Bool)
  | [] => some []
  | .bl b :: ds => (bools ds).map fun bs => b :: bs
  | _ => none
theorem bools_ok {L : List Addr} {B : Addr → Prop} {H : Hp} : ∀ {ds : List Dt} {vs : List V} {bs : List Bool}, Dens L B H ds vs → bools ds = some bs → vs = bs.map V.bl
  | [], vs, bs, h, e => by
    cases e
    unfold Dens at h
    exact h
  | .bl b :: ds, vs, bs, h, e => by
    obtain ⟨v, r, rfl, p, t⟩ := h.uncons
    unfold bools at e
    obtain ⟨bs', e1, rfl⟩ := Option.map_eq_some_iff.mp e
    rw [den_bl p, bools_ok t e1]
    rfl
  | .non :: _, _, _, _, e => by cases e
  | .int _ :: _, _, _, _, e => by cases e
  | .str _ :: _, _, _, _, e => by cases e
  | .ref _ :: _, _, _, _, e => by cases e
  | .lst _ :: _, _, _, _, e => by cases e
  | .tup _ :: _, _, _, _, e => by cases e
  | .dic _ _ :: _, _, _, _, e => by cases e
theorem bools_map {α : Type} (f : α → Bool) : ∀ l : List α, bools (l.map fun a => .bl (f a)) = some (l.map f)
  | [] => rfl
  | a :: l => by
    show (bools (l.map fun a => .bl (f a))).map _ = _
    rw [bools_map f l]
    rfl
def gAll (st : Sto) (xs : List Dt) : Option (Dt × Sto) := match xs with
  | [x] => (asL st x).bind fun ds => (bools ds).map fun bs => (.bl (bs.all id), st)
  | _ => none
def gAny (st : Sto) (xs : List Dt) : Option (Dt × Sto) := match xs with
  | [x] => (asL st x).bind fun ds => (bools ds).map fun bs => (.bl (bs.any id), st)
  | _ => none
theorem vo_all : VON T (rAll K) gAll := by
  intro Z L st H xs dxs d st' Q w hx h q
  unfold gAll at h
  split at h
  · obtain ⟨v, rfl, p⟩ := dens1 hx
    obtain ⟨ds, e1, e2⟩ := bind_some' h
    obtain ⟨bs, e3, e4⟩ := Option.map_eq_some_iff.mp e2
    cases e4
    obtain ⟨a, vs, rfl, ea, t⟩ := asL_ok w p e1
    rw [bools_ok t e3] at ea
    exact ⟨a, bs, rfl, SqL.of ea, q _ H L (.refl w) Den.bl⟩
  · cases h
theorem vo_any : VON T (rAny K) gAny := by
  intro Z L st H xs dxs d st' Q w hx h q
  unfold gAny at h
  split at h
  · obtain ⟨v, rfl, p⟩ := dens1 hx
    obtain ⟨ds, e1, e2⟩ := bind_some' h
    obtain ⟨bs, e3, e4⟩ := Option.map_eq_some_iff.mp e2
    cases e4
    obtain ⟨a, vs, rfl, ea, t⟩ := asL_ok w p e1
    rw [bools_ok t e3] at ea
    exact ⟨a, bs, rfl, SqL.of ea, q _ H L (.refl w) Den.bl⟩
  · cases h
end

/-! ### displays -/
def toT (f : SA) : SE := fun r st => (f r st).bind fun z => if z.1.length ≤ sizeLine then some (.tup z.1, z.2) else none
def small (f : SA) : SA := fun r st => (f r st).bind fun z => if z.1.length ≤ sizeLine then some z else none
section
variable {T : List (Addr × Str)} {K : PySem.W.Frag}
theorem sim_lstV {t : TA} {f : SA} (hf : SimA T t f) : SimE T (tLst t) (toV (small f)) := by
  intro Z L st H s r d st' Q w e h q
  obtain ⟨⟨zs, st1⟩, h1, h2⟩ := bind_some' h
  cases h2
  obtain ⟨⟨ys, st2⟩, h3, h4⟩ := bind_some' h1
  split at h4
  · rename_i hz
    cases h4
    refine hf Z L st H s r _ _ _ w e h3 fun vs H1 L1 f1 p1 => ⟨by rw [← p1.len]; exact hz, fun p np => ?_⟩
    exact q _ _ L1 (f1.trans (.new f1.wd np)) (.newL f1.wd np p1)
  · cases h4
theorem sim_lstR {t : TA} {f : SA} (hf : SimA T t f) : SimE T (tLst t) (toR (small f)) := by
  intro Z L st H s r d st' Q w e h q
  obtain ⟨⟨zs, st1⟩, h1, h2⟩ := bind_some' h
  cases h2
  obtain ⟨⟨ys, st2⟩, h3, h4⟩ := bind_some' h1
  split at h4
  · rename_i hz
    cases h4
    refine hf Z L st H s r _ _ _ w e h3 fun vs H1 L1 f1 p1 => ⟨by rw [← p1.len]; exact hz, fun p np => ?_⟩
    refine q _ _ (L1 ++ [p]) (f1.trans (.newR f1.wd np ⟨vs, rfl, p1⟩)) ?_
    unfold Den
    exact ⟨p, by rw [← f1.wd.len]; simp, rfl⟩
  · cases h4
theorem sim_tup {t : TA} {f : SA} (hf : SimA T t f) : SimE T (tTup t) (toT f) := by
  intro Z L st H s r d st' Q w e h q
  obtain ⟨⟨zs, st1⟩, h1, h4⟩ := bind_some' h
  split at h4
  · rename_i hz
    cases h4
    refine hf Z L st H s r _ _ _ w e h1 fun vs H1 L1 f1 p1 => ⟨by rw [← p1.len]; exact hz, fun p np => ?_⟩
    exact q _ _ L1 (f1.trans (.new f1.wd np)) (.newT f1.wd np p1)
  · cases h4
/-- {} -/
def eDR : SE := fun _ st => some (.ref st.length, st ++ [some (.dic [] [])])
theorem sim_dnewR : SimE T tDNewK eDR := by
  intro Z L st H s r d st' Q w e h q
  cases h
  intro p np
  refine q _ _ (L ++ [p]) (.newR w np ⟨[], rfl, rfl, .nil⟩) ?_
  unfold Den
  exact ⟨p, by rw [← w.len]; simp, rfl⟩
/-- d[k] = v of a live dict -/
def sDP (fd fk fv : SE) : SS := fun r st => (fv r st).bind fun x => (fd r x.2).bind fun y => (fk r y.2).bind fun z => match y.1 with
  | .ref i => (match z.2[i]? with
    | some (some (.dic ks ds)) => if ks.length < sizeLine then (keyD z.1).map fun k => .nx r (z.2.set i (some (.dic (pPut k x.1 ks ds).1 (pPut k x.1 ks ds).2))) else none
    | _ => none)
  | _ => none
theorem sim_dput {td ty tv : TE} {fd fk fv : SE} (hd : SimE T td fd) (hk : SimE T ty fk) (hv : SimE T tv fv) : SimS T (sDPut td ty tv) (sDP fd fk fv) := by
  intro Z L st H s r o D w e h q
  obtain ⟨⟨dv, st1⟩, h1, h⟩ := bind_some' h
  obtain ⟨⟨dd, st2⟩, h2, h⟩ := bind_some' h
  obtain ⟨⟨dk, st3⟩, h3, h⟩ := bind_some' h
  refine hv Z L st H s r dv st1 _ w e h1 fun v H1 L1 f1 p1 => ?_
  refine hd Z L1 st1 H1 s r dd st2 _ f1.wd (e.keep f1) h2 fun x H2 L2 f2 p2 => ?_
  refine hk Z L2 st2 H2 s r dk st3 _ f2.wd ((e.keep f1).keep f2) h3 fun y H3 L3 f3 p3 => ?_
  cases dd with
  | ref i =>
    dsimp only at h
    split at h
    · rename_i ks ds hi
      split at h
      · rename_i hz
        obtain ⟨k, e1, e2⟩ := Option.map_eq_some_iff.mp h
        cases e2
        have p2' := p2.keep f3
        unfold Den at p2'
        obtain ⟨a, ia, rfl⟩ := p2'
        obtain ⟨nz, oo, eo, vs, rfl, el, t⟩ := f3.wd.own i a _ ia hi
        have ek := keyD_ok p3 e1
        have pv := (p1.keep f2).keep f3
        refine ⟨a, _, rfl, .inl ⟨ks.zip vs, k, eo, ek, by rw [List.length_zip]; omega, rfl⟩, ?_⟩
        have dl : ds.length = vs.length := t.len
        have af := Afz.wr (o := .dK (putK (ks.zip vs) k v)) (d' := .dic (pPut k dv ks ds).1 (pPut k dv ks ds).2) f3.wd ia hi ⟨(pPut k v ks vs).2, by
          rw [pPut_zip k v el, pPut_keys k v dv ks vs ds], by
          rw [pPut_keys k dv v ks ds vs]; exact pPut_len k v el, Dens.pPut pv k t⟩
        exact q s _ L3 (f1.trans (f2.trans (f3.trans af))) ((((e.keep f1).keep f2).keep f3).keep af)
      · cases h
    · cases h
  | _ => cases h
end

/-! ### methods -/
def eM (ok : Sto → Dt → Bool) (g : Sto → Dt → List Dt → Option (Dt × Sto)) (fo : SE) (fa : SA) : SE := fun r st => (fo r st).bind fun x => if ok x.2 x.1 = true then (fa r x.2).bind fun y => g y.2 x.1 y.1 else none
def isS (_ : Sto) : Dt → Bool
  | .str _ => true
  | _ => false
def isL (st : Sto) (d : Dt) : Bool := (asL st d).isSome
section
variable {T : List (Addr × Str)} {K : PySem.W.Frag}
theorem sim_bmS {r : V → List V → Hp → VK → Prop} {to : TE} {t : TA} {fo : SE} {fa : SA} {g : Sto → Dt → List Dt → Option (Dt × Sto)} (ho : SimE T to fo) (ha : SimA T t fa) (hg : VOM T r g) : SimE T (tBM K "str" r to t) (eM isS g fo fa) := by
  intro Z L st H s rr d st' Q w e h q
  obtain ⟨⟨dx, st1⟩, h1, h⟩ := bind_some' h
  split at h
  case isFalse => cases h
  case isTrue hs =>
  obtain ⟨⟨dy, st2⟩, h2, h⟩ := bind_some' h
  refine ho Z L st H s rr dx st1 _ w e h1 fun x H1 L1 f1 p1 => ⟨?_, ?_⟩
  · cases dx with
    | str z => rw [den_str p1]; rfl
    | _ => cases hs
  refine ha Z L1 st1 H1 s rr dy st2 _ f1.wd (e.keep f1) h2 fun ys H2 L2 f2 p2 => ?_
  exact hg Z L2 st2 H2 x ys dx dy d st' Q f2.wd (p1.keep f2) p2 h fun v H3 L3 f3 p3 => q v H3 L3 (f1.trans (f2.trans f3)) p3
theorem sim_bmL {r : V → List V → Hp → VK → Prop} {to : TE} {t : TA} {fo : SE} {fa : SA} {g : Sto → Dt → List Dt → Option (Dt × Sto)} (ho : SimE T to fo) (ha : SimA T t fa) (hg : VOM T r g) : SimE T (tBM K "list" r to t) (eM isL g fo fa) := by
  intro Z L st H s rr d st' Q w e h q
  obtain ⟨⟨dx, st1⟩, h1, h⟩ := bind_some' h
  split at h
  case isFalse => cases h
  case isTrue hs =>
  obtain ⟨⟨dy, st2⟩, h2, h⟩ := bind_some' h
  refine ho Z L st H s rr dx st1 _ w e h1 fun x H1 L1 f1 p1 => ⟨?_, ?_⟩
  · obtain ⟨ds, hd⟩ := Option.isSome_iff_exists.mp hs
    obtain ⟨a, vs, rfl, ea, t⟩ := asL_ok f1.wd p1 hd
    exact .inl ⟨rfl, vs, SqL.of ea⟩
  refine ha Z L1 st1 H1 s rr dy st2 _ f1.wd (e.keep f1) h2 fun ys H2 L2 f2 p2 => ?_
  exact hg Z L2 st2 H2 x ys dx dy d st' Q f2.wd (p1.keep f2) p2 h fun v H3 L3 f3 p3 => q v H3 L3 (f1.trans (f2.trans f3)) p3
/-- xs.append(y) of a live list -/
def gApp (st : Sto) (x : Dt) (ys : List Dt) : Option (Dt × Sto) := match x, ys with
  | .ref k, [y] => (match st[k]? with
    | some (some (.lst ds)) => if ds.length < sizeLine then some (.non, st.set k (some (.lst (ds ++ [y])))) else none
    | _ => none)
  | _, _ => none
theorem vo_append : VOM T rAppend gApp := by
  intro Z L st H x xs dx dxs d st' Q w hx hxs h q
  unfold gApp at h
  split at h
  · rename_i k y
    split at h
    · rename_i ds hk
      split at h
      · rename_i hz
        cases h
        obtain ⟨v, rfl, p⟩ := dens1 hxs
        unfold Den at hx
        obtain ⟨a, ka, rfl⟩ := hx
        obtain ⟨nz, o, eo, vs, rfl, t⟩ := w.own k a _ ka hk
        refine ⟨a, vs, v, rfl, rfl, eo, by rw [← t.len]; exact hz, ?_⟩
        exact q _ _ L (Afz.wr (o := .lst (vs ++ [v])) w ka hk ⟨vs ++ [v], rfl, t.append (.cons p .nil)⟩) Den.non
      · cases h
    · cases h
  · cases h
def gEnds (st : Sto) (x : Dt) (ys : List Dt) : Option (Dt × Sto) := match x, ys with
  | .str a, [.str b] => some (.bl (Txt.endswith a b), st)
  | _, _ => none
theorem vo_ends : VOM T (fun x xs H Q => ∃ a b, x = .str a ∧ xs = [.str b] ∧ Q (.bl (Txt.endswith a b)) H) gEnds := by
  intro Z L st H x xs dx dxs d st' Q w hx hxs h q
  unfold gEnds at h
  split at h
  · cases h
    obtain ⟨v, rfl, p⟩ := dens1 hxs
    exact ⟨_, _, den_str hx, by rw [den_str p], q _ H L (.refl w) Den.bl⟩
  · cases h
def strs' : List Dt → Option (List Str)
  | [] => some []
  | .str b :: ds => (strs' ds).map fun bs => b :: bs
  | _ => none
theorem strs_ok {L : List Addr} {B : Addr → Prop} {H : Hp} : ∀ {ds : List Dt} {vs : List V} {bs : List Str}, Dens L B H ds vs → strs' ds = some bs → vs = bs.map V.str
  | [], vs, bs, h, e => by
    cases e
    unfold Dens at h
    exact h
  | .str b :: ds, vs, bs, h, e => by
    obtain ⟨v, r, rfl, p, t⟩ := h.uncons
    unfold strs' at e
    obtain ⟨bs', e1, rfl⟩ := Option.map_eq_some_iff.mp e
    rw [den_str p, strs_ok t e1]
    rfl
  | .non :: _, _, _, _, e => by cases e
  | .int _ :: _, _, _, _, e => by cases e
  | .bl _ :: _, _, _, _, e => by cases e
  | .ref _ :: _, _, _, _, e => by cases e
  | .lst _ :: _, _, _, _, e => by cases e
  | .tup _ :: _, _, _, _, e => by cases e
  | .dic _ _ :: _, _, _, _, e => by cases e
theorem strs_map {α : Type} (f : α → Str) : ∀ l : List α, strs' (l.map fun a => .str (f a)) = some (l.map f)
  | [] => rfl
  | a :: l => by
    show (strs' (l.map fun a => .str (f a))).map _ = _
    rw [strs_map f l]
    rfl
def gJoin (st : Sto) (x : Dt) (y : Dt) : Option (Dt × Sto) := match x with
  | .str a => (asL st y).bind fun ds => (strs' ds).bind fun ys => if (ys.map (·.length)).sum + ys.length * a.length ≤ 16777216 then some (.str (Txt.join a ys), st) else none
  | _ => none
def eM1 (g : Sto → Dt → Dt → Option (Dt × Sto)) (fo fe : SE) : SE := fun r st => (fo r st).bind fun x => if isS x.2 x.1 = true then (fe r x.2).bind fun y => g y.2 x.1 y.1 else none
theorem sim_join {to te : TE} {fo fe : SE} (ho : SimE T to fo) (he : SimE T te fe) : SimE T (tM1 (fun x xs H Q => ∃ a p, ∃ ys : List Str, x = .str a ∧ xs = [.ref p] ∧ (SqL K H p (ys.map V.str) ∨ SqT K H p (ys.map V.str)) ∧
    (ys.map (·.length)).sum + ys.length * a.length ≤ 16777216 ∧ Q (.str (Txt.join a ys)) H) to te) (eM1 gJoin fo fe) := by
  intro Z L st H s rr d st' Q w e h q
  obtain ⟨⟨dx, st1⟩, h1, h⟩ := bind_some' h
  split at h
  case isFalse => cases h
  case isTrue hs =>
  obtain ⟨⟨dy, st2⟩, h2, h⟩ := bind_some' h
  refine ho Z L st H s rr dx st1 _ w e h1 fun x H1 L1 f1 p1 => ⟨?_, ?_⟩
  · cases dx with
    | str z => exact ⟨z, den_str p1⟩
    | _ => cases hs
  refine he Z L1 st1 H1 s rr dy st2 _ f1.wd (e.keep f1) h2 fun y H2 L2 f2 p2 => ?_
  dsimp only at h
  unfold gJoin at h
  split at h
  · obtain ⟨ds, e1, e2⟩ := bind_some' h
    obtain ⟨ys, e3, e4⟩ := bind_some' e2
    split at e4
    · rename_i hz
      cases e4
      obtain ⟨p, vs, rfl, ep, t⟩ := asL_ok f2.wd p2 e1
      rw [strs_ok t e3] at ep
      exact ⟨_, p, ys, den_str p1, rfl, .inl (SqL.of ep), hz, q _ H2 L2 (f1.trans f2) Den.str⟩
    · cases e4
  · cases h
end

/-! ### isinstance -/
def tyD (st : Sto) : Dt → Option String
  | .non => some "NoneType"
  | .bl _ => some "bool"
  | .int _ => some "int"
  | .str _ => some "str"
  | .lst _ => some "list"
  | .tup _ => some "tuple"
  | .dic _ _ => none
  | .ref k => (match st[k]? with
    | some (some (.lst _)) => some "list"
    | some (some (.dic _ _)) => some "dict"
    | _ => none)
def gIsi (c : String) (st : Sto) (xs : List Dt) : Option (Dt × Sto) := match xs with
  | [x] => (tyD st x).bind fun t => (kitB t c).map fun b => (.bl b, st)
  | _ => none
end HB

set_option Elab.async false
set_option linter.all false
set_option maxRecDepth 100000
set_option maxHeartbeats 1000000
/-! HB, part h: isinstance, what is walked, dict comprehensions, promises as calls. -/
namespace HB
open PySem PySem.Spec PyProof.Rows L2

section
variable {T : List (Addr × Str)} {K : PySem.W.Frag}
/-! ### isinstance -/
def tyD2 (st : Sto) : Dt → Option String
  | .dic _ _ => some "dict"
  | d => tyD st d
def gIs (c : String) (st : Sto) (xs : List Dt) : Option (Dt × Sto) := match xs with
  | [x] => (tyD2 st x).bind fun t => (kitB t c).map fun b => (.bl b, st)
  | _ => none
theorem tyD_ok {Z : Addr → Prop} {L : List Addr} {st : Sto} {H : Hp} {d : Dt} {v : V} {n : String} (w : Wd T Z L st H) (h : Den L (Bad Z L st) H d v) (e : tyD2 st d = some n) : TyX K H v (.type n) := by
  cases d with
  | non => cases e; rw [den_non h]; exact .base .non
  | bl b => cases e; rw [den_bl h]; exact .base (.bl b)
  | int b => cases e; rw [den_int h]; exact .base (.int b)
  | str b => cases e; rw [den_str h]; exact .base (.str b)
  | lst ds =>
    cases e
    unfold Den at h
    obtain ⟨a, vs, rfl, _, ea, _⟩ := h
    exact .base (.lst ea)
  | tup ds =>
    cases e
    unfold Den at h
    obtain ⟨a, vs, rfl, ea, _⟩ := h
    exact .base (.tup ea)
  | dic ks ds =>
    cases e
    unfold Den at h
    obtain ⟨a, vs, rfl, _, ea, _⟩ := h
    rcases ea with ea | ⟨o, ea⟩
    · exact .base (.dK ea)
    · exact .fDict ea
  | ref k =>
    unfold tyD2 tyD at e
    dsimp only at e
    unfold Den at h
    obtain ⟨a, ka, rfl⟩ := h
    split at e
    · rename_i hk
      cases e
      obtain ⟨_, o, eo, vs, rfl, _⟩ := w.own k a _ ka hk
      exact .base (.lst eo)
    · rename_i hk
      cases e
      obtain ⟨_, o, eo, vs, rfl, _⟩ := w.own k a _ ka hk
      exact .base (.dK eo)
    · cases e
theorem sim_isi {te : TE} {f : SE} {c : String} (hf : SimE T te f) : SimE T (tCB (rIsi K) (tCons te (tCons (tC (.ty c)) tNil))) (eN (gIs c) (aCons f aNil)) := by
  intro Z L st H s r d st' Q w e h q
  obtain ⟨⟨ds, st1⟩, h1, h⟩ := bind_some' h
  obtain ⟨⟨dx, st2⟩, h2, h3⟩ := bind_some' h1
  cases h3
  refine hf Z L st H s r dx _ _ w e h2 fun x H1 L1 f1 p1 => ?_
  dsimp only at h
  unfold gIs at h
  obtain ⟨t, e1, e2⟩ := bind_some' h
  obtain ⟨b, e3, e4⟩ := Option.map_eq_some_iff.mp e2
  cases e4
  exact ⟨x, .ty c, .type t, .type c, b, rfl, .ty c, tyD_ok f1.wd p1 e1, kit_ty e3, q _ H1 L1 f1 Den.bl⟩

/-! ### promises as calls -/
def gF (n : Nat) (F : List Dt → Sto → Option (Dt × Sto)) (st : Sto) (ds : List Dt) : Option (Dt × Sto) := if ds.length = n then F ds st else none
theorem sim_g {n : Nat} {F : List Dt → Sto → Option (Dt × Sto)} {t : TA} {f : SA} (hf : SimA T t f) : SimE T (tG n (SpF T n F) t) (eN (gF n F) f) := by
  intro Z L st H s r d st' Q w e h q
  obtain ⟨⟨ds, st1⟩, h1, h⟩ := bind_some' h
  refine hf Z L st H s r ds st1 _ w e h1 fun vs H1 L1 f1 p1 => ?_
  dsimp only at h
  unfold gF at h
  split at h
  · rename_i hl
    have hv : vs.length = n := by rw [← p1.len]; exact hl
    exact ⟨hv, Z, L1, st1, ds, d, st', hv, f1.wd, p1, h, fun v H2 L2 f2 p2 => q v H2 L2 (f1.trans f2) p2⟩
  · cases h
/-- by keywords: p tells which parameter each keyword names -/
def gFk (n : Nat) (p : List Nat) (F : List Dt → Sto → Option (Dt × Sto)) (st : Sto) (ds : List Dt) : Option (Dt × Sto) :=
  if ds.length = p.length ∧ p.length = n then F ((List.range n).map fun i => ds.getD (p.idxOf i) .non) st else none
theorem dens_getD {L : List Addr} {B : Addr → Prop} {H : Hp} {ds : List Dt} {vs : List V} (h : Dens L B H ds vs) (i : Nat) : Den L B H (ds.getD i .non) (vs.getD i .non) := by
  rw [List.getD_eq_getElem?_getD, List.getD_eq_getElem?_getD]
  cases e : ds[i]? with
  | none =>
    have : vs[i]? = none := by rw [List.getElem?_eq_none_iff] at e ⊢; rw [← h.len]; exact e
    rw [this]
    exact Den.non
  | some d =>
    obtain ⟨v, h1, h2⟩ := h.get e
    rw [h1]
    exact h2
theorem dens_mapR {L : List Addr} {B : Addr → Prop} {H : Hp} {f : Nat → Dt} {g : Nat → V} (h : ∀ i, Den L B H (f i) (g i)) : ∀ l : List Nat, Dens L B H (l.map f) (l.map g)
  | [] => .nil
  | i :: l => .cons (h i) (dens_mapR h l)
theorem sim_gk {n : Nat} {p : List Nat} {F : List Dt → Sto → Option (Dt × Sto)} {t : TA} {f : SA} (hf : SimA T t f) (hp : p.Perm (List.range n)) : SimE T (tGk n p (SpF T n F) t) (eN (gFk n p F) f) := by
  intro Z L st H s r d st' Q w e h q
  obtain ⟨⟨ds, st1⟩, h1, h⟩ := bind_some' h
  refine hf Z L st H s r ds st1 _ w e h1 fun vs H1 L1 f1 p1 => ?_
  dsimp only at h
  unfold gFk at h
  split at h
  · rename_i hl
    have hv : vs.length = p.length := by rw [← p1.len]; exact hl.1
    have nd : p.Nodup := hp.nodup_iff.mpr List.nodup_range
    refine ⟨(List.range n).map fun i => vs.getD (p.idxOf i) .non, by simp, ?_, Z, L1, st1, (List.range n).map fun i => ds.getD (p.idxOf i) .non, d, st', by simp, f1.wd, dens_mapR (fun i => dens_getD p1 _) _, h, fun v H2 L2 f2 p2 => q v H2 L2 (f1.trans f2) p2⟩
    apply List.ext_getElem
    · rw [List.length_map, hv]
    · intro j h1 h2
      rw [List.getElem_map]
      have hj : j < p.length := by rw [List.length_map] at h2; exact h2
      have hin : p[j] < n := by
        have : p[j] ∈ p := List.getElem_mem _
        have := hp.mem_iff.mp this
        simpa using this
      have hid : p.idxOf p[j] = j := by
        have := List.idxOf_lt_length_iff.mpr (List.getElem_mem (l := p) (n := j) hj)
        have e2 : p[p.idxOf p[j]] = p[j] := List.getElem_idxOf this
        exact nodupIx nd (List.getElem?_eq_some_iff.mpr ⟨this, e2⟩) (List.getElem?_eq_some_iff.mpr ⟨hj, rfl⟩)
      simp [List.getD_eq_getElem?_getD, hin, hid, h1]
  · cases h

/-! ### what is walked -/
def iE (g : Sto → Dt → Option (List Dt)) (f : SE) : SA := fun r st => (f r st).bind fun x => (g x.2 x.1).map fun xs => (xs, x.2)
/-- a list that is not live -/
def itL (_ : Sto) : Dt → Option (List Dt)
  | .lst ds => some ds
  | _ => none
theorem sim_iL {te : TE} {f : SE} (hf : SimE T te f) : SimI T (iList K te) (iE itL f) := by
  intro Z L st H s r xs st' Q w e h q
  obtain ⟨⟨dx, st1⟩, h1, h2⟩ := bind_some' h
  obtain ⟨ys, h3, h4⟩ := Option.map_eq_some_iff.mp h2
  cases h4
  refine hf Z L st H s r dx _ _ w e h1 fun x H1 L1 f1 p1 => ?_
  cases dx with
  | lst ds =>
    cases h3
    have p1' := p1
    unfold Den at p1'
    obtain ⟨a, vs, rfl, nb, ea, t⟩ := p1'
    refine ⟨a, rfl, ⟨vs, SqL.of ea⟩, q _ H1 L1 f1 fun Z2 L2 st2 H2 f2 => ?_⟩
    have ea2 : H2 a = some (.lst vs) := f2.kp a _ ea (fun z => nb (.inr z)) (fun ps z => by cases z)
    have t2 := t.keep f2
    refine ⟨⟨vs, SqL.of ea2, Nat.le_of_eq t.len.symm⟩, fun i d hd => ?_⟩
    obtain ⟨v, hv, pv⟩ := t2.get hd
    refine ⟨⟨vs, v, SqL.of ea2, hv⟩, fun x H3 y => ?_⟩
    obtain ⟨rfl, y⟩ := y
    have := y vs (SqL.of ea2)
    rw [hv] at this
    cases this
    exact ⟨.refl f2.wd, pv⟩
  | _ => cases h3
/-- a text, sign by sign -/
def itS (_ : Sto) : Dt → Option (List Dt)
  | .str z => some (z.cps.toList.map fun c => .str ⟨#[c]⟩)
  | _ => none
theorem sim_iS {te : TE} {f : SE} (hf : SimE T te f) : SimI T (iStr te) (iE itS f) := by
  intro Z L st H s r xs st' Q w e h q
  obtain ⟨⟨dx, st1⟩, h1, h2⟩ := bind_some' h
  obtain ⟨ys, h3, h4⟩ := Option.map_eq_some_iff.mp h2
  cases h4
  refine hf Z L st H s r dx _ _ w e h1 fun x H1 L1 f1 p1 => ?_
  cases dx with
  | str z =>
    cases h3
    refine ⟨z, den_str p1, q _ H1 L1 f1 fun Z2 L2 st2 H2 f2 => ⟨?_, fun i d hd => ?_⟩⟩
    · show z.cps.size ≤ _
      rw [List.length_map, Array.length_toList]
      exact Nat.le_refl _
    · rw [List.getElem?_map] at hd
      obtain ⟨c, hc, rfl⟩ := Option.map_eq_some_iff.mp hd
      have hc' : z.cps[i]? = some c := by rw [Array.getElem?_toList] at hc; exact hc
      refine ⟨(Array.getElem?_eq_some_iff.mp hc').1, fun x H3 y => ?_⟩
      obtain ⟨rfl, c', y1, rfl⟩ := y
      rw [hc'] at y1
      cases y1
      exact ⟨.refl f2.wd, Den.str⟩
  | _ => cases h3
/-- range(n), range(a, b) -/
def rngL (lo : Int) (n : Nat) : List Dt := (List.range n).map fun i => .int (lo + (i : Nat))
theorem walk_rng {Z : Addr → Prop} {L : List Addr} {st : Sto} {H : Hp} (lo : Int) (n : Nat) : WalkD T Z L st H (Itr lo n) (rngL lo n) := by
  intro Z2 L2 st2 H2 f2
  refine ⟨?_, fun i d hd => ?_⟩
  · show n ≤ (rngL lo n).length
    unfold rngL
    simp
  · unfold rngL at hd
    rw [List.getElem?_map] at hd
    obtain ⟨j, hj, rfl⟩ := Option.map_eq_some_iff.mp hd
    obtain ⟨h1, h2⟩ := List.getElem?_eq_some_iff.mp hj
    simp at h1 h2
    subst h2
    refine ⟨h1, fun x H3 y => ?_⟩
    obtain ⟨rfl, rfl⟩ := y
    exact ⟨.refl f2.wd, Den.int⟩
def iR (g : List Dt → Option (List Dt)) (f : SA) : SA := fun r st => (f r st).bind fun x => (g x.1).map fun xs => (xs, x.2)
def rg1 : List Dt → Option (List Dt)
  | [.int j] => if -(2 ^ 62) ≤ j ∧ j < 2 ^ 62 then some (rngL 0 j.toNat) else none
  | _ => none
def rg2 : List Dt → Option (List Dt)
  | [.int i, .int j] => if -(2 ^ 62) ≤ i ∧ i < 2 ^ 62 ∧ -(2 ^ 62) ≤ j ∧ j < 2 ^ 62 then some (rngL i (j - i).toNat) else none
  | _ => none
theorem sim_rg1 {ta : TA} {f : SA} (hf : SimA T ta f) : SimI T (iRng1 ta) (iR rg1 f) := by
  intro Z L st H s r xs st' Q w e h q
  obtain ⟨⟨ds, st1⟩, h1, h2⟩ := bind_some' h
  obtain ⟨ys, h3, h4⟩ := Option.map_eq_some_iff.mp h2
  cases h4
  refine hf Z L st H s r ds _ _ w e h1 fun vs H1 L1 f1 p1 => ?_
  dsimp only at h3
  unfold rg1 at h3
  split at h3
  · split at h3
    · rename_i j hz
      cases h3
      obtain ⟨v, rfl, p⟩ := dens1 p1
      exact ⟨j, by rw [den_int p], hz.1, hz.2, q _ H1 L1 f1 (walk_rng 0 _)⟩
    · cases h3
  · cases h3
theorem sim_rg2 {ta : TA} {f : SA} (hf : SimA T ta f) : SimI T (iRng2 ta) (iR rg2 f) := by
  intro Z L st H s r xs st' Q w e h q
  obtain ⟨⟨ds, st1⟩, h1, h2⟩ := bind_some' h
  obtain ⟨ys, h3, h4⟩ := Option.map_eq_some_iff.mp h2
  cases h4
  refine hf Z L st H s r ds _ _ w e h1 fun vs H1 L1 f1 p1 => ?_
  dsimp only at h3
  unfold rg2 at h3
  split at h3
  · split at h3
    · rename_i i j hz
      cases h3
      obtain ⟨v, u, rfl, p, p'⟩ := dens2 p1
      exact ⟨i, j, by rw [den_int p, den_int p'], ⟨hz.1, hz.2.1, hz.2.2.1, hz.2.2.2⟩, q _ H1 L1 f1 (walk_rng i _)⟩
    · cases h3
  · cases h3
/-- enumerate(list) -/
def enumL (ds : List Dt) : List Dt := ds.zipIdx.map fun x => .tup [.int (x.2 : Nat), x.1]
def en : List Dt → Option (List Dt)
  | [.lst ds] => some (enumL ds)
  | _ => none
theorem sim_enum {ta : TA} {f : SA} (hf : SimA T ta f) : SimI T (iEnum K ta) (iR en f) := by
  intro Z L st H s r xs st' Q w e h q
  obtain ⟨⟨dx, st1⟩, h1, h2⟩ := bind_some' h
  obtain ⟨ys, h3, h4⟩ := Option.map_eq_some_iff.mp h2
  cases h4
  refine hf Z L st H s r dx _ _ w e h1 fun vs0 H1 L1 f1 p1 => ?_
  dsimp only at h3
  unfold en at h3
  split at h3
  · rename_i ds
    cases h3
    obtain ⟨v, rfl, p⟩ := dens1 p1
    unfold Den at p
    obtain ⟨a, vs, rfl, nb, ea, t⟩ := p
    refine ⟨a, vs, rfl, SqL.of ea, q _ H1 L1 f1 fun Z2 L2 st2 H2 f2 => ?_⟩
    have ea2 : H2 a = some (.lst vs) := f2.kp a _ ea (fun z => nb (.inr z)) (fun ps z => by cases z)
    have t2 := t.keep f2
    have wk := walk_enum (K := K) (a := a) (xs := vs)
    refine ⟨?_, fun i d hd => ?_⟩
    · have : (enumL ds).length = vs.length := by unfold enumL; simp [t.len]
      rw [this]
      exact wk.stops H2 (SqL.of ea2)
    · unfold enumL at hd
      rw [List.getElem?_map] at hd
      obtain ⟨⟨d0, j⟩, hj, rfl⟩ := Option.map_eq_some_iff.mp hd
      rw [List.getElem?_zipIdx] at hj
      obtain ⟨d1, hd1, e1⟩ := Option.map_eq_some_iff.mp hj
      simp at e1
      obtain ⟨rfl, rfl⟩ := e1
      obtain ⟨v, hv, pv⟩ := t2.get hd1
      have hi : i < vs.length := (List.getElem?_eq_some_iff.mp hv).1
      refine ⟨wk.goes i H2 hi (SqL.of ea2), fun x H3 y => ?_⟩
      obtain ⟨TT, x1, y1, rfl, nT, rfl, hx1, hy1⟩ := wk.yields i H2 x H3 hi (SqL.of ea2) y
      simp at hx1
      have hy2 : vs[i]? = some y1 := hy1
      rw [hv] at hy2
      cases hy2
      subst hx1
      exact ⟨.new f2.wd nT, .newT f2.wd nT (.cons Den.int (.cons pv .nil))⟩
  · cases h3
end

/-! ### dict comprehensions -/
def dcGo (k : SG) (c : ST) (fk fv : SE) (r : Evr) : List Dt → Sto → List Key → List Dt → Option ((List Key × List Dt) × Sto)
  | [], st, ks, ds => some ((ks, ds), st)
  | x :: xs, st, ks, ds => (k x r).bind fun r1 => (c r1 st).bind fun b => if b.1 = true then (fk r1 b.2).bind fun y => (fv r1 y.2).bind fun z => (keyD y.1).bind fun kk =>
      if ks.length < sizeLine then dcGo k c fk fv r xs z.2 (pPut kk z.1 ks ds).1 (pPut kk z.1 ks ds).2 else none
    else dcGo k c fk fv r xs b.2 ks ds
def dc (fi : SA) (own : List Nat) (k : SG) (c : ST) (fk fv : SE) : Evr → Sto → Option ((List Key × List Dt) × Sto) := fun r st => (fi r st).bind fun xs => dcGo k c fk fv (wipeD r own) xs.1 xs.2 [] []
def dToV (f : Evr → Sto → Option ((List Key × List Dt) × Sto)) : SE := fun r st => (f r st).bind fun z => some (.dic z.1.1 z.1.2, z.2)
def dToR (f : Evr → Sto → Option ((List Key × List Dt) × Sto)) : SE := fun r st => (f r st).bind fun z => some (.ref z.2.length, z.2 ++ [some (.dic z.1.1 z.1.2)])
section
variable {T : List (Addr × Str)}
theorem dc_run {is own : List Nat} {wi : TI} {fi : SA} {g : TG} {k : SG} {tt : TT} {c : ST} {tk tv : TE} {fk fv : SE} (hi : SimI T wi fi) (hg : SimG T is g k) (hc : SimT T tt c) (hk : SimE T tk fk) (hv : SimE T tv fv) (hs : ∀ i ∈ is, i ∈ own)
    {Z : Addr → Prop} {L : List Addr} {st : Sto} {H : Hp} {s : L2.St} {r : Evr} {ks : List Key} {zs : List Dt} {st' : Sto} {Q : VK} (w : Wd T Z L st H) (e : EnvOk L (Bad Z L st) H r s) (h : dc fi own k c fk fv r st = some ((ks, zs), st'))
    (q : ∀ D vs H' L', Afz T Z L st H (zAnd Z D) L' st' H' → H D = none → H' D = some (.dK (ks.zip vs)) → ks.length = vs.length → Dens L' (Bad (zAnd Z D) L' st') H' zs vs → Q (.ref D) H') : tDc wi g tt tk tv own s H Q := by
  obtain ⟨⟨xs, st1⟩, a1, a2⟩ := bind_some' h
  refine hi Z L st H s r xs st1 _ w e a1 fun J H1 L1 f1 wk D nD => ?_
  have nD0 : H D = none := by
    cases qq : H D with
    | none => rfl
    | some o => exact absurd nD (f1.trk D (by rw [qq]; simp))
  have m1 : Afz T Z L1 st1 H1 (zAnd Z D) L1 st1 (upd H1 D (.dK [])) := Afz.mine f1.wd nD
  refine ⟨fun i m H2 => m = xs.length - i ∧ i ≤ xs.length ∧ ∃ L2 st2 kc acc vs, Afz T Z L1 st1 H1 (zAnd Z D) L2 st2 H2 ∧ H2 D = some (.dK (kc.zip vs)) ∧ kc.length = vs.length ∧ Dens L2 (Bad (zAnd Z D) L2 st2) H2 acc vs ∧ dcGo k c fk fv (wipeD r own) (xs.drop i) st2 kc acc = some ((ks, zs), st'),
    ⟨xs.length, by simp, Nat.zero_le _, L1, st1, [], [], [], m1, upd_same, rfl, .nil, a2⟩, ?_⟩
  rintro i m H2 ⟨rfl, hle, L2, st2, kc, acc, vs, f2, hD, hl, hacc, h2⟩
  obtain ⟨ws, wg⟩ := wk (zAnd Z D) L2 st2 H2 f2
  by_cases hlt : i < xs.length
  · right
    obtain ⟨go, yl⟩ := wg i xs[i] (List.getElem?_eq_getElem hlt)
    rw [List.drop_eq_getElem_cons hlt] at h2
    obtain ⟨r3, b1, b2⟩ := bind_some' h2
    obtain ⟨⟨b, st3⟩, b3, b4⟩ := bind_some' b2
    refine ⟨go, fun H5 => ∃ L5 st5 kc5 acc5 vs5, Afz T Z L1 st1 H1 (zAnd Z D) L5 st5 H5 ∧ H5 D = some (.dK (kc5.zip vs5)) ∧ kc5.length = vs5.length ∧ Dens L5 (Bad (zAnd Z D) L5 st5) H5 acc5 vs5 ∧ dcGo k c fk fv (wipeD r own) (xs.drop (i + 1)) st5 kc5 acc5 = some ((ks, zs), st'),
      fun H5 x => ⟨xs.length - (i + 1), by omega, rfl, hlt, x⟩, fun x H3 y => ?_⟩
    obtain ⟨f3, p3⟩ := yl x H3 y
    have e3 := (((e.keep f1).keep f2).keep f3).wipe own
    refine hg (zAnd Z D) L2 st2 H3 _ _ x _ r3 _ f3.wd e3 p3 b1 fun s4 e4 wp => ⟨?_, ?_⟩
    · rw [wp own hs, wipe_wipe]
    refine hc (zAnd Z D) L2 st2 H3 s4 r3 b st3 _ f3.wd e4 b3 fun H4 L4 f4 => ?_
    have keepD : ∀ {L' : List Addr} {st'' : Sto} {H' : Hp}, Afz T (zAnd Z D) L2 st2 H2 (zAnd Z D) L' st'' H' → H' D = some (.dK (kc.zip vs)) := fun ff => ff.kp D _ hD (fun z => by
      obtain ⟨j, d, j1, j2⟩ := z
      exact (f2.wd.own j D d j1 j2).1 (.inr rfl)) (fun ps z => by cases z)
    cases b with
    | false =>
      rw [if_neg (by simp)] at b4
      exact iteF ⟨L4, st3, kc, acc, vs, f2.trans (f3.trans f4), keepD (f3.trans f4), hl, (hacc.keep f3).keep f4, b4⟩
    | true =>
      rw [if_pos rfl] at b4
      obtain ⟨⟨dy, st5⟩, c1, c2⟩ := bind_some' b4
      obtain ⟨⟨dz, st6⟩, c3, c4⟩ := bind_some' c2
      obtain ⟨kk, c5, c6⟩ := bind_some' c4
      split at c6
      case isFalse => cases c6
      case isTrue hz =>
      refine iteT (hk (zAnd Z D) L4 st3 H4 s4 r3 dy st5 _ f4.wd (e4.keep f4) c1 fun y H5 L5 f5 p5 => ?_)
      refine hv (zAnd Z D) L5 st5 H5 s4 r3 dz st6 _ f5.wd ((e4.keep f4).keep f5) c3 fun z H6 L6 f6 p6 => ?_
      have fall := f3.trans (f4.trans (f5.trans f6))
      have hacc6 := (((hacc.keep f3).keep f4).keep f5).keep f6
      have zD : zAnd Z D D := .inr rfl
      have hD6 := keepD fall
      have tD6 : ∀ zs, H6 D ≠ some (.tup zs) := fun zs z => by rw [hD6] at z; cases z
      have wd7 : Wd T (zAnd Z D) L6 st6 (upd H6 D (.dK (putK (kc.zip vs) kk z))) := f6.wd.chg zD fun u eu => by rw [hD6] at eu; cases eu; exact .inr ⟨_, rfl⟩
      have fa := f2.trans fall
      have ek : y = kV kk := keyD_ok p5 c5
      refine ⟨kc.zip vs, kk, ek, hD6, by rw [List.length_zip]; omega, L6, st6, (pPut kk dz kc acc).1, (pPut kk dz kc acc).2, (pPut kk z kc vs).2, ⟨wd7, fa.pre, fun b u eb nl nt => ?_, fa.nw, fun b n z => ?_, fun b us eb => ?_, fa.fr, fa.zs⟩, ?_, ?_, (Dens.pPut p6 kk hacc6).chg (.inl zD) tD6, c6⟩
      · rw [upd_ne (ne_of_none eb nD)]; exact fa.kp b u eb nl nt
      · by_cases hb : b = D
        · rw [hb, upd_same] at z; cases z
        · rw [upd_ne hb] at z; exact fa.trk b n z
      · rw [upd_ne (ne_of_none eb nD)]; exact fa.tp b us eb
      · rw [upd_same, pPut_zip kk z hl, pPut_keys kk z dz kc vs acc]
      · rw [pPut_keys kk dz z kc acc vs]; exact pPut_len kk z hl
  · left
    have hx : i = xs.length := by omega
    subst hx
    rw [List.drop_length] at h2
    cases h2
    exact ⟨ws, q D vs H2 L2 (f1.trans f2) nD0 hD hl hacc⟩
theorem sim_dcV {is own : List Nat} {wi : TI} {fi : SA} {g : TG} {k : SG} {tt : TT} {c : ST} {tk tv : TE} {fk fv : SE} (hi : SimI T wi fi) (hg : SimG T is g k) (hc : SimT T tt c) (hk : SimE T tk fk) (hv : SimE T tv fv) (hs : ∀ i ∈ is, i ∈ own := by decide) : SimE T (tDc wi g tt tk tv own) (dToV (dc fi own k c fk fv)) := by
  intro Z L st H s r d st' Q w e h q
  obtain ⟨⟨⟨ks, zs⟩, st1⟩, a1, h⟩ := bind_some' h
  cases h
  refine dc_run hi hg hc hk hv hs w e a1 fun D vs H' L' ff nD hD hl hv => ?_
  refine q _ H' L' ff.back ?_
  unfold Den
  refine ⟨D, vs, rfl, fun z => ?_, .inl hD, hl, hv.mono bad_zAnd⟩
  rcases z with z | ⟨j, d, j1, j2⟩
  · exact w.zt D z nD
  · exact (ff.wd.own j D d j1 j2).1 (.inr rfl)
theorem sim_dcR {is own : List Nat} {wi : TI} {fi : SA} {g : TG} {k : SG} {tt : TT} {c : ST} {tk tv : TE} {fk fv : SE} (hi : SimI T wi fi) (hg : SimG T is g k) (hc : SimT T tt c) (hk : SimE T tk fk) (hv : SimE T tv fv) (hs : ∀ i ∈ is, i ∈ own := by decide) : SimE T (tDc wi g tt tk tv own) (dToR (dc fi own k c fk fv)) := by
  intro Z L st H s r d st' Q w e h q
  obtain ⟨⟨⟨ks, zs⟩, st1⟩, a1, h⟩ := bind_some' h
  cases h
  refine dc_run hi hg hc hk hv hs w e a1 fun D vs H' L' ff nD hD hl hv => ?_
  refine q _ H' (L' ++ [D]) (ff.claim w nD hD ⟨vs, rfl, hl, hv⟩) ?_
  unfold Den
  exact ⟨D, by rw [← ff.wd.len]; simp, rfl⟩
end
end HB

set_option Elab.async false
set_option linter.all false
set_option maxRecDepth 100000
set_option maxHeartbeats 1000000
/-! HB, part i: repr of nested data. -/
namespace HB
open PySem PySem.Spec PyProof.Rows L2

mutual
def repT : Dt → Str
  | .non => "None"
  | .bl b => if b then "True" else "False"
  | .int i => toString i
  | .str x => reprText x
  | .ref _ => ""
  | .lst ds => listText (repTs ds)
  | .tup ds => tupleText (repTs ds)
  | .dic ks ds => dictText (repKs ks ds)
def repTs : List Dt → List Str
  | [] => []
  | d :: ds => repT d :: repTs ds
def repKs : List Key → List Dt → List Str
  | k :: ks, d :: ds => ((match k with
    | .inl i => toString i
    | .inr x => reprText x) ++ ": " ++ repT d) :: repKs ks ds
  | _, [] => []
  | [], _ :: _ => []
end
mutual
def repOk : Dt → Bool
  | .int i => decide (i.natAbs.log2 < 1920)
  | .ref _ => false
  | .lst ds => repOks ds
  | .tup ds => repOks ds
  | .dic ks ds => ks.all (fun k => match k with
    | .inl i => decide (i.natAbs.log2 < 1920)
    | .inr _ => true) && repOks ds
  | _ => true
def repOks : List Dt → Bool
  | [] => true
  | d :: ds => repOk d && repOks ds
end
mutual
def depD : Dt → Nat
  | .lst ds => depDs ds + 1
  | .tup ds => depDs ds + 1
  | .dic _ ds => depDs ds + 1
  | _ => 0
def depDs : List Dt → Nat
  | [] => 0
  | d :: ds => max (depD d) (depDs ds)
end
/-- one object tells one data -/
theorem zip_inj {ks ls : List Key} {vs us : List V} (h1 : ks.length = vs.length) (h2 : ls.length = us.length) (e : ks.zip vs = ls.zip us) : ks = ls ∧ vs = us := by
  have a := congrArg List.unzip e
  rw [List.unzip_zip h1, List.unzip_zip h2] at a
  exact ⟨congrArg Prod.fst a, congrArg Prod.snd a⟩
theorem rd_one {H : Hp} {a : Addr} {u u' : HO} (nf : ∀ o x, u ≠ .frz o x) (nf' : ∀ o x, u' ≠ .frz o x) (h : Rd H a u) (h' : Rd H a u') : u = u' := by
  rcases h with h | ⟨o, h⟩ <;> rcases h' with h' | ⟨o', h'⟩ <;> rw [h] at h' <;> cases h'
  · rfl
  · exact absurd rfl (nf _ _)
  · exact absurd rfl (nf' _ _)
  · rfl
mutual
theorem Den.one {L L' : List Addr} {B B' : Addr → Prop} {H : Hp} : ∀ {d e : Dt} {v : V}, noRef d = true → noRef e = true → Den L B H d v → Den L' B' H e v → d = e
  | .non, e, v, n, m, h, g => by
    rw [den_non h] at g
    cases e <;> (unfold Den at g; first | rfl | (cases g; done) | (obtain ⟨_, _, g, _⟩ := g; cases g; done) | (unfold noRef at m; cases m))
  | .bl b, e, v, n, m, h, g => by
    rw [den_bl h] at g
    cases e <;> (unfold Den at g; first | (cases g; done) | (cases g; rfl) | (obtain ⟨_, _, g, _⟩ := g; cases g; done) | (unfold noRef at m; cases m))
  | .int b, e, v, n, m, h, g => by
    rw [den_int h] at g
    cases e <;> (unfold Den at g; first | (cases g; done) | (cases g; rfl) | (obtain ⟨_, _, g, _⟩ := g; cases g; done) | (unfold noRef at m; cases m))
  | .str b, e, v, n, m, h, g => by
    rw [den_str h] at g
    cases e <;> (unfold Den at g; first | (cases g; done) | (cases g; rfl) | (obtain ⟨_, _, g, _⟩ := g; cases g; done) | (unfold noRef at m; cases m))
  | .ref _, e, v, n, m, h, g => by unfold noRef at n; cases n
  | .lst ds, e, v, n, m, h, g => by
    unfold noRef at n
    unfold Den at h
    obtain ⟨a, vs, rfl, _, ea, t⟩ := h
    cases e with
    | lst es =>
      unfold noRef at m
      unfold Den at g
      obtain ⟨a', vs', e1, _, ea', t'⟩ := g
      cases e1
      rw [ea] at ea'; cases ea'
      rw [Dens.one n m t t']
    | tup es =>
      unfold Den at g
      obtain ⟨a', vs', e1, ea', _⟩ := g
      cases e1
      rw [ea] at ea'; cases ea'
    | dic ks es =>
      unfold Den at g
      obtain ⟨a', vs', e1, _, ea', _⟩ := g
      cases e1
      rcases ea' with ea' | ⟨o, ea'⟩ <;> rw [ea] at ea' <;> cases ea'
    | ref k => unfold noRef at m; cases m
    | _ => unfold Den at g; cases g
  | .tup ds, e, v, n, m, h, g => by
    unfold noRef at n
    unfold Den at h
    obtain ⟨a, vs, rfl, ea, t⟩ := h
    cases e with
    | tup es =>
      unfold noRef at m
      unfold Den at g
      obtain ⟨a', vs', e1, ea', t'⟩ := g
      cases e1
      rw [ea] at ea'; cases ea'
      rw [Dens.one n m t t']
    | lst es =>
      unfold Den at g
      obtain ⟨a', vs', e1, _, ea', _⟩ := g
      cases e1
      rw [ea] at ea'; cases ea'
    | dic ks es =>
      unfold Den at g
      obtain ⟨a', vs', e1, _, ea', _⟩ := g
      cases e1
      rcases ea' with ea' | ⟨o, ea'⟩ <;> rw [ea] at ea' <;> cases ea'
    | ref k => unfold noRef at m; cases m
    | _ => unfold Den at g; cases g
  | .dic ks ds, e, v, n, m, h, g => by
    unfold noRef at n
    unfold Den at h
    obtain ⟨a, vs, rfl, _, ea, el, t⟩ := h
    cases e with
    | dic ls es =>
      unfold noRef at m
      unfold Den at g
      obtain ⟨a', vs', e1, _, ea', el', t'⟩ := g
      cases e1
      have ez := rd_one (fun o x z => by cases z) (fun o x z => by cases z) ea ea'
      injection ez with ez
      obtain ⟨rfl, rfl⟩ := zip_inj el el' ez
      rw [Dens.one n m t t']
    | lst es =>
      unfold Den at g
      obtain ⟨a', vs', e1, _, ea', _⟩ := g
      cases e1
      rcases ea with ea | ⟨o, ea⟩ <;> rw [ea'] at ea <;> cases ea
    | tup es =>
      unfold Den at g
      obtain ⟨a', vs', e1, ea', _⟩ := g
      cases e1
      rcases ea with ea | ⟨o, ea⟩ <;> rw [ea'] at ea <;> cases ea
    | ref k => unfold noRef at m; cases m
    | _ => unfold Den at g; cases g
theorem Dens.one {L L' : List Addr} {B B' : Addr → Prop} {H : Hp} : ∀ {ds es : List Dt} {vs : List V}, noRefs ds = true → noRefs es = true → Dens L B H ds vs → Dens L' B' H es vs → ds = es
  | [], es, vs, n, m, h, g => by
    have h1 := h.len; have h2 := g.len
    rw [← h1] at h2
    exact (List.length_eq_zero_iff.mp h2).symm
  | d :: ds, [], vs, n, m, h, g => by
    have := h.len; have := g.len
    simp at *; omega
  | d :: ds, e :: es, vs, n, m, h, g => by
    unfold noRefs at n m
    rw [Bool.and_eq_true] at n m
    obtain ⟨v, r, rfl, p, t⟩ := h.uncons
    obtain ⟨v', r', e1, p', t'⟩ := g.uncons
    cases e1
    rw [Den.one n.1 m.1 p p', Dens.one n.2 m.2 t t']
end
section
variable {X : Cx} {pins : List (Addr × Obj)} {s1 : L2.St} {H : Hp} {s : Shared} {L : List Addr} {B : Addr → Prop}
/-- the addresses as are those of parts of some data of at most n in size -/
def PartsOf (L : List Addr) (B : Addr → Prop) (H : Hp) (n : Nat) (as : List Addr) : Prop := ∀ b ∈ as, ∃ d, sizeOf d ≤ n ∧ noRef d = true ∧ Den L B H d (.ref b)
theorem all_get {prog : Program} {w : World} {as : List Addr} {h0 : Heap} {n : Nat} : ∀ {l : List Value} {ts : List Str}, ReprAllK prog w as h0 n l ts → ∀ (i : Nat) (y : Value), l.toArray[i]? = some y → ∃ t, ts[i]? = some t ∧ ReprK prog w as h0 n y t
  | [], _, .nil, i, y, e => by simp at e
  | x :: l, t :: ts, .cons h r, 0, y, e => by
    simp at e; subst e
    exact ⟨t, rfl, h⟩
  | x :: l, t :: ts, .cons h r, i + 1, y, e => by
    obtain ⟨t', h1, h2⟩ := all_get r i y (by simpa using e)
    exact ⟨t', by simpa using h1, h2⟩
theorem all_more {prog : Program} {w : World} {as as' : List Addr} {h0 : Heap} {n : Nat} (hs : ∀ b ∈ as, b ∈ as') : ∀ {l : List Value} {ts : List Str}, ReprAllK prog w as h0 n l ts → ReprAllK prog w as' h0 n l ts
  | _, _, .nil => .nil
  | _, _, .cons h r => .cons (h.more hs) (all_more hs r)
theorem repTs_len : ∀ ds : List Dt, (repTs ds).length = ds.length
  | [] => rfl
  | d :: ds => by unfold repTs; simp [repTs_len ds]
def keyT : Key → Str
  | .inl i => toString i
  | .inr x => reprText x
def keyOk : Key → Bool
  | .inl i => decide (i.natAbs.log2 < 1920)
  | .inr _ => true
theorem app_len (x y : Str) : (x ++ y).length = x.length + y.length := strLen_append x y
theorem key_rep {prog : Program} {w : World} {as : List Addr} {h0 : Heap} {n : Nat} {k : Key} {u : Value} (h : (mixKind prog w).is k u = true) (ho : keyOk k = true) (hz : (keyT k).length ≤ sizeLine) : ReprK prog w as h0 n u (keyT k) := by
  rcases keyIs_shape h with ⟨i, t, rfl, rfl⟩ | ⟨x, t, rfl, rfl⟩
  · exact ReprK.of_is (ReprIs.int t (of_decide_eq_true ho)) _ _ _
  · exact ReprK.of_is (ReprIs.str x t hz) _ _ _
theorem entries_rep {prog : Program} {w : World} {as : List Addr} {h0 : Heap} {n : Nat} : ∀ {es : List DictEntry} {ws : List (Key × Value)} {ks : List Key} {ds : List Dt}, Pairs (mixKind prog w) es ws → ks = ws.map (·.1) → ReprAllK prog w as h0 n (ws.map (·.2)) (repTs ds) → ks.all keyOk = true → piled (repKs ks ds) ≤ sizeLine → ReprEntriesK prog w as h0 n es (repKs ks ds)
  | [], [], ks, ds, .nil, e, h, _, _ => by
    subst e
    cases ds with
    | nil => unfold repKs; exact .nil
    | cons d ds => unfold repKs; exact .nil
  | e :: es, kv :: ws, ks, ds, .cons h1 h2 r, ek, h, ho, hz => by
    subst ek
    cases ds with
    | nil => unfold repTs at h; cases h
    | cons d ds =>
      unfold repTs at h
      cases h with
      | cons a1 a2 =>
        rw [List.map_cons] at ho hz ⊢
        rw [List.all_cons, Bool.and_eq_true] at ho
        unfold repKs at hz ⊢
        rw [piled_cons] at hz
        have e1 : ((match kv.1 with
          | .inl i => toString i
          | .inr x => reprText x) : Str) = keyT kv.1 := by
          cases kv.1 <;> rfl
        rw [e1] at hz ⊢
        rw [app_len, app_len] at hz
        refine .cons (key_rep h1 ho.1 (by omega)) (by rw [h2]; exact a1) (entries_rep r rfl a2 ho.2 (by omega))
theorem piled_vals : ∀ (ks : List Key) (ds : List Dt), ks.length = ds.length → piled (repTs ds) ≤ piled (repKs ks ds)
  | [], [], _ => by unfold repTs repKs; exact Nat.le_refl _
  | [], _ :: _, h => by simp at h
  | _ :: _, [], h => by simp at h
  | k :: ks, d :: ds, h => by
    unfold repTs repKs
    rw [piled_cons, piled_cons, app_len, app_len]
    have := piled_vals ks ds (by simpa using h)
    omega
theorem kv_split : ∀ {ks : List Key} {vs : List V} {ws : List (Key × Value)}, ks.length = vs.length → KV (ks.zip vs) ws → ks = ws.map (·.1) ∧ Vals vs (ws.map (·.2))
  | [], [], _, _, h => by
    cases h
    exact ⟨rfl, .nil⟩
  | [], _ :: _, _, h, _ => by simp at h
  | _ :: _, [], _, h, _ => by simp at h
  | k :: ks, v :: vs, _, hl, h => by
    rw [List.zip_cons_cons] at h
    cases h with
    | cons a b =>
      obtain ⟨h1, h2⟩ := kv_split (by simpa using hl) b
      obtain ⟨h3, h4⟩ := a
      exact ⟨by rw [h1, List.map_cons, ← h3], .cons h4 h2⟩
mutual
theorem rep_ok (I : Inv X pins s1 H s) : ∀ (d : Dt) (v : V) (u : Value) (n : Nat), noRef d = true → repOk d = true → depD d ≤ n → (repT d).length ≤ sizeLine → Den L B H d v → RelV v u → ∃ as, ReprK X.prog X.w as s.heap n u (repT d) ∧ PartsOf L B H (sizeOf d) as
  | .non, v, u, n, hn, ho, hd, hz, q, r => by
    rw [den_non q] at r; cases r
    exact ⟨[], ReprK.of_is ReprIs.none _ _ _, fun b hb => by simp at hb⟩
  | .bl b, v, u, n, hn, ho, hd, hz, q, r => by
    rw [den_bl q] at r; cases r
    unfold repT
    have := ReprK.of_is (prog := X.prog) (w := X.w) (ReprIs.bool b) [] s.heap n
    refine ⟨[], ?_, fun b hb => by simp at hb⟩
    cases b <;> exact this
  | .int i, v, u, n, hn, ho, hd, hz, q, r => by
    rw [den_int q] at r; obtain ⟨t, rfl⟩ := r
    unfold repOk at ho
    unfold repT
    exact ⟨[], ReprK.of_is (ReprIs.int t (of_decide_eq_true ho)) _ _ _, fun b hb => by simp at hb⟩
  | .str x, v, u, n, hn, ho, hd, hz, q, r => by
    rw [den_str q] at r; obtain ⟨t, rfl⟩ := r
    unfold repT at hz ⊢
    exact ⟨[], ReprK.of_is (ReprIs.str x t hz) _ _ _, fun b hb => by simp at hb⟩
  | .ref _, v, u, n, hn, ho, hd, hz, q, r => by unfold noRef at hn; cases hn
  | .lst ds, v, u, n, hn, ho, hd, hz, q, r => by
    have q0 := q
    have hn0 := hn
    unfold noRef at hn
    unfold repOk at ho
    unfold depD at hd
    unfold repT at hz ⊢
    unfold Den at q
    obtain ⟨a, vs, rfl, nb, ea, t⟩ := q
    cases r
    obtain ⟨its, rv, ⟨o, k, h1, h2, h3, h4⟩, _⟩ := I.list (SqL.of (K := X.K) ea)
    obtain ⟨m, rfl⟩ : ∃ m, n = m + 1 := ⟨n - 1, by omega⟩
    have hp := piled_le_listText (repTs ds)
    obtain ⟨as, hR, hP⟩ := reps_ok I ds vs its m hn ho (by omega) (by omega) t rv
    cases its with
    | nil =>
      cases rv
      have e0 : ds = [] := List.length_eq_zero_iff.mp t.len
      subst e0
      exact ⟨[], ReprK.listEmpty h1 h2 h4, fun b hb => by simp at hb⟩
    | cons y l =>
      have na : a ∉ as := fun z => by
        obtain ⟨d', z1, z2, z3⟩ := hP a z
        have e := Den.one hn0 z2 q0 z3
        rw [← e] at z1
        simp at z1
        omega
      refine ⟨a :: as, ReprK.list h1 h2 h4 na ?_ (all_get hR), fun b hb => ?_⟩
      · rw [repTs_len, t.len, rv.length]; simp
      · rcases List.mem_cons.mp hb with rfl | hb
        · exact ⟨.lst ds, Nat.le_refl _, hn0, q0⟩
        · obtain ⟨d', z1, z2, z3⟩ := hP b hb
          exact ⟨d', by simp; omega, z2, z3⟩
  | .tup ds, v, u, n, hn, ho, hd, hz, q, r => by
    have q0 := q
    have hn0 := hn
    unfold noRef at hn
    unfold repOk at ho
    unfold depD at hd
    unfold repT at hz ⊢
    unfold Den at q
    obtain ⟨a, vs, rfl, ea, t⟩ := q
    cases r
    obtain ⟨its, rv, ⟨o, h1, h2, k, h4⟩, _⟩ := I.tuple (SqT.of (K := X.K) ea)
    obtain ⟨m, rfl⟩ : ∃ m, n = m + 1 := ⟨n - 1, by omega⟩
    have hp := piled_le_tupleText (repTs ds)
    obtain ⟨as, hR, hP⟩ := reps_ok I ds vs its m hn ho (by omega) (by omega) t rv
    have na : a ∉ as := fun z => by
      obtain ⟨d', z1, z2, z3⟩ := hP a z
      have e := Den.one hn0 z2 q0 z3
      rw [← e] at z1
      simp at z1
      omega
    refine ⟨a :: as, ReprK.tuple h1 h2 h4 na hR, fun b hb => ?_⟩
    rcases List.mem_cons.mp hb with rfl | hb
    · exact ⟨.tup ds, Nat.le_refl _, hn0, q0⟩
    · obtain ⟨d', z1, z2, z3⟩ := hP b hb
      exact ⟨d', by simp; omega, z2, z3⟩
  | .dic ks ds, v, u, n, hn, ho, hd, hz, q, r => by
    have q0 := q
    have hn0 := hn
    unfold noRef at hn
    unfold repOk at ho
    rw [Bool.and_eq_true] at ho
    unfold depD at hd
    unfold repT at hz ⊢
    unfold Den at q
    obtain ⟨a, vs, rfl, nb, ea, el, t⟩ := q
    cases r
    obtain ⟨_, hsys, ws, kv, o, es, ep, h1, h2, h3, h4, h5, h6⟩ := dk_rd I.hok ea
    obtain ⟨m, rfl⟩ : ∃ m, n = m + 1 := ⟨n - 1, by omega⟩
    have hp := piled_le_dictText (repKs ks ds)
    obtain ⟨ek, rv⟩ := kv_split el kv
    have hpv := piled_vals ks ds (by rw [el, t.len])
    obtain ⟨as, hR, hP⟩ := reps_ok I ds vs (ws.map (·.2)) m hn ho.2 (by omega) (by omega) t rv
    have na : a ∉ as := fun z => by
      obtain ⟨d', z1, z2, z3⟩ := hP a z
      have e := Den.one hn0 z2 q0 z3
      rw [← e] at z1
      simp at z1
      omega
    have hko : ks.all keyOk = true := by
      have h9 := ho.1
      rw [List.all_eq_true] at h9 ⊢
      intro k hk
      have := h9 k hk
      cases k <;> exact this
    refine ⟨a :: as, ReprK.dict h1 h2.1 h3 hsys na (entries_rep h5 ek hR hko (by omega)), fun b hb => ?_⟩
    rcases List.mem_cons.mp hb with rfl | hb
    · exact ⟨.dic ks ds, Nat.le_refl _, hn0, q0⟩
    · obtain ⟨d', z1, z2, z3⟩ := hP b hb
      exact ⟨d', by simp; omega, z2, z3⟩
theorem reps_ok (I : Inv X pins s1 H s) : ∀ (ds : List Dt) (vs : List V) (us : List Value) (n : Nat), noRefs ds = true → repOks ds = true → depDs ds ≤ n → piled (repTs ds) ≤ sizeLine → Dens L B H ds vs → Vals vs us → ∃ as, ReprAllK X.prog X.w as s.heap n us (repTs ds) ∧ PartsOf L B H (sizeOf ds) as
  | [], vs, us, n, hn, ho, hd, hz, q, r => by
    unfold Dens at q
    subst q
    cases r
    exact ⟨[], .nil, fun b hb => by simp at hb⟩
  | d :: ds, vs, us, n, hn, ho, hd, hz, q, r => by
    unfold noRefs at hn
    unfold repOks at ho
    rw [Bool.and_eq_true] at hn ho
    unfold depDs at hd
    unfold repTs at hz ⊢
    rw [piled_cons] at hz
    obtain ⟨v, w, rfl, p, t⟩ := q.uncons
    cases r with
    | cons r1 r2 =>
      obtain ⟨as, h1, h2⟩ := rep_ok I d v _ n hn.1 ho.1 (by omega) (by omega) p r1
      obtain ⟨bs, h3, h4⟩ := reps_ok I ds w _ n hn.2 ho.2 (by omega) (by omega) t r2
      refine ⟨as ++ bs, .cons (h1.more fun b hb => by simp [hb]) (all_more (fun b hb => by simp [hb]) h3), fun b hb => ?_⟩
      rcases List.mem_append.mp hb with hb | hb
      · obtain ⟨d', z1, z2, z3⟩ := h2 b hb
        exact ⟨d', by simp; omega, z2, z3⟩
      · obtain ⟨d', z1, z2, z3⟩ := h4 b hb
        exact ⟨d', by simp; omega, z2, z3⟩
end
def rRep : List V → Hp → VK → Prop := fun xs H Q => ∃ (L : List Addr) (B : Addr → Prop) (d : Dt) (v : V), xs = [v] ∧ noRef d = true ∧ repOk d = true ∧ depD d ≤ 32 ∧ (repT d).length ≤ sizeLine ∧ Den L B H d v ∧ Q (.str (repT d)) H
theorem call_rep (hg : X.A.guards = some []) (hu : X.A.units + 64 < cLine) : CallR X (.builtin "repr") rRep := by
  intro pins s s1 H xs us Q I r h
  obtain ⟨L, B, d, v, rfl, hn, ho, hd, hz, q, qq⟩ := h
  obtain ⟨u, rfl, ru⟩ := vals1 r
  have fin : ∀ (h' : Heap) (t : Tok) (tk : Nat), (∀ b o, s.heap.get? b = some o → h'.get? b = some o) → EP X pins s1 Q (.str (repT d) t) { s with heap := h', toks := tk } := fun h' t tk hk => ⟨.str _, H, I.kept hk, ⟨t, rfl⟩, qq⟩
  have kk : ∀ b o, s.heap.get? b = some o → s.heap.get? b = some o := fun _ _ e => e
  have cl : ∀ as : List Addr, ∀ b ∈ as, Clear [] b := fun as b _ => Clear.nil b
  cases d with
  | non =>
    rw [den_non q] at ru; cases ru
    exact PySem.P.repr_of_none ⟨.str _, H, I.tok _, ⟨_, rfl⟩, qq⟩
  | bl b =>
    rw [den_bl q] at ru; cases ru
    refine PySem.P.repr_of_bool ⟨.str _, H, I.tok _, ⟨_, rfl⟩, ?_⟩
    unfold repT at qq
    cases b <;> exact qq
  | int i =>
    rw [den_int q] at ru; obtain ⟨t, rfl⟩ := ru
    unfold repOk at ho
    unfold repT at qq
    exact PySem.P.repr_of_int (of_decide_eq_true ho) ⟨.str _, H, I.tok _, ⟨_, rfl⟩, qq⟩
  | str x =>
    rw [den_str q] at ru; obtain ⟨t, rfl⟩ := ru
    unfold repT at qq hz
    exact PySem.P.repr_of_str ⟨.str _, H, I.tok _, ⟨_, rfl⟩, qq⟩ hz
  | ref k => unfold noRef at hn; cases hn
  | lst ds =>
    have q0 := q
    have hn0 := hn
    unfold noRef at hn
    unfold repOk at ho
    unfold depD at hd
    unfold repT at hz fin
    unfold Den at q
    obtain ⟨a, vs, rfl, nb, ea, t⟩ := q
    cases ru
    obtain ⟨its, rv, ⟨o, k, h1, h2, h3, h4⟩, _⟩ := I.list (SqL.of (K := X.K) ea)
    have hp := piled_le_listText (repTs ds)
    obtain ⟨as, hR, hP⟩ := reps_ok I ds vs its 32 hn ho (by omega) (by omega) t rv
    have hTy : s.TypeIs (.ref a) "list" := ⟨o, h1, h2⟩
    refine Calls.call_function_entry PySem.F.kind_repr PySem.F.plain_repr PySem.F.entry_repr (PySem.F.args_repr1 _) ?_
    unfold Builtin.«repr»
    refine wpAny_bind (m := oneArg "repr" _) (wpAny_pure ?_)
    refine wpAny_bind (wpAny_cRoomFor (by show X.A.units + 1 < cLine; omega) ?_)
    refine wpAny_bind (wpAny_specialOf (name := Str.ofString "__repr__") hTy PySem.F.slot_list_repr.lookup ?_)
    cases its with
    | nil =>
      cases rv
      have e0 : ds = [] := List.length_eq_zero_iff.mp t.len
      subst e0
      refine wpAny_bind (m := callSpecialIfBound? (.ref a) (Str.ofString "__repr__")) (wpAny_callSpecialIfBound?_slot (name := Str.ofString "__repr__") hTy PySem.F.slot_list_repr (call_list_repr_empty hTy h1 h4 ?_))
      exact wpAny_bind (wpAny_isInstance (T := "str") (b := true) rfl isSubtype_str_str (wpAny_pure ⟨_, rfl, fin s.heap _ _ kk⟩))
    | cons y l =>
      have na : a ∉ as := fun z => by
        obtain ⟨d', z1, z2, z3⟩ := hP a z
        have e := Den.one hn0 z2 q0 z3
        rw [← e] at z1
        simp at z1
        omega
      refine wpAny_bind (m := callSpecialIfBound? (.ref a) (Str.ofString "__repr__")) (wpAny_callSpecialIfBound?_slot (name := Str.ofString "__repr__") hTy PySem.F.slot_list_repr
        (call_list_reprK h1 h2 h4 na (by rw [repTs_len, t.len, rv.length]; simp) (all_get hR) hg (cl _) (by show X.A.units + 1 + (32 + 1) < cLine; omega) kk (fun h' u tk hk => ?_) hz))
      exact wpAny_bind (wpAny_isInstance (T := "str") (b := true) rfl isSubtype_str_str (wpAny_pure ⟨_, rfl, fin h' _ _ hk⟩))
  | tup ds =>
    have q0 := q
    have hn0 := hn
    unfold noRef at hn
    unfold repOk at ho
    unfold depD at hd
    unfold repT at hz fin
    unfold Den at q
    obtain ⟨a, vs, rfl, ea, t⟩ := q
    cases ru
    obtain ⟨its, rv, ⟨o, h1, h2, k, h4⟩, _⟩ := I.tuple (SqT.of (K := X.K) ea)
    have hp := piled_le_tupleText (repTs ds)
    obtain ⟨as, hR, hP⟩ := reps_ok I ds vs its 32 hn ho (by omega) (by omega) t rv
    have na : a ∉ as := fun z => by
      obtain ⟨d', z1, z2, z3⟩ := hP a z
      have e := Den.one hn0 z2 q0 z3
      rw [← e] at z1
      simp at z1
      omega
    have hTy : s.TypeIs (.ref a) "tuple" := ⟨o, h1, h2⟩
    refine Calls.call_function_entry PySem.F.kind_repr PySem.F.plain_repr PySem.F.entry_repr (PySem.F.args_repr1 _) ?_
    unfold Builtin.«repr»
    refine wpAny_bind (m := oneArg "repr" _) (wpAny_pure ?_)
    refine wpAny_bind (wpAny_cRoomFor (by show X.A.units + 1 < cLine; omega) ?_)
    refine wpAny_bind (wpAny_specialOf (name := Str.ofString "__repr__") hTy PySem.F.slot_tuple_repr.lookup ?_)
    refine wpAny_bind (m := callSpecialIfBound? (.ref a) (Str.ofString "__repr__")) (wpAny_callSpecialIfBound?_slotG (name := Str.ofString "__repr__") hTy PySem.F.slot_tuple_repr
      (call_tuple_reprK h1 h2 h4 na hR hg (cl _) (by show X.A.units + 1 + (32 + 1) < cLine; omega) kk (fun h' u tk hk => ?_) hz))
    exact wpAny_bind (wpAny_isInstance (T := "str") (b := true) rfl isSubtype_str_str (wpAny_pure ⟨_, rfl, fin h' _ _ hk⟩))
  | dic ks ds =>
    have q0 := q
    have hn0 := hn
    unfold noRef at hn
    unfold repOk at ho
    rw [Bool.and_eq_true] at ho
    unfold depD at hd
    unfold repT at hz fin
    unfold Den at q
    obtain ⟨a, vs, rfl, nb, ea, el, t⟩ := q
    cases ru
    obtain ⟨_, hsys, ws, kv, o, es, ep, h1, h2, h3, h4, h5, h6⟩ := dk_rd I.hok ea
    have hp := piled_le_dictText (repKs ks ds)
    obtain ⟨ek, rv⟩ := kv_split el kv
    have hpv := piled_vals ks ds (by rw [el, t.len])
    obtain ⟨as, hR, hP⟩ := reps_ok I ds vs (ws.map (·.2)) 32 hn ho.2 (by omega) (by omega) t rv
    have na : a ∉ as := fun z => by
      obtain ⟨d', z1, z2, z3⟩ := hP a z
      have e := Den.one hn0 z2 q0 z3
      rw [← e] at z1
      simp at z1
      omega
    have hko : ks.all keyOk = true := by
      have h9 := ho.1
      rw [List.all_eq_true] at h9 ⊢
      intro k hk
      have := h9 k hk
      cases k <;> exact this
    have hTy : s.TypeIs (.ref a) "dict" := ⟨o, h1, h2.1⟩
    refine Calls.call_function_entry PySem.F.kind_repr PySem.F.plain_repr PySem.F.entry_repr (PySem.F.args_repr1 _) ?_
    unfold Builtin.«repr»
    refine wpAny_bind (m := oneArg "repr" _) (wpAny_pure ?_)
    refine wpAny_bind (wpAny_cRoomFor (by show X.A.units + 1 < cLine; omega) ?_)
    refine wpAny_bind (wpAny_specialOf (name := Str.ofString "__repr__") hTy PySem.F.slot_dict_repr.lookup ?_)
    refine wpAny_bind (m := callSpecialIfBound? (.ref a) (Str.ofString "__repr__")) (wpAny_callSpecialIfBound?_slotG (name := Str.ofString "__repr__") hTy PySem.F.slot_dict_repr
      (call_dict_reprK h1 h2.1 h3 hsys na (entries_rep h5 ek hR hko (by omega)) hg (cl _) (by show X.A.units + 1 + (32 + 1) < cLine; omega) kk (fun h' u tk hk => ?_) hz))
    exact wpAny_bind (wpAny_isInstance (T := "str") (b := true) rfl isSubtype_str_str (wpAny_pure ⟨_, rfl, fin h' _ _ hk⟩))
def gRep (st : Sto) (xs : List Dt) : Option (Dt × Sto) := match xs with
  | [x] => (deref st 8 x).bind fun d => if noRef d = true ∧ repOk d = true ∧ depD d ≤ 32 ∧ (repT d).length ≤ sizeLine then some (.str (repT d), st) else none
  | _ => none
theorem vo_rep {T : List (Addr × Str)} : VON T rRep gRep := by
  intro Z L st H xs dxs d st' Q w hx h q
  unfold gRep at h
  split at h
  · obtain ⟨v, rfl, p⟩ := dens1 hx
    obtain ⟨c, e1, e2⟩ := bind_some' h
    split at e2
    · rename_i hz
      cases e2
      exact ⟨[], Z, c, v, rfl, hz.1, hz.2.1, hz.2.2.1, hz.2.2.2, deref_ok w e1 (p.mono fun b z => .inl z), q _ H L (.refl w) Den.str⟩
    · cases e2
  · cases h
end
end HB

set_option Elab.async false
set_option linter.all false
set_option maxRecDepth 100000
set_option maxHeartbeats 1000000
/-! HB, part j: sets of texts, sorted. -/
namespace HB
open PySem PySem.Spec PyProof.Rows L2

/-! ### plain lists -/
theorem perm_of_sub {α : Type} [DecidableEq α] : ∀ (l m : List α), l.Nodup → (∀ x ∈ l, x ∈ m) → m.length = l.length → m.Perm l
  | [], m, _, _, hl => by rw [List.length_eq_zero_iff.mp hl]
  | x :: l, m, nd, hs, hl => by
    obtain ⟨nx, nd'⟩ := List.nodup_cons.mp nd
    have hx := hs x List.mem_cons_self
    have p := List.perm_cons_erase hx
    refine p.trans (.cons x (perm_of_sub l (m.erase x) nd' (fun y hy => ?_) ?_))
    · have ne : y ≠ x := fun z => nx (z ▸ hy)
      exact (List.mem_erase_of_ne ne).mpr (hs y (List.mem_cons_of_mem _ hy))
    · rw [List.length_erase_of_mem hx, hl]; simp
def strLe (a b : Str) : Bool := decide (a.cps.toList ≤ b.cps.toList)
def sortS (l : List Str) : List Str := l.mergeSort strLe
def insD (k : Str) (l : List Str) : List Str := if k ∈ l then l else k :: l
def dd : List Str → List Str
  | [] => []
  | x :: xs => insD x (dd xs)
theorem str_ext {a b : Str} (h : a.cps.toList = b.cps.toList) : a = b := by
  cases a; cases b
  simp at h
  rw [h]
theorem strLe_total (a b : Str) : (strLe a b || strLe b a) = true := by
  unfold strLe
  rcases List.le_total a.cps.toList b.cps.toList with h | h <;> simp [h]
theorem strLe_trans (a b c : Str) (h : strLe a b = true) (h' : strLe b c = true) : strLe a c = true := by
  unfold strLe at *
  rw [decide_eq_true_eq] at *
  exact List.le_trans h h'
theorem strLe_anti (a b : Str) (h : strLe a b = true) (h' : strLe b a = true) : a = b := by
  unfold strLe at *
  rw [decide_eq_true_eq] at *
  exact str_ext (List.le_antisymm h h')
theorem sortS_sorted (l : List Str) : (sortS l).Pairwise fun a b => strLe a b = true := List.pairwise_mergeSort strLe_trans strLe_total l
theorem sortS_perm (l : List Str) : (sortS l).Perm l := List.mergeSort_perm l _
theorem sortS_of_perm {l m : List Str} (h : l.Perm m) : sortS l = sortS m :=
  List.Perm.eq_of_pairwise (le := fun a b => strLe a b = true) (fun a b _ _ h1 h2 => strLe_anti a b h1 h2) (sortS_sorted l) (sortS_sorted m) ((sortS_perm l).trans (h.trans (sortS_perm m).symm))
theorem insD_mem {k x : Str} {l : List Str} : x ∈ insD k l ↔ x = k ∨ x ∈ l := by
  unfold insD
  split
  · rename_i h
    exact ⟨.inr, fun z => z.elim (fun e => e ▸ h) id⟩
  · exact List.mem_cons
theorem insD_nodup {k : Str} {l : List Str} (h : l.Nodup) : (insD k l).Nodup := by
  unfold insD
  split
  · exact h
  · rename_i n
    exact List.nodup_cons.mpr ⟨n, h⟩
theorem dd_mem {x : Str} : ∀ {l : List Str}, x ∈ dd l ↔ x ∈ l
  | [] => Iff.rfl
  | y :: l => by
    unfold dd
    rw [insD_mem, dd_mem (l := l), List.mem_cons]
theorem dd_nodup : ∀ l : List Str, (dd l).Nodup
  | [] => List.nodup_nil
  | y :: l => insD_nodup (dd_nodup l)
theorem insD_len (k : Str) (l : List Str) : (insD k l).length ≤ l.length + 1 := by
  unfold insD
  split
  · omega
  · simp
theorem dd_len : ∀ l : List Str, (dd l).length ≤ l.length
  | [] => Nat.le_refl _
  | y :: l => by
    have := dd_len l
    have := insD_len y (dd l)
    simp only [dd, List.length_cons]
    omega

/-! ### the set -/
def SSet (P : Program) (w : World) (h : Heap) (a : Addr) (l : List Str) : Prop := ∃ D : Froz.SD, h.get? a = some (Froz.sObj "set" D) ∧ Froz.TxOk P w D l ∧ l.Nodup ∧ Ris D.2.2.place.toList ∧ (w.params.followText "set-order" = true ∨ D.2.2.led = true)
theorem plain_off_ris {t : SetTable} (h : Ris t.place.toList) : Ris (if t.plain = true then { t with plain := false } else t).place.toList := by
  split <;> exact h
theorem plain_off_led {t : SetTable} : (if t.plain = true then { t with plain := false } else t).led = t.led := by
  split <;> rfl
theorem tail_ris (ep : Nat) (es : Array (Int × Value)) (t : SetTable) (b : Bool) (h : Ris t.place.toList) : Ris (Froz.tailTx ep es t b).2.2.place.toList := by
  unfold Froz.tailTx
  split
  · exact relayAll_ris _ _ _
  · exact h
theorem tail_led (ep : Nat) (es : Array (Int × Value)) (t : SetTable) (b : Bool) : (Froz.tailTx ep es t b).2.2.led = t.led := by
  unfold Froz.tailTx
  split
  · exact relayAll_led _ _ _
  · rfl
theorem addTx_ris (h : Int) (v : Value) (D : Froz.SD) (r : Ris D.2.2.place.toList) : Ris (Froz.addTx h v D).2.2.place.toList := by
  unfold Froz.addTx
  exact tail_ris _ _ _ _ (plain_off_ris (layNew_ris D.2.2 D.1 h v r))
theorem addTx_led (h : Int) (v : Value) (D : Froz.SD) : (Froz.addTx h v D).2.2.led = D.2.2.led := by
  unfold Froz.addTx
  rw [tail_led, plain_off_led, layNew_led]
section
variable {P : Program} {w : World} {A : Around} {E : Value → Shared → Prop} {s : Shared} {a : Addr} {l : List Str}
theorem SSet.at {h h' : Heap} (R : SSet P w h a l) (k : ∀ o, h.get? a = some o → h'.get? a = some o) : SSet P w h' a l := by
  obtain ⟨D, ho, r⟩ := R
  exact ⟨D, k _ ho, r⟩
theorem sset_add {k : Str} {u : Tok} {Q : Bool → Shared → Prop} (R : SSet P w s.heap a l) (room : l.length + 1 < scanBound)
    (hQ : ∀ b h', Heap.SameBut a s.heap h' → SSet P w h' a (insD k l) → Q b { s with heap := h' }) : wpAny (model P w) A (setAddHashed a (.str k u) (hashStr w k)) Q E s := by
  obtain ⟨D, ho, F, nd, r, hl⟩ := R
  by_cases hk : k ∈ l
  · have hi : insD k l = l := by unfold insD; rw [if_pos hk]
    have q := hQ false s.heap (Heap.SameBut.refl a s.heap) ⟨D, ho, by rw [hi]; exact F, by rw [hi]; exact nd, r, hl⟩
    obtain ⟨es, ep, t⟩ := D
    have hd : (Froz.sObj "set" (es, ep, t)).data = .set es ep t := rfl
    have hf : t.fits es.size = true := F.fit
    have hel : ElemsOf (strKind P w) es.toList := F.el
    have hz : es.size = l.length := F.sz
    unfold setAddHashed setAddHashedIn
    refine wpAny_holding (wpAny_bind (wpAny_setState_of ho hd hf ?_))
    dsimp only
    rw [byScan_of (x := Value.str k u) rfl (by omega) hel]
    simp only [↓reduceIte]
    unfold setAddByScan
    refine wpAny_bind ?_
    refine wpAny_bind (wpAny_rule ?_)
    refine wpAny_bind (wpAny_setScan_of (knd := strKind P w) (k := k) (Froz.is_str k u) ho hd hf hel ?_)
    cases hfi : List.findIdx? (fun e => (strKind P w).is k e.2) es.toList with
    | some j =>
      dsimp only
      exact wpAny_pure (wpAny_pure q)
    | none =>
      obtain ⟨e, he, z⟩ := (F.mem k).mp hk
      have c := List.findIdx?_eq_none_iff.mp hfi e he
      rw [z] at c
      cases c
  · have hi : insD k l = k :: l := by unfold insD; rw [if_neg hk]
    refine Froz.add_x ho F hk room ?_
    refine hQ true _ (Heap.SameBut.update _ _ _) ⟨_, Froz.get_upd _ ho rfl, by rw [hi]; exact Froz.add_ok u F, insD_nodup nd, addTx_ris _ _ _ r, hl.imp id fun z => by rw [addTx_led]; exact z⟩
/-- the members' texts -/
def txt (v : Value) : Str := match v with
  | .str k _ => k
  | _ => Str.empty
theorem isStr_of {k : Str} {v : Value} (h : Value.isStrOf k v = true) : ∃ k u, v = Value.str k u := by
  cases v with
  | str y t => exact ⟨y, t, rfl⟩
  | _ => simp [Value.isStrOf] at h
theorem isStr_txt {k : Str} {v : Value} (h : Value.isStrOf k v = true) : txt v = k := by
  cases v with
  | str y t => simp [Value.isStrOf] at h; exact h
  | _ => simp [Value.isStrOf] at h
theorem txOk_mem {D : Froz.SD} (F : Froz.TxOk P w D l) : ∀ v ∈ D.1.toList.map (·.2), ∃ k u, v = Value.str k u := fun v hv => by
  obtain ⟨e, he, rfl⟩ := List.mem_map.mp hv
  obtain ⟨⟨k, hk, _⟩, _⟩ := F.el e he
  exact isStr_of hk
theorem txOk_perm {D : Froz.SD} (F : Froz.TxOk P w D l) (nd : l.Nodup) : ((D.1.toList.map (·.2)).map txt).Perm l := by
  refine perm_of_sub l _ nd (fun x hx => ?_) ?_
  · obtain ⟨e, he, z⟩ := (F.mem x).mp hx
    refine List.mem_map.mpr ⟨e.2, List.mem_map.mpr ⟨e, he, rfl⟩, ?_⟩
    exact isStr_txt z
  · rw [List.length_map, List.length_map, Array.length_toList]; exact F.sz
/-! ### set(xs) -/
def setL (xs : List Str) : List Str := dd xs.reverse
theorem take_rev {xs : List Str} {i : Nat} {x : Str} (h : xs[i]? = some x) : setL (xs.take (i + 1)) = insD x (setL (xs.take i)) := by
  unfold setL
  rw [List.take_add_one, h, List.reverse_append]
  rfl
theorem setL_len (xs : List Str) : (setL xs).length ≤ xs.length := by
  have := dd_len xs.reverse
  rw [List.length_reverse] at this
  exact this
theorem setL_nodup (xs : List Str) : (setL xs).Nodup := dd_nodup _
theorem setL_mem {x : Str} {xs : List Str} : x ∈ setL xs ↔ x ∈ xs := by unfold setL; rw [dd_mem, List.mem_reverse]
theorem sset_new {h : Heap} {a : Addr} (ho : h.get? a = some { cls := .type "set", dict := none, data := .set #[] 0 (.fresh 0 0 (!w.params.followText "set-order")) }) : SSet P w h a [] := by
  refine ⟨(#[], 0, .fresh 0 0 (!w.params.followText "set-order")), ho, Froz.TxOk.nil rfl, List.nodup_nil, List.Pairwise.nil, ?_⟩
  cases w.params.followText "set-order"
  · exact .inr rfl
  · exact .inl rfl
theorem sset_loop {I : Addr} {fp wr : List Addr} {G : Array GenState → Array GenState → Prop} {n : Nat} {Pv : Nat → Value → Prop} {St : Nat → Shared → Prop} {R : Result → Shared → Prop} (W : WalksS P w A.in1 I fp wr G n Pv St) (C : Addr) (hC : C ∉ fp) (xs : List Str) (hz : xs.length = n) (room : n + 1 < scanBound)
    (hv : ∀ i v, Pv i v → ∃ x u, xs[i]? = some x ∧ v = .str x u) : ∀ (k i : Nat) (s : Shared), n - i = k → i ≤ n → St i s → SSet P w s.heap C (setL (xs.take i)) → (∀ s', Moved (C :: wr) G s s' → SSet P w s'.heap C (setL xs) → R (.ok (.ret .none)) s') →
      codeAny (model P w) A (.builtin "set.update.loop" ⟨[.ref C, .ref I], []⟩) R s := by
  have nw : C ∉ wr := fun h => hC (W.sub _ h)
  have sub : ∀ b ∈ wr, b ∈ C :: wr := fun b => List.mem_cons_of_mem _
  intro k
  induction k with
  | zero =>
    intro i s hk hi st R0 fin
    have e : i = n := by omega
    subst e
    rw [List.take_of_length_le (by omega)] at R0
    refine codeAny_builtin PyProof.Rows.F.entry_set_update_loop ?_
    rw [Around.under_plainId PyProof.Rows.F.plain_set_update_loop _]
    refine wpAny_bind (m := pyNext (.ref I)) (W.done s _ _ st fun s' mv => ?_)
    exact wpAny_pure (fin s' (mv.mono sub) (R0.at fun o eo => mv.heap C _ nw eo))
  | succ k ih =>
    intro i s hk hi st R0 fin
    have lt : i < n := by omega
    refine codeAny_builtin PyProof.Rows.F.entry_set_update_loop ?_
    rw [Around.under_plainId PyProof.Rows.F.plain_set_update_loop _]
    refine wpAny_bind (m := pyNext (.ref I)) (W.item i s _ _ lt st fun v s1 pv st1 mv => ?_)
    obtain ⟨x, u, hx, rfl⟩ := hv i v pv
    have R1 : SSet P w s1.heap C (setL (xs.take i)) := R0.at fun o eo => mv.heap C _ nw eo
    refine wpAny_bind (m := holding [Value.str x u] (setAdd C (.str x u))) (wpAny_holding ?_)
    unfold setAdd
    refine wpAny_holding (wpAny_bind ((strKind P w).pyHash (k := x) (Froz.is_str x u) ?_))
    have hroom : (setL (xs.take i)).length + 1 < scanBound := by
      have := setL_len (xs.take i)
      rw [List.length_take] at this
      omega
    refine sset_add (s := { s1 with toks := s1.toks + 1 }) R1 hroom fun b h' sb R2 => ?_
    rw [← take_rev hx] at R2
    refine wpAny_pure ⟨plainId_quiet PyProof.Rows.F.plain_set_update_loop _, ih (i + 1) _ (by omega) lt (W.frame _ s1 _ _ st1 (Nat.le_succ _) fun c hc o eo => ?_) R2 fun s3 mv3 R3 => ?_⟩
    · rw [sb.2 c fun z : c = C => hC (z ▸ hc)]; exact eo
    · refine fin s3 (Moved.trans W.gtrans ((mv.mono sub).then_heap (Nat.le_succ _) fun c o nc eo => ?_) mv3) R3
      rw [sb.2 c fun z : c = C => nc (z ▸ List.mem_cons_self)]; exact eo
theorem strs_get : ∀ {us : List Value} {xs : List Str}, StrsAre us xs → ∀ (i : Nat) (v : Value), us[i]? = some v → ∃ x u, xs[i]? = some x ∧ v = .str x u
  | _, _, .nil, i, v, h => by simp at h
  | _, _, .cons x t r, 0, v, h => by simp at h; exact ⟨x, t, rfl, h.symm⟩
  | _, _, .cons x t r, i + 1, v, h => by
    obtain ⟨y, u, h1, h2⟩ := strs_get r i v (by simpa using h)
    exact ⟨y, u, by simpa using h1, h2⟩
/-- the new set's object -/
abbrev nS (w : World) : Obj := { cls := .type "set", dict := none, data := .set #[] 0 (.fresh 0 0 (!w.params.followText "set-order")) }
set_option maxHeartbeats 3200000 in
theorem call_sset {p : Addr} {its : Array Value} {xs : List Str} {Q : Value → Shared → Prop} (hh : A.handled = none) (hp : s.heap.IsList p its) (hi : StrsAre its.toList xs) (hb : xs.length + 1 < scanBound)
    (h : ∀ (h' : Heap) (tk : Nat), SSet P w h' s.heap.objs.size (setL xs) → (∀ b o, s.heap.get? b = some o → h'.get? b = some o) → Q (.ref s.heap.objs.size) { s with heap := h', toks := tk }) : wpAny (model P w) A (call (.type "set") [.ref p]) Q E s := by
  have hz : xs.length = its.size := by rw [← StrsAre.len_eq hi, Array.length_toList]
  obtain ⟨c, tl, hmro⟩ := PySem.F.called_set.mro
  have g1 := PySem.F.called_set.made
  have g2 := PySem.F.called_set.sub
  refine wpAny_call (codeAny_of_tree ?_)
  show wpAny _ _ (callAny (.type "set") _) _ _ _
  refine wpAny_pure ⟨Code.quiet_builtin _ (by decide +kernel), codeAny_builtin PySem.F.entry_type_call ?_⟩
  rw [Around.under_plain (weight_type_call_type "set" [.ref p] []) rfl]
  have g3 := PySem.F.called_set.notType
  have g4 := PySem.F.called_set.canCreate
  have g5 := PySem.F.typeCall_set_1 (.ref p)
  repeat (any_goals (first | assumption | wp_step))
  refine codeAny_mono (L2.code_set_led1 (.ref p) (E := E) (Q₁ := fun obj s₁ => obj = .ref s.heap.objs.size ∧ s₁ = { s with heap := s.heap.push (nS w) }) ⟨rfl, rfl⟩) fun r s₁ hr => ?_
  match r, hr with
  | .error e, hr => exact hr
  | .ok .next, hr => exact hr.elim
  | .ok .brk, hr => exact hr.elim
  | .ok .cont, hr => exact hr.elim
  | .ok (.ret obj), hr =>
    obtain ⟨rfl, rfl⟩ := hr
    have hS : (s.heap.push (nS w)).get? s.heap.objs.size = some (nS w) := Heap.get?_push_size _ rfl
    have hT : Shared.TypeIs { s with heap := s.heap.push (nS w) } (.ref s.heap.objs.size) "set" := ⟨_, hS, rfl⟩
    have g6 := PySem.F.called_set.init.lookup
    have g7 := PySem.F.called_set.init.bind (.ref s.heap.objs.size)
    repeat (any_goals (first | assumption | wp_step))
    refine codeAny_mono (codeAny_call_builtin (R := wants (fun r s₂ => r = .none ∧ ∃ h' tk, s₂ = { s with heap := h', toks := tk } ∧ SSet P w h' s.heap.objs.size (setL xs) ∧ (∀ b o, s.heap.get? b = some o → h'.get? b = some o)) E) PySem.F.called_set.init.plain PySem.F.entry_set_init (check_set_init_1 hT ?_)) fun r₂ s₂ hr₂ => ?_
    · obtain ⟨o, ho, hc, nl, hd⟩ := hp
      obtain ⟨ocls, odict, odata, oslots⟩ := o
      simp only at hc hd
      subst hc; subst hd
      have ho1 : (s.heap.push (nS w)).get? p = some { cls := .type "list", dict := odict, data := .seq its nl, slots := oslots } := Heap.get?_push_of_some _ ho
      have g8 := PySem.F.sub_list_set
      have g9 := PySem.F.sub_list_frozenset
      have g10 : (Value.type "list" == Value.type "dict") = false := by decide
      have hl1 : (s.heap.push (nS w)).IsList p its := ⟨_, ho1, rfl, nl, rfl⟩
      unfold Builtin.«set.__init__» noKeywords Builtin.Frozenset.updateFrom
      generalize hPI : pyIter = PI
      wp_walk
      subst hPI
      refine wpAny_pyIter_list hl1 ?_
      refine wpAny_bind (wpAny_runValue ?_)
      have lp : p < s.heap.objs.size := Heap.lt_size ho
      have hh3 : A.in1.in1.in1.handled = none := by simp [hh]
      have z1 : (s.heap.push (nS w)).objs.size = s.heap.objs.size + 1 := Heap.size_push ..
      have n1 : p ≠ (s.heap.push (nS w)).objs.size := by rw [z1]; exact Nat.ne_of_lt (Nat.lt_succ_of_lt lp)
      have n2 : s.heap.objs.size ∉ [(s.heap.push (nS w)).objs.size, p] := by
        rw [z1]
        simp only [List.mem_cons, List.not_mem_nil, or_false, not_or]
        exact ⟨Nat.ne_of_lt (Nat.lt_succ_self _), Nat.ne_of_gt lp⟩
      refine sset_loop ((Walks.list hh3 _ p n1 its).toS) s.heap.objs.size n2 xs hz (by omega) (fun i v e => strs_get hi i v (by rw [Array.getElem?_toList]; exact e)) (its.size - 0) 0 _ (by omega) (Nat.zero_le _)
        ⟨⟨_, Heap.get?_push_size _ rfl, rfl, rfl⟩, (hl1.push _)⟩ (sset_new (Heap.get?_push_of_some _ hS)) fun s' mv R' => ?_
      obtain ⟨h', g2, d', tk', os'⟩ := s'
      have eg : g2 = s.gens := mv.gens
      have ed : d' = s.drawn := mv.drawn
      have eo : os' = s.os := mv.os
      subst eg; subst ed; subst eo
      refine wpAny_pure ?_
      show wpAny _ _ (ret Value.none) _ _ _
      refine wpAny_pure ⟨rfl, h', tk', rfl, R', fun b o e => ?_⟩
      have lb : b < s.heap.objs.size := Heap.lt_size e
      refine mv.heap b o ?_ (Heap.get?_push_of_some _ (Heap.get?_push_of_some _ e))
      simp only [List.mem_cons, List.not_mem_nil, or_false, not_or]
      rw [z1]
      exact ⟨Nat.ne_of_lt lb, Nat.ne_of_lt (Nat.lt_succ_of_lt lb)⟩
    · match r₂, hr₂ with
      | .error e, hr₂ => exact hr₂
      | .ok .next, hr₂ => exact hr₂.elim
      | .ok .brk, hr₂ => exact hr₂.elim
      | .ok .cont, hr₂ => exact hr₂.elim
      | .ok (.ret r), hr₂ =>
        obtain ⟨rfl, h', tk, rfl, R', k'⟩ := hr₂
        repeat (any_goals (first | assumption | wp_step))
        exact h _ _ R' k'
end
end HB

set_option Elab.async false
set_option linter.all false
set_option maxRecDepth 100000
set_option maxHeartbeats 1000000
/-! HB, part k: sorted(set(xs)), sorted(xs), sorted(d, key=lambda state: (len(state), state)). -/
namespace HB
open PySem PySem.Spec PyProof.Rows L2

/-! ### the lambda, called -/
abbrev lamP (p : Pos) : Arguments := { posonlyargs := [], args := [{ arg := "state", annotation := none, pos := p }], vararg := none, kwonlyargs := [], kw_defaults := [], kwarg := none, defaults := [] }
abbrev lamB (p1 p2 p3 p4 p5 : Pos) : Expr := .Tuple [.Call (.Name "len" p1) [.Name "state" p2] [] p3, .Name "state" p4] 0 p5
abbrev lamSc : Scope := { kind := .function, names := [("state", .local), ("len", .globalImplicit)], isGenerator := false, isCoroutine := false, more := [] }
section
variable {P : Program} {w : World} {A : Around} {s : Shared}
theorem lam_key {f c' : Addr} {q : Str} {pm ctv : Value} {x : Str} {u : Tok} {mg mb : Str → Option Value} {p0 p1 p2 p3 p4 p5 : Pos} (of : s.heap.get? f = some (PySem.W.kla_obj "<lambda>" q (lamP p0) (lamB p1 p2 p3 p4 p5) lamSc [] pm c' ctv)) (hcd : s.heap.CodeRec (.ref c') q)
    (hroom : A.depth < recursionLimit) (lim : s.heap.NoLimit) (hg : s.heap.Ns mainGlobals mg) (hm : mg "len" = none) (hb : s.heap.Ns builtinsNs mb) (hv : mb "len" = some (.builtin "len")) (hz : x.length ≤ sizeLine) :
    wpAny (model P w) A (call (.ref f) [.str x u]) (PySem.W.KeyPure (.tuple [.int x.length, .str x]) s) (fun _ _ => False) s := by
  refine wpAny_call (PySem.W.kla_callFunE hroom of rfl rfl rfl rfl hcd ?_)
  have hbind : bindArgs (PySem.W.kla_fn "<lambda>" q (lamP p0) (lamB p1 p2 p3 p4 p5) lamSc [] pm (.ref c') ctv) ⟨[.str x u], []⟩ = pure [(("state" : Str), Value.str x u)] := rfl
  rw [hbind]
  refine wpAny_pure (wpAny_newFunctionEnv (show ∀ x ∈ lamSc.names, x.2 ≠ .cell by decide) (fun y hy => by rw [List.mem_singleton.mp hy]; rfl) (fun h₁ hns hsb => ⟨lim.fresh _ hsb, ?_⟩) rfl)
  refine PySem.W.kla_codeExpr ?_
  have kp : ∀ b o, s.heap.get? b = some o → h₁.get? b = some o := fun b o e => hsb.extBut b o (Nat.ne_of_lt (Heap.lt_size e)) (Heap.get?_push_of_some _ e)
  have line := line63
  refine wpAny_Tuple_spliced (args_cons (Call_ (Calls.Name_function_global rfl rfl (Calls.loadGlobal_builtin (hg.keeps kp) hm (hb.keeps kp) hv ?_))))
  refine callWith_builtin1 (args_cons (wpAny_Name (wpAny_loadName_local rfl rfl hns rfl ?_) (by decide)))
  refine args_nil (len_str (by omega) ?_)
  refine args_cons (wpAny_Name (wpAny_loadName_local rfl rfl hns rfl ?_) (by decide))
  refine args_nil ⟨(show 2 ≤ sizeLine by decide), ?_⟩
  refine ⟨_, _, rfl, fun b o e => Heap.get?_push_of_some _ (kp b o e), ?_⟩
  exact .tuple (Heap.get?_push_size _ rfl) rfl rfl (.cons (.int _ _) (.cons (.str _ _) .nil))
end
/-! ### the lambda, made -/
section
variable {X : Cx} {pins : List (Addr × Obj)} {s1 : L2.St} {H : Hp} {s : Shared}
open LamX in
/-- the lambda is made; all but the tables stays, nothing is forgotten -/
theorem lam_new {T : List (Addr × Str)} {c R : Addr} {params : Arguments} {body : Expr} {pos : Pos} {E : Value → Shared → Prop} {Q : Value → Shared → Prop} (I : Inv X pins s1 H s) (TB : TabB X.base X.mg c R) (hc : X.env.code = .ref c)
    (hm : (R, X.env.qual ++ "<lambda>") ∈ T) (hu : ∀ p ∈ T, p.1 = R → p.2 = X.env.qual ++ "<lambda>") (hT : Tabs T H) (hdef : defaultsOf params X.env = ([], []))
    (h : ∀ (f c' : Addr) (pm ctv : Value) (H1 : Hp) (s' : Shared), Inv X pins s1 H1 s' → ExtN H H1 → (∀ b, H b ≠ none → H1 b ≠ none) → Tabs T H1 →
      s'.heap.get? f = some (PySem.W.kla_obj "<lambda>" (X.env.qual ++ "<lambda>") params body lamSc [] pm c' ctv) → s'.heap.CodeRec (.ref c') (X.env.qual ++ "<lambda>") → Q (.ref f) s') :
    wpAny (model X.prog X.w) X.A (eval (.Lambda params body lamSc pos) X.env) Q E s := by
  obtain ⟨ps, hP, ok, ha⟩ := hT _ hm
  refine PySem.W.kla_eval hdef ?_
  have hR : s.heap.get? R = some { cls := .none, data := .fields ps } := I.hok R _ hP
  have bR : s.heap.BuiltinsAt X.mg R := TB.bm.keeps I.bk
  have hclo : closureFor lamSc X.env = pure ([] : List (Str × Addr)) := rfl
  cases hca : codeAmong pos ps.toList with
  | some cv =>
    obtain ⟨c', rfl, hco⟩ := ha pos cv hca
    refine PySem.W.kla_makeFunctionHit (mg := X.mg) (c := c) (P := R) (ps := ps) hclo I.ok.glob (I.mod.glob.keeps I.bk) hc (TB.code.keeps I.bk) hR ok hca bR fun ctv h' tk hx hsz => ?_
    obtain ⟨⟨oc, vs, t, a1, a2, a3⟩, _, _⟩ := I.hok c' _ hco
    exact h _ c' _ ctv H _ (I.kept fun b o e => Heap.get?_push_of_some _ (hx b o e)) (ExtN.refl H) (fun _ z => z) hT (Heap.get?_push_size _ rfl) ⟨c', oc, vs, t, rfl, Heap.get?_push_of_some _ (hx _ _ a1), a2, a3⟩
  | none =>
    refine PySem.W.kla_makeFunction (mg := X.mg) (c := c) (P := R) (ps := ps) hclo I.ok.glob (I.mod.glob.keeps I.bk) hc (TB.code.keeps I.bk) hR ok hca TB.gP bR fun c' ctv h' tk hx hge hlt hrec htb => ?_
    obtain ⟨c2, oc, vs, t, e2, a1, a2, a3⟩ := hrec
    cases e2
    have nC : H c' = none := I.hok.fresh hge
    have I1 := inv_table (t' := tk) (more := #[rawInt pos.line, rawInt pos.col, .ref c']) (h' := h'.push (PySem.W.kla_obj "<lambda>" (X.env.qual ++ "<lambda>") params body lamSc [] ((X.mg "__name__").getD .none) c' ctv)) I hP
      (fun b o hb e => Heap.get?_push_of_some _ (hx b o hb e)) (Heap.get?_push_of_some _ htb) hge ⟨oc, vs, t, Heap.get?_push_of_some _ a1, a2, a3⟩
    have nR : R ≠ c' := ne_of_none hP nC
    have ex : ExtN H (upd (upd H R (.tbl (ps ++ #[rawInt pos.line, rawInt pos.col, .ref c']))) c' (CodeO c' (X.env.qual ++ "<lambda>"))) := fun b o e n => by
      have nb : b ≠ R := fun z => by rw [z, hP] at e; exact n ps (Option.some.inj e).symm
      rw [upd_ne (ne_of_none e nC), upd_ne nb]; exact e
    have app : (ps ++ #[rawInt pos.line, rawInt pos.col, .ref c']).toList = ps.toList ++ [rawInt pos.line, rawInt pos.col, .ref c'] := by simp
    refine h _ c' _ ctv _ _ I1 ex (fun b nb => ?_) (fun p hp => ?_) (Heap.get?_push_size _ rfl) ⟨c', oc, vs, t, rfl, Heap.get?_push_of_some _ a1, a2, a3⟩
    · by_cases z : b = c'
      · rw [z, upd_same]; simp
      · rw [upd_ne z]
        by_cases y : b = R
        · rw [y, upd_same]; simp
        · rw [upd_ne y]; exact nb
    · by_cases hb : p.1 = R
      · rw [hu p hp hb, hb]
        refine ⟨_, by rw [upd_ne nR, upd_same], by rw [app]; exact PySem.TriplesOk_snoc _ _ _ _ ok, fun p' cv hcv => ?_⟩
        rw [app] at hcv
        rcases among_app _ ok hcv with z | z
        · obtain ⟨c0, z1, z2⟩ := ha p' cv z
          exact ⟨c0, z1, ex _ _ z2 codeO_ne⟩
        · exact ⟨c', z, upd_same⟩
      · obtain ⟨qs, b1, b2, b3⟩ := hT p hp
        refine ⟨qs, by rw [upd_ne (ne_of_none b1 nC), upd_ne hb]; exact b1, b2, fun p' cv hcv => ?_⟩
        obtain ⟨c0, z1, z2⟩ := b3 p' cv hcv
        exact ⟨c0, z1, ex _ _ z2 codeO_ne⟩
end
end HB

set_option Elab.async false
set_option linter.all false
set_option maxRecDepth 100000
set_option maxHeartbeats 1000000
/-! HB, part l: sorted as rules. -/
namespace HB
open PySem PySem.Spec PyProof.Rows L2

def isS1 (v : Value) (x : Str) : Prop := ∃ u, v = Value.str x u
theorem each_strs : ∀ {vs : List Value} {xs : List Str}, StrsAre vs xs → PySem.W.EachIs isS1 vs xs
  | _, _, .nil => .nil
  | _, _, .cons x t r => .cons ⟨t, rfl⟩ (each_strs r)
theorem strs_each : ∀ {vs : List Value} {xs : List Str}, PySem.W.EachIs isS1 vs xs → StrsAre vs xs
  | _, _, .nil => .nil
  | _, _, .cons ⟨t, e⟩ r => by subst e; exact .cons _ t (strs_each r)
theorem vals_strs : ∀ {vs : List Value} {xs : List Str}, StrsAre vs xs → Vals (xs.map V.str) vs
  | _, _, .nil => .nil
  | _, _, .cons x t r => .cons ⟨t, rfl⟩ (vals_strs r)
theorem strs_reads {h : Heap} {a : Addr} : ∀ {vs : List Value} {xs : List Str}, StrsAre vs xs → PySem.W.EachIs (fun v b => ∃ as, Reads h v (.str b) as ∧ a ∉ as) vs xs
  | _, _, .nil => .nil
  | _, _, .cons x t r => .cons ⟨[], .str _ _, by simp⟩ (strs_reads r)
theorem all_strs : ∀ {vs : List Value}, (∀ v ∈ vs, ∃ k u, v = Value.str k u) → StrsAre vs (vs.map txt)
  | [], _ => .nil
  | v :: vs, h => by
    obtain ⟨k, u, rfl⟩ := h v List.mem_cons_self
    exact .cons k u (all_strs fun x hx => h x (List.mem_cons_of_mem _ hx))
section
variable {P : Program} {w : World} {A : Around} {E : Value → Shared → Prop} {s : Shared}
theorem sort_strs {a : Addr} {vs : List Value} {xs : List Str} {n : Nat} {Q : Value → Shared → Prop} (ho : s.heap.get? a = some (seqObj "list" vs.toArray n)) (hS : StrsAre vs xs) (hL : xs.length ≤ sizeLine) (hu : A.units + 2 < cLine)
    (h : ∀ out c h', StrsAre out (sortS xs) → h'.get? a = some (seqObj "list" (List.toArray out) c) → (∀ b o, b ≠ a → s.heap.get? b = some o → h'.get? b = some o) → Q .none { s with heap := h' }) : wpAny (model P w) A (call (.builtin "list.sort") [.ref a]) Q E s := by
  refine PySem.W.list_sort_data (enc := PyData.str) (R := isS1) ho (each_strs hS) (strs_reads hS) (PySem.W.AllAlike.of fun _ _ => by simp [PySem.W.alike]) (PySem.W.Sortable.others fun b => ⟨by simp, fun xs => by simp⟩) hL (fun b _ => ?_) fun out hl he => ?_
  · have : (PyData.str b).depth = 0 := by simp [PyData.depth]
    omega
  · have e : PySem.W.dataLe false PyData.str = strLe := PySem.W.dataLe_str (fun x : Str => x)
    rw [e] at he
    obtain ⟨c, hc⟩ := sortedHeap_at (vs := vs) (out := out.toArray) ho
    exact h out c _ (strs_each he) hc fun b o hb e => (sortedHeap_old hb (Heap.lt_size e)).trans e
end
section
variable {X : Cx}
/-- a set of texts, tracked -/
def SSO (P : Program) (w : World) (a : Addr) (l : List Str) : HO := .ext fun h => SSet P w h a l
theorem sso_new {w : World} {P : Program} {H : Hp} {h : Heap} {a : Addr} {l : List Str} (R : SSet P w h a l) : ObjOk P w H h a (SSO P w a l) := by
  have ⟨D, ho, _⟩ := R
  exact ⟨R, ⟨_, ho⟩, fun h1 h2 p k => SSet.at p k⟩
def rSetS (X : Cx) : List V → Hp → VK → Prop := fun xs H Q => ∃ (a : Addr) (ys : List Str), xs = [.ref a] ∧ SqL X.K H a (ys.map V.str) ∧ ys.length + 1 < scanBound ∧ ∀ p, H p = none → Q (.ref p) (upd H p (SSO X.prog X.w p (setL ys)))
theorem cr_setS (hc : X.calm = true) : CallR X (.type "set") (rSetS X) := by
  intro pins s s1 H xs us Q I r h
  obtain ⟨a, ys, rfl, hq, hb, q⟩ := h
  rw [Vals.ref1 r]
  obtain ⟨its, rv, pl, hz⟩ := I.list hq
  refine call_sset (I.ok.hd hc) pl.isList (by simpa using strsAre_of rv) hb fun h' tk R k => ?_
  exact ⟨.ref s.heap.objs.size, upd H s.heap.objs.size (SSO X.prog X.w s.heap.objs.size (setL ys)), I.laid (t' := tk) k (Nat.le_refl _) (sso_new R), rfl, q _ (I.hok.fresh (Nat.le_refl _))⟩
def rSortSS (X : Cx) : List V → Hp → VK → Prop := fun xs H Q => ∃ (a : Addr) (l : List Str), xs = [.ref a] ∧ H a = some (SSO X.prog X.w a l) ∧ l.length < scanBound ∧ ∀ p, H p = none → Q (.ref p) (upd H p (.lst ((sortS l).map V.str)))
theorem sortS_len (l : List Str) : (sortS l).length = l.length := (sortS_perm l).length_eq
theorem cr_sortSS (hc : X.calm = true) (hu : X.A.units + 64 < cLine) : CallR X (.builtin "sorted") (rSortSS X) := by
  intro pins s s1 H xs us Q I r h
  obtain ⟨a, l, rfl, ha, hb, q⟩ := h
  rw [Vals.ref1 r]
  obtain ⟨D, ho, F, nd, ris, hl⟩ := (I.hok a _ ha).1
  refine Calls.call_function_entry kind_sorted plain_sorted entry_sorted (args_sorted1 _) ?_
  unfold Builtin.«sorted»
  refine wpAny_bind (m := checkCount "sorted" 1 1 _) (wpAny_pure ?_)
  have hz : D.1.size = l.length := F.sz
  refine wpAny_bind (collect_set (A := X.A.in1) (es := D.1) (ep := D.2.1) (t := D.2.2) (I.ok.hd hc) ⟨_, ho, rfl, rfl⟩ F.fit (by omega) ris hl fun s2 vs k2 z2 g2 o2 pm => ?_)
  have hS : StrsAre vs (vs.map txt) := all_strs fun v hv => txOk_mem F v (pm.mem_iff.mp hv)
  have pk : (vs.map txt).Perm l := (pm.map txt).trans (txOk_perm F nd)
  have hlen : (vs.map txt).length = l.length := pk.length_eq
  have hsz : l.length ≤ sizeLine := by unfold scanBound at hb; rw [sizeLine_eq]; omega
  refine wpAny_bind (wpAny_newList ?_ (by rw [List.length_map] at hlen; omega))
  have hoL : (s2.heap.push (seqObj "list" vs.toArray 0)).get? s2.heap.objs.size = some (seqObj "list" vs.toArray 0) := Heap.get?_push_size _ rfl
  refine wpAny_bind (wpAny_holding (sort_strs (s := { s2 with heap := s2.heap.push (seqObj "list" vs.toArray 0) }) hoL hS (by omega) (by show X.A.units + 1 + 2 < cLine; omega) fun out c h' ho2 hc2 kp => ?_))
  rw [sortS_of_perm pk] at ho2
  refine wpAny_pure ⟨_, rfl, ?_⟩
  have hn : H s2.heap.objs.size = none := I.hok.fresh z2
  have k3 : ∀ b o, s.heap.get? b = some o → h'.get? b = some o := fun b o e => by
    have := k2 b o e
    exact kp b o (Nat.ne_of_lt (Heap.lt_size this)) (Heap.get?_push_of_some _ this)
  have J : Inv X pins s1 (upd H s2.heap.objs.size (.lst ((sortS l).map V.str))) { s with heap := h', gens := s2.gens, drawn := s2.drawn, toks := s2.toks } :=
    I.call (ch := []) (Un.laid k3 z2 hn) (I.hok.laid k3 z2 ⟨by rw [List.length_map, sortS_len]; exact hsz, out, c, vals_strs ho2, hc2⟩) (by rw [g2]; exact I.bare) (fun _ z => nomatch z)
  have e : { s2 with heap := h' } = { s with heap := h', gens := s2.gens, drawn := s2.drawn, toks := s2.toks } := by
    cases s2; cases s; cases o2; rfl
  show EP X pins s1 Q _ { s2 with heap := h' }
  rw [e]
  exact ⟨.ref _, _, J, rfl, q _ hn⟩
/-- sorted(xs), a list of texts -/
def rSortL (K : PySem.W.Frag) : List V → Hp → VK → Prop := fun xs H Q => ∃ (a : Addr) (ys : List Str), xs = [.ref a] ∧ SqL K H a (ys.map V.str) ∧ ∀ p, H p = none → Q (.ref p) (upd H p (.lst ((sortS ys).map V.str)))
theorem cr_sortL (hu : X.A.units + 64 < cLine) : CallR X (.builtin "sorted") (rSortL X.K) := by
  intro pins s s1 H xs us Q I r h
  obtain ⟨a, ys, rfl, hq, q⟩ := h
  rw [Vals.ref1 r]
  obtain ⟨its, rv, pl, hz⟩ := I.list hq
  have hS := strsAre_of rv
  have hl : its.length = ys.length := StrsAre.len_eq hS
  have hL : ys.length ≤ sizeLine := by
    rw [List.length_map] at hz
    exact hz
  refine PySem.W.sorted_data (enc := PyData.str) (R := isS1) pl.isList (each_strs hS) ((strs_reads (a := 0) hS).mono fun _ _ ⟨as, x, _⟩ => ⟨as, x⟩) (PySem.W.AllAlike.of fun _ _ => by simp [PySem.W.alike]) (PySem.W.Sortable.others fun b => ⟨by simp, fun xs => by simp⟩) hL (fun b _ => ?_) fun out ho he => ?_
  · have : (PyData.str b).depth = 0 := by simp [PyData.depth]
    omega
  · have e : PySem.W.dataLe false PyData.str = strLe := PySem.W.dataLe_str (fun x : Str => x)
    rw [e] at he
    obtain ⟨c, hc⟩ := sortedAll_at s.heap its out.toArray
    have hn : H (s.heap.objs.size + 1) = none := I.hok.fresh (Nat.le_succ _)
    exact ⟨.ref _, upd H (s.heap.objs.size + 1) (.lst ((sortS ys).map V.str)), I.laid (t' := s.toks) (fun _ _ => sortedAll_old) (Nat.le_succ _) ⟨by rw [List.length_map, sortS_len]; exact hL, out, c, vals_strs (strs_each he), hc⟩, rfl, q _ hn⟩
end
end HB

set_option Elab.async false
set_option linter.all false
set_option maxRecDepth 100000
set_option maxHeartbeats 1000000
/-! HB, part m: sorted(d, key=lambda state: (len(state), state)); sorted as plain functions. -/
namespace HB
open PySem PySem.Spec PyProof.Rows L2

def keyLe (a b : Str) : Bool := decide (a.length < b.length) || (decide (a.length = b.length) && strLe a b)
def sortK (l : List Str) : List Str := l.mergeSort keyLe
def keyT2 (x : Str) : PyData := .tuple [.int x.length, .str x]
theorem dataLe_key : PySem.W.dataLe false keyT2 = keyLe := by
  funext a b
  show (!PySem.W.dataLt (keyT2 b) (keyT2 a)) = _
  unfold keyT2
  rw [PySem.W.dataLt_pair (by simp [PySem.W.alike]) (by simp [PySem.W.alike]), PySem.W.dataLt_int, PySem.W.dataLt_str]
  simp only [PyData.eqv, beq_iff_eq]
  unfold keyLe strLe
  by_cases h1 : (b.length : Int) = (a.length : Int)
  · have h1' : a.length = b.length := by omega
    by_cases h2 : b = a
    · subst h2
      simp
    · rw [if_pos h1, if_neg h2, PySem.W.not_lt_str]
      simp [h1']
  · rw [if_neg h1]
    have h1' : ¬ a.length = b.length := by omega
    by_cases h2 : a.length < b.length
    · have : ¬ (b.length : Int) < (a.length : Int) := by omega
      simp [h2, this]
    · have : (b.length : Int) < (a.length : Int) := by omega
      simp [h1', h2, this]
theorem sortK_len (l : List Str) : (sortK l).length = l.length := (List.mergeSort_perm l _).length_eq
theorem strs_at2 : ∀ {vs : List Value} {xs : List Str}, vs.length = xs.length → (∀ (j : Nat) v, vs[j]? = some v → ∃ x u, xs[j]? = some x ∧ v = .str x u) → StrsAre vs xs
  | [], [], _, _ => .nil
  | v :: vs, x :: xs, hl, h => by
    obtain ⟨y, u, e1, e2⟩ := h 0 v rfl
    simp at e1
    subst e1; subst e2
    exact .cons _ u (strs_at2 (by simpa using hl) fun j v e => by simpa using h (j + 1) v (by simpa using e))
  | [], _ :: _, hl, _ => by simp at hl
  | _ :: _, [], hl, _ => by simp at hl
def tSortK (T : List (Addr × Str)) (ta : TE) : TE := fun s1 H Q => ta s1 H fun x H1 => LamX.Tabs T H1 ∧ ∀ H2, LamX.ExtN H1 H2 → (∀ b, H1 b ≠ none → H2 b ≠ none) → LamX.Tabs T H2 →
  ∃ (a : Addr) (kvs : List (Key × V)) (ks : List Str), x = .ref a ∧ Rd H2 a (.dK kvs) ∧ kvs.map (·.1) = ks.map Sum.inr ∧ (∀ k ∈ ks, k.length ≤ sizeLine) ∧ ∀ p, H2 p = none → Q (.ref p) (upd H2 p (.lst ((sortK ks).map V.str)))
section
variable {X : Cx} {a : Expr} {ta : TE}
theorem pe_sortK {T : List (Addr × Str)} {k : Nat} {c R : Addr} {p0 p1 p2 p3 p4 p5 p6 p7 p8 p9 : Pos} (TB : LamX.TabB X.base X.mg c R) (hcode : X.env.code = .ref c) (hmT : (R, X.env.qual ++ "<lambda>") ∈ T) (huT : ∀ p ∈ T, p.1 = R → p.2 = X.env.qual ++ "<lambda>")
    (hr : Room (k + 2) X.A) (hg : Gl X "sorted") (hm : X.mg "sorted" = none) (hml : X.mg "len" = none) (ha : PE X a ta) (hs : starEach [a] X.env = (false, eval a X.env) :: starEach [] X.env := by rfl) :
    PE X (.Call (.Name "sorted" p6) [a] [{ arg := some "key", value := .Lambda (lamP p0) (lamB p1 p2 p3 p4 p5) lamSc p7, pos := p8 }] p9) (tSortK T ta) := by
  refine ⟨fun pins s s1 H Q I h => ?_⟩
  refine wpAny_Call_Name_kw (ld_blt I hg hm boot_sorted ?_)
  refine callWith_kw (args_cons (thn (ha.run pins s s1 H _ I h) fun v s2 ⟨x, H1, I1, r1, hT, q⟩ => args_nil ?_) hs) (by rw [hs]; rfl) (by rw [hs]; rfl) rfl rfl
  show wpAny _ _ (evalAll ((do let v ← eval (.Lambda (lamP p0) (lamB p1 p2 p3 p4 p5) lamSc p7) X.env; standAt p9; pure v) :: [])) _ _ s2
  refine wpAny_evalAll_cons (wpAny_bind (lam_new I1 TB hcode hmT huT hT rfl fun f c' pm ctv H2 s3 I3 ex trk hT2 hf hcd => wpAny_bind (wpAny_standAt (wpAny_pure (wpAny_evalAll_nil ?_)))))
  obtain ⟨d, kvs, ks, rfl, hd, hks, hkz, q⟩ := q H2 ex trk hT2
  cases r1
  show wpAny _ _ (call (.builtin "sorted") [.ref d] [(Str.ofString "key", .ref f)]) _ _ s3
  obtain ⟨z, lo, vs, rel, dd⟩ := dk_rd I3.hok hd
  obtain ⟨ep, hat⟩ := dd.dictAt
  have hkeys : vs.map (·.1) = ks.map Sum.inr := rel.keys.symm.trans hks
  have hl : vs.length = ks.length := by simpa using congrArg List.length hkeys
  have hL : vs.length ≤ sizeLine := by rw [← rel.length]; exact z
  refine call_function_entry_kw kind_sorted plain_sorted entry_sorted (PyProof.Rows.ksk_s1 _ _) ?_
  unfold Builtin.«sorted»
  refine wpAny_bind (m := checkCount "sorted" 1 1 _) (wpAny_pure ?_)
  refine wpAny_bind (PySem.W.kdu_collect (A := X.A.in1) (PySem.W.kdl_dict (knd := mixKind X.prog X.w) (kvs := vs) (ep := ep) lo) hr.hd hat hL fun h' tk acc hk hacc => ?_)
  have hal : acc.toList.length = ks.length := by rw [Array.length_toList, hacc.1, hl]
  have hS : StrsAre acc.toList ks := strs_at2 hal fun j v e => by
    obtain ⟨k, x, e1, e2⟩ := hacc.2 j v (by rw [← Array.getElem?_toList]; exact e)
    have e3 : (vs.map (·.1))[j]? = some k := by rw [List.getElem?_map, e1]; rfl
    rw [hkeys, List.getElem?_map] at e3
    cases e4 : ks[j]? with
    | none => rw [e4] at e3; cases e3
    | some y =>
      rw [e4] at e3
      obtain rfl : Sum.inr y = k := Option.some.inj e3
      obtain ⟨t, ev⟩ := Value.isStrOf_shape (x := y) (v := v) e2
      exact ⟨y, t, rfl, ev⟩
  have I4 : Inv X pins s1 H2 { s3 with heap := h', toks := tk } := I3.kept hk
  refine wpAny_bind (wpAny_newList ?_ (by rw [hal, ← hl]; exact hL))
  have hoL : (h'.push (seqObj "list" acc.toList.toArray 0)).get? h'.objs.size = some (seqObj "list" acc.toList.toArray 0) := Heap.get?_push_size _ rfl
  obtain ⟨mb, hb1, hb2⟩ := I3.mod.blt
  have hun := hr.un
  have hdp := hr.dp
  refine wpAny_bind (wpAny_holding (PySem.W.list_sort_key_data (s := { s3 with heap := h'.push (seqObj "list" acc.toList.toArray 0), toks := tk }) (f := .ref f) (b := false) (R := isS1) keyT2 hoL (each_strs hS) (PySem.W.AllAlike.of fun _ _ => by simp [PySem.W.alike, PySem.W.alikeAll, keyT2]) (PySem.W.Sortable.tuples fun _ => ⟨_, _, rfl⟩) (by rw [← hl]; exact hL)
    (fun x _ => ?_) (PyProof.Rows.ksk_l1 _ _) (PyProof.Rows.ksk_t1 _ _) (fun v x hv hx g tk2 kb => ?_) fun out c' g tk2 kb hg2 hlo he => ?_))
  · have : (keyT2 x).depth = 1 := by simp [keyT2, PyData.depth, PyData.depthAll]
    show X.A.units + 1 + 1 + (keyT2 x).depth < cLine
    omega
  · obtain ⟨u, rfl⟩ := hv
    have kall : ∀ b o, s3.heap.get? b = some o → g.get? b = some o := fun b o e => by
      have := hk b o e
      exact kb b o (Nat.ne_of_lt (Heap.lt_size this)) (Heap.get?_push_of_some _ this)
    refine lam_key (s := { s3 with heap := g, toks := tk2 }) (mg := X.mg) (mb := mb) (kall _ _ hf) (hcd.keeps kall) ?_ (I3.nolimit.keeps kall) ((I3.mod.glob.keeps I3.bk).keeps kall) hml ((hb1.keeps I3.bk).keeps kall) ((hb2 _ (by decide)).trans boot_len) (hkz x hx)
    show X.A.depth < recursionLimit
    omega
  · rw [dataLe_key] at he
    have k5 : ∀ b o, h'.get? b = some o → g.get? b = some o := fun b o e => kb b o (Nat.ne_of_lt (Heap.lt_size e)) (Heap.get?_push_of_some _ e)
    have hn : H2 h'.objs.size = none := I4.hok.fresh (Nat.le_refl _)
    refine wpAny_pure ⟨_, rfl, .ref h'.objs.size, upd H2 h'.objs.size (.lst ((sortK ks).map V.str)), I4.laid (t' := tk2) k5 (Nat.le_refl _) ⟨?_, out, c', vals_strs (strs_each he), hg2⟩, rfl, q _ hn⟩
    rw [List.length_map, sortK_len, ← hl]; exact hL
end
end HB

set_option Elab.async false
set_option linter.all false
set_option maxRecDepth 100000
set_option maxHeartbeats 1000000
/-! HB, part n: subscripts as a rule, sorted as plain functions, the law's first statement. -/
namespace HB
open PySem PySem.Spec PyProof.Rows L2

theorem ix_dic {X : Cx} (hu : X.A.units + 64 < cLine) : IxR X rIxDic := by
  intro value slice pins s s1 H x y v u Q I rx ry h hs
  obtain ⟨a, z, rfl, g, q⟩ := h
  obtain rfl : v = Value.ref a := rx
  exact tail_any (dict_typeIs I g) PySem.F.slot_dict_getitem.lookup (d_getItem (by omega) I g ry fun w' s3 I3 rw' => ⟨z, H, I3, rw', q⟩) hs
theorem ix_A {X : Cx} (hu : X.A.units + 64 < cLine) : IxR X (rIxA X.K) := ix_seq.or (ix_dic hu)

section
variable {T : List (Addr × Str)} {K : PySem.W.Frag}
theorem dens_strs {L : List Addr} {B : Addr → Prop} {H : Hp} : ∀ xs : List Str, Dens L B H (xs.map Dt.str) (xs.map V.str)
  | [] => .nil
  | _ :: xs => .cons Den.str (dens_strs xs)
/-- sorted(set(xs)) -/
def gSS (st : Sto) (xs : List Dt) : Option (Dt × Sto) := match xs with
  | [x] => (asL st x).bind fun ds => (strs' ds).bind fun ys => if ys.length + 1 < scanBound then some (.lst ((sortS (setL ys)).map .str), st) else none
  | _ => none
theorem sim_ss {X : Cx} {te : TE} {f : SE} (hf : SimE T te f) : SimE T (tCB (rSortSS X) (tCons (tCB (rSetS X) (tCons te tNil)) tNil)) (eN gSS (aCons f aNil)) := by
  intro Z L st H s r d st' Q w e h q
  obtain ⟨⟨ds, st1⟩, h1, h⟩ := bind_some' h
  obtain ⟨⟨dx, st2⟩, h2, h3⟩ := bind_some' h1
  cases h3
  refine hf Z L st H s r dx _ _ w e h2 fun x H1 L1 f1 p1 => ?_
  dsimp only at h
  unfold gSS at h
  obtain ⟨es, e1, h⟩ := bind_some' h
  obtain ⟨ys, e2, h⟩ := bind_some' h
  split at h
  case isFalse => cases h
  case isTrue hb =>
  cases h
  obtain ⟨a, vs, rfl, ea, t⟩ := asL_ok f1.wd p1 e1
  have ev := strs_ok t e2
  subst ev
  refine ⟨a, ys, rfl, SqL.of ea, hb, fun p np => ?_⟩
  have n1 : Af T Z L1 _ H1 L1 _ (upd H1 p (SSO X.prog X.w p (setL ys))) := .new f1.wd np
  have hlen : (setL ys).length < scanBound := by have := setL_len ys; omega
  refine ⟨p, setL ys, rfl, upd_same, hlen, fun p2 np2 => ?_⟩
  exact q _ _ L1 (f1.trans (n1.trans (.new n1.wd np2))) (.newL n1.wd np2 (dens_strs _))
/-- sorted(xs), texts -/
def gSortL (st : Sto) (xs : List Dt) : Option (Dt × Sto) := match xs with
  | [x] => (asL st x).bind fun ds => (strs' ds).map fun ys => (.lst ((sortS ys).map .str), st)
  | _ => none
theorem vo_sortL : VON T (rSortL K) gSortL := by
  intro Z L st H xs dxs d st' Q w hx h q
  unfold gSortL at h
  split at h
  · obtain ⟨v, rfl, p⟩ := dens1 hx
    obtain ⟨es, e1, h⟩ := bind_some' h
    obtain ⟨ys, e2, e3⟩ := Option.map_eq_some_iff.mp h
    cases e3
    obtain ⟨a, vs, rfl, ea, t⟩ := asL_ok w p e1
    have ev := strs_ok t e2
    subst ev
    exact ⟨a, ys, rfl, SqL.of ea, fun p np => q _ _ L (.new w np) (.newL w np (dens_strs _))⟩
  · cases h
/-- the keys are texts -/
def kStrs : List Key → Option (List Str)
  | [] => some []
  | .inr x :: ks => (kStrs ks).map fun xs => x :: xs
  | _ => none
theorem kStrs_ok : ∀ {ks : List Key} {xs : List Str}, kStrs ks = some xs → ks = xs.map Sum.inr
  | [], _, h => by cases h; rfl
  | .inr x :: ks, _, h => by
    obtain ⟨ys, e1, e2⟩ := Option.map_eq_some_iff.mp h
    subst e2
    rw [kStrs_ok e1]; rfl
  | .inl _ :: ks, _, h => by cases h
/-- sorted(d, key=..), as a new live object -/
def eSortK (f : SE) : SE := fun r st => (f r st).bind fun x => (asD x.2 x.1).bind fun y => (kStrs y.1).bind fun ks => if ks.all (fun k => decide (k.length ≤ sizeLine)) = true then some (.ref x.2.length, x.2 ++ [some (.lst ((sortK ks).map .str))]) else none
theorem zip_keys : ∀ {ks : List Key} {vs : List V}, ks.length = vs.length → (ks.zip vs).map (·.1) = ks
  | [], _, _ => rfl
  | k :: ks, v :: vs, h => by
    rw [List.zip_cons_cons, List.map_cons, zip_keys (by simpa using h)]
  | _ :: _, [], h => by simp at h
theorem Wd.lam {Z : Addr → Prop} {L : List Addr} {st : Sto} {H H2 : Hp} (w : Wd T Z L st H) (ex : LamX.ExtN H H2) (trk : ∀ b, H b ≠ none → H2 b ≠ none) (hT : LamX.Tabs T H2) : Af T Z L st H L st H2 := by
  have stay : ∀ b u, H b = some u → (∀ ps, u ≠ .tbl ps) → H2 b = some u := ex
  refine ⟨⟨hT, w.len, w.inj, fun k a d h1 h2 => ?_, fun a z => trk a (w.zt a z)⟩, ⟨[], by simp⟩, fun b u e _ n => stay b u e n, fun a l => .inl l, trk, fun b us e => stay b _ e (fun ps z => by cases z), fun k a h e => absurd (List.getElem?_eq_some_iff.mp e).1 (by omega), fun a z => .inl z⟩
  obtain ⟨nz, o, e, q⟩ := w.own k a d h1 h2
  refine ⟨nz, o, stay a o e fun ps z => ?_, q.imp fun ds vs t => t.stay stay⟩
  rcases q.kind with ⟨xs, y⟩ | ⟨kvs, y⟩ <;> (rw [y] at z; cases z)
theorem sim_sortK {te : TE} {f : SE} (hf : SimE T te f) : SimE T (tSortK T te) (eSortK f) := by
  intro Z L st H s r d st' Q w e h q
  obtain ⟨⟨dx, st1⟩, h1, h⟩ := bind_some' h
  obtain ⟨⟨ks, ds⟩, h2, h⟩ := bind_some' h
  obtain ⟨xs, h3, h⟩ := bind_some' h
  split at h
  case isFalse => cases h
  case isTrue hz =>
  cases h
  refine hf Z L st H s r dx _ _ w e h1 fun x H1 L1 f1 p1 => ?_
  refine ⟨f1.wd.tabs, fun H2 ex trk hT => ?_⟩
  have f2 := f1.wd.lam ex trk hT
  obtain ⟨a, vs, rfl, ea, el, t⟩ := asD_ok f2.wd (p1.keep f2) h2
  refine ⟨a, _, xs, rfl, ea, ?_, fun k hk => ?_, fun p np => ?_⟩
  · exact (zip_keys el).trans (kStrs_ok h3)
  · rw [List.all_eq_true] at hz
    simpa using hz k hk
  · refine q _ _ (L1 ++ [p]) (f1.trans (f2.trans (.newR f2.wd np ⟨_, rfl, dens_strs _⟩))) ?_
    unfold Den
    exact ⟨p, by rw [← f2.wd.len]; simp, rfl⟩
/-- a new object, from now on a value -/
def eFrz (f : SE) : SE := fun r st => (f r st).bind fun x => match x.1 with
  | .ref k => (match x.2[k]? with
    | some (some d) => some (d, x.2.set k none)
    | _ => none)
  | _ => none
theorem sim_eFrz {te : TE} {f : SE} (hf : SimE T te f) : SimE T te (eFrz f) := by
  intro Z L st H s r d st' Q w e h q
  obtain ⟨⟨dx, st1⟩, h1, h⟩ := bind_some' h
  refine hf Z L st H s r dx _ _ w e h1 fun x H1 L1 f1 p1 => ?_
  cases dx with
  | ref k =>
    dsimp only at h
    split at h
    · rename_i d' hd
      cases h
      unfold Den at p1
      obtain ⟨a, ka, rfl⟩ := p1
      obtain ⟨ff, pp⟩ := f1.wd.frz ka hd
      exact q _ H1 L1 (f1.trans ff) pp
    · cases h
  | _ => cases h
end

/-! ### at one world -/
section
variable {T : List (Addr × Str)} {K : PySem.W.Frag} {Z : Addr → Prop} {L : List Addr} {st : Sto} {H : Hp} {s : L2.St} {r : Evr}
theorem at_op {ta tb : TE} {fa fb : SE} {o : R2} {g : Sto → Dt → Dt → Option (Dt × Sto)} (e : EnvOk L (Bad Z L st) H r s) (ha : EAt T Z L st H s r ta fa) (hb : SimE T tb fb) (ho : VO2 T o g) : EAt T Z L st H s r (tOp o ta tb) (eOp2 g fa fb) := by
  intro d st' Q h q
  obtain ⟨⟨dx, st1⟩, h1, h⟩ := bind_some' h
  obtain ⟨⟨dy, st2⟩, h2, h⟩ := bind_some' h
  refine ha dx st1 _ h1 fun x H1 L1 f1 p1 => ?_
  refine hb Z L1 st1 H1 s r dy st2 _ f1.wd (e.keep f1) h2 fun y H2 L2 f2 p2 => ?_
  exact ho Z L2 st2 H2 x y dx dy d st' Q f2.wd (p1.keep f2) p2 h fun v H3 L3 f3 p3 => q v H3 L3 (f1.trans (f2.trans f3)) p3
theorem at_iL {te : TE} {f : SE} (hf : EAt T Z L st H s r te f) : IAt T Z L st H s r (iList K te) (iE itL f) := by
  intro xs st' Q h q
  obtain ⟨⟨dx, st1⟩, h1, h2⟩ := bind_some' h
  obtain ⟨ys, h3, h4⟩ := Option.map_eq_some_iff.mp h2
  cases h4
  refine hf dx _ _ h1 fun x H1 L1 f1 p1 => ?_
  cases dx with
  | lst ds =>
    cases h3
    have p1' := p1
    unfold Den at p1'
    obtain ⟨a, vs, rfl, nb, ea, t⟩ := p1'
    refine ⟨a, rfl, ⟨vs, SqL.of ea⟩, q _ H1 L1 f1 fun Z2 L2 st2 H2 f2 => ?_⟩
    have ea2 : H2 a = some (.lst vs) := f2.kp a _ ea (fun z => nb (.inr z)) (fun ps z => by cases z)
    have t2 := t.keep f2
    refine ⟨⟨vs, SqL.of ea2, Nat.le_of_eq t.len.symm⟩, fun i d hd => ?_⟩
    obtain ⟨v, hv, pv⟩ := t2.get hd
    refine ⟨⟨vs, v, SqL.of ea2, hv⟩, fun x H3 y => ?_⟩
    obtain ⟨rfl, y⟩ := y
    have := y vs (SqL.of ea2)
    rw [hv] at this
    cases this
    exact ⟨.refl f2.wd, pv⟩
  | _ => cases h3
end
end HB

set_option Elab.async false
set_option linter.all false
set_option maxRecDepth 100000
set_option maxHeartbeats 1000000
/-! HB, part o: the end of a law. -/
namespace HB
open PySem PySem.Spec PyProof.Rows L2

section
variable {P : Program} {w : World} {K : PySem.W.Frag} {mg mb : Str → Option Value} {k : Nat} {fa a : Addr} {cs : List (Addr × Addr)} {fd : FuncData} {x : Str} {sp : Sp} {s₁ : Shared} {vs : List Value} {ns : List Int}
abbrev tabO : Obj := { cls := .none, data := .fields #[] }
abbrev scrO (vs : List Value) : Obj := { cls := .type "list", data := .seq vs.toArray }
open Classical in
/-- what is known of the heap at the law's entry: the tables, the script if it is not of the module -/
noncomputable def h0 (K : PySem.W.Frag) (cs : List (Addr × Addr)) (a : Addr) (vs : List Value) (ns : List Int) : Hp := fun b =>
  if (∃ p ∈ cs, p.2 = b) then some (.tbl #[]) else if b = a ∧ K.lookup a = none then some (.frz (scrO vs) (.lst (ns.map V.int))) else none
theorem h0_cases {b : Addr} {u : HO} (h : h0 K cs a vs ns b = some u) : (∃ p ∈ cs, p.2 = b ∧ u = .tbl #[]) ∨ (b = a ∧ K.lookup a = none ∧ u = .frz (scrO vs) (.lst (ns.map V.int))) := by
  unfold h0 at h
  split at h
  · rename_i q
    obtain ⟨p, hp, e⟩ := q
    cases h
    exact .inl ⟨p, hp, e, rfl⟩
  · split at h
    · rename_i q
      cases h
      exact .inr ⟨q.1, q.2, rfl⟩
    · cases h
theorem law_go (KX : K.In s₁.heap) (hns : s₁.heap.Ns mainGlobals mg) (hb : s₁.heap.Ns builtinsNs mb) (hbb : ∀ x : Str, x ≠ "__name__" → mb x = bootBuiltins x) (hlim : s₁.heap.NoLimit) (hg : s₁.gens = #[])
    (hT : ∀ p ∈ cs, s₁.heap.get? p.2 = some tabO) (nT : ∀ p ∈ cs, K.lookup p.2 = none) (C : ∀ p ∈ cs, PySem.W.CodeHd s₁.heap p.1 p.2)
    (hbm : ∃ (bm : Addr) (ob : Obj), mg "__builtins__" = some (.ref bm) ∧ bm ≠ builtinsNs ∧ s₁.heap.get? bm = some ob ∧ ob.cls = .type "module" ∧ ob.dict = some builtinsNs ∧ ob.data = .plain)
    (ha : s₁.heap.get? a = some (scrO vs)) (hi : IntsAre vs ns) (hl : ns.length ≤ sizeLine) (hr : Room k callerA)
    (F : ∀ base : Heap, K.In base → base.Ns mainGlobals mg → (∀ p ∈ cs, LamX.TabB base mg p.1 p.2) → GFn P w K mg base k fa fd [x] sp) (hbind : ∀ (s : Shared) (u : Value), BindsTo s fd ⟨[u], []⟩ [(x, u)])
    (hsp : ∀ H : Hp, (∀ p ∈ cs, H p.2 = some (.tbl #[])) → SqL K H a (ns.map V.int) → sp [.ref a] H (fun v _ => v = .bl true) E0) :
    codeAny (model P w) callerA (.call (.ref fa) ⟨[.ref a], []⟩) (fun r s' => r = .ok (.ret (.bool true)) ∧ OldK s₁.heap s'.heap ∧ s'.os = s₁.os ∧ AllBare s'.gens) s₁ := by
  have rv := vals_ints hi
  have lv := hi.length
  have hH : ∀ p ∈ cs, h0 K cs a vs ns p.2 = some (.tbl #[]) := fun p hp => if_pos ⟨p, hp, rfl⟩
  have na : ¬ ∃ p ∈ cs, p.2 = a := fun ⟨p, hp, e⟩ => by
    have q := hT p hp
    rw [e, ha] at q
    have := congrArg Obj.data (Option.some.inj q)
    cases this
  have hS : SqL K (h0 K cs a vs ns) a (ns.map V.int) := by
    cases hk : K.lookup a with
    | some o =>
      have e := KX a o hk
      rw [ha] at e
      cases e
      exact .inr ⟨_, vs.toArray, _, hk, rfl, rfl, rfl, by rw [List.size_toArray, lv]; exact hl, by simpa using rv⟩
    | none => exact .inl (.inr ⟨scrO vs, by unfold h0; rw [if_neg na, if_pos ⟨rfl, hk⟩]⟩)
  have hok : HOk P w (h0 K cs a vs ns) s₁.heap := fun b u e => by
    rcases h0_cases e with ⟨p, hp, rfl, rfl⟩ | ⟨rfl, _, rfl⟩
    · exact hT p hp
    · exact ⟨ha, by rw [List.length_map]; exact hl, vs, _, rv, ha⟩
  -- what is neither a table nor the script is not hidden
  have free : ∀ {b : Addr} {o : Obj}, s₁.heap.get? b = some o → (∀ us n, o.data ≠ .seq us n) → o.data ≠ .fields #[] → h0 K cs a vs ns b = none := fun {b o} e h1 h2 => by
    cases q : h0 K cs a vs ns b with
    | none => rfl
    | some u =>
      rcases h0_cases q with ⟨p, hp, rfl, _⟩ | ⟨rfl, _, _⟩
      · rw [hT p hp] at e; cases e; exact (h2 rfl).elim
      · rw [ha] at e; cases e; exact (h1 _ _ rfl).elim
  have stays : ∀ {b : Addr} {o : Obj}, s₁.heap.get? b = some o → (∀ us n, o.data ≠ .seq us n) → o.data ≠ .fields #[] → (hidT s₁.heap (h0 K cs a vs ns)).get? b = some o := fun e h1 h2 => hidT_get e (free e h1 h2)
  have nsK : ∀ {b : Addr} {m : Str → Option Value}, s₁.heap.Ns b m → (hidT s₁.heap (h0 K cs a vs ns)).Ns b m := fun {b m} ⟨o, es, ep, e, d, r⟩ =>
    ⟨o, es, ep, stays e (fun us n z => by rw [d] at z; cases z) (fun z => by rw [d] at z; cases z), d, r⟩
  have hKb : K.In (hidT s₁.heap (h0 K cs a vs ns)) := fun b o e => hidT_get (KX b o e) (by
    cases q : h0 K cs a vs ns b with
    | none => rfl
    | some u =>
      rcases h0_cases q with ⟨p, hp, rfl, _⟩ | ⟨rfl, hk, _⟩
      · rw [nT p hp] at e; cases e
      · rw [hk] at e; cases e)
  have hM : L2.Mod K mg (hidT s₁.heap (h0 K cs a vs ns)) := ⟨hKb, nsK hns, ⟨mb, nsK hb, hbb⟩, let ⟨mc, h1, h2⟩ := hlim; ⟨mc, nsK h1, h2⟩⟩
  have TB : ∀ p ∈ cs, LamX.TabB (hidT s₁.heap (h0 K cs a vs ns)) mg p.1 p.2 := fun p hp => by
    refine ⟨?_, ?_, fun z => ?_⟩
    · obtain ⟨o, us, file, tf, flags, tg, inF, text, tt, e1, r1, r2, r3, r⟩ := C p hp
      refine ⟨o, us, file, tf, flags, tg, inF, text, tt, stays e1 (fun us n z => by rw [r2] at z; cases z) (fun z => ?_), r1, r2, r3, r⟩
      rw [r2] at z
      cases z
      simp at r3
    · obtain ⟨bm, ob, b1, b2, b3, b4, b5, b6⟩ := hbm
      refine ⟨bm, ob, b1, b2, fun q => ?_, fun q => ?_, stays b3 (fun us n z => by rw [b6] at z; cases z) (fun z => by rw [b6] at z; cases z), b4, b5, b6⟩
      · obtain ⟨o, es, ep, e, hd, _⟩ := hns
        rw [q, e] at b3
        cases b3
        rw [hd] at b6
        cases b6
      · rw [q, hT p hp] at b3
        cases b3
        cases b6
    · obtain ⟨o, es, ep, e, hd, _⟩ := hns
      rw [z, hT p hp] at e
      cases e
      cases hd
  have e0 : Env0 P w K mg (hidT s₁.heap (h0 K cs a vs ns)) callerA [] s₁ (h0 K cs a vs ns) :=
    ⟨rfl, hM, fun b o e => of_hidT e, Nat.le_of_eq (hidT_size _ _), trivial, fun b hb => absurd (show b ∈ ([] : List Addr) from hb) (by simp), hok, .of_eq hg⟩
  refine codeAny_mono ((F _ hKb (nsK hns) TB).run callerA [] s₁ (h0 K cs a vs ns) ⟨[.ref a], []⟩ [.ref a] [.ref a] _ hr rfl e0 (hbind s₁ (.ref a)) rfl (.cons rfl .nil) (hsp _ hH hS)) fun r s' h => ?_
  match r, h with
  | .error _, h => exact h.elim
  | .ok .next, h => exact h.elim
  | .ok .brk, h => exact h.elim
  | .ok .cont, h => exact h.elim
  | .ok (.ret u), h =>
    obtain ⟨v, H', os, bare, un, hok', r', q⟩ := h
    obtain rfl : v = .bl true := q
    obtain rfl : u = Value.bool true := r'
    have tabs : ∀ p ∈ cs, ∃ more : Array Value, s'.heap.get? p.2 = some { cls := .none, data := .fields more } := fun p hp => by
      obtain ⟨more, z⟩ := un.tbls p.2 #[] (hH p hp)
      exact ⟨_, hok' p.2 _ z⟩
    have rest : ∀ b o, (¬ ∃ p ∈ cs, p.2 = b) → s₁.heap.get? b = some o → s'.heap.get? b = some o := fun b o nb e => by
      cases q : h0 K cs a vs ns b with
      | none => exact un.keep b o e q (fun z => absurd (show b ∈ ([] : List Addr) from z) (by simp)) (by simp)
      | some u =>
        rcases h0_cases q with ⟨p, hp, e', _⟩ | ⟨e', _, e2⟩
        · exact absurd ⟨p, hp, e'⟩ nb
        · rw [e2] at q
          obtain ⟨e3, _⟩ := hok' b _ (un.frzs b _ _ q)
          rw [e', ha] at e
          cases e
          exact e3
    refine ⟨rfl, ⟨fun b o e => ?_, fun b o e => ?_⟩, os, bare⟩
    · by_cases nb : ∃ p ∈ cs, p.2 = b
      · obtain ⟨p, hp, rfl⟩ := nb
        obtain ⟨more, hm⟩ := tabs p hp
        rw [hT p hp] at e
        cases e
        exact .inr (.inl ⟨((C p hp).tab (hT p hp)).isCodeTable, rfl, #[], more, rfl, by rw [Array.empty_append]; exact hm⟩)
      · exact .inl (rest b o nb e)
    · by_cases nb : ∃ p ∈ cs, p.2 = b
      · obtain ⟨p, hp, rfl⟩ := nb
        obtain ⟨more, hm⟩ := tabs p hp
        exact ⟨_, hm⟩
      · exact ⟨o, rest b o nb e⟩
end
/-- what is known of the law at the head's heap h: cs, the code objects that make lambdas and their tables -/
def LawAt (l : PySem.W.OpenLaw) (w : World) (K : PySem.W.Frag) (k n : Nat) (x : Str) (mg : Str → Option Value) (fa : Addr) (h : Heap) : Prop :=
  ∃ (fd : FuncData) (cs : List (Addr × Addr)) (sp : Sp), (∀ p ∈ cs, h.get? p.2 = some tabO) ∧ (∀ p ∈ cs, K.lookup p.2 = none) ∧ (∀ p ∈ cs, PySem.W.CodeHd h p.1 p.2) ∧ (∀ (s : Shared) (u : Value), BindsTo s fd ⟨[u], []⟩ [(x, u)]) ∧
    (∀ (H : Hp) (a : Addr) (ns : List Int), ns.length ≤ n → (∀ z ∈ ns, Builtin.Int.intBits z ≤ 1048576) → (∀ p ∈ cs, H p.2 = some (.tbl #[])) → SqL K H a (ns.map V.int) → sp [.ref a] H (fun v _ => v = .bl true) E0) ∧
    ∀ base : Heap, K.In base → base.Ns mainGlobals mg → (∀ p ∈ cs, LamX.TabB base mg p.1 p.2) → GFn l.prog w K mg base k fa fd [x] sp
theorem walk_go {l : PySem.W.OpenLaw} {n k : Nat} {q : Program} {loose : List Str} {XP : (Str → Option Value) → Heap → Prop} {YP : World → Heap → Prop} {d : DefRec} {K : Params → PySem.W.Frag} {x : Str}
    (hn : l.most = some n) (hn2 : n ≤ sizeLine) (hdf : d.params.defaults = []) (hr : Room k callerA) (hY : ∀ (w : World) (h : Heap), YP w h → (K w.params).In h)
    (F : ∀ (w : World) (mg : Str → Option Value) (fa : Addr) (h : Heap), YP w h → (K w.params).In h → h.Ns mainGlobals mg → mg d.name = some (.ref fa) → LawAt l w (K w.params) k n x mg fa h) :
    PySem.W.WalkO q loose XP YP l.row.toRowW d [] (fun f vs => PySem.call f vs) := by
  refine Att.attach_callB hn hdf fun w s₀ s₁ mg mb fa o pm cd doc a vs ns G Y ho hd hcd hmg hobj hints hlen hbits hg => ?_
  have KX := hY w _ Y
  obtain ⟨fd, cs, sp, hT, nT, C, hb, hsp, hF⟩ := F w mg fa _ Y KX G.T.g hmg
  exact law_go KX G.T.g G.T.b G.T.builtins G.T.nolimit hg hT nT C G.T.bmain hobj hints (Nat.le_trans hlen hn2) hr hF hb fun H hH hS => hsp H a ns hlen hbits hH hS
end HB

set_option Elab.async false
set_option linter.all false
set_option maxRecDepth 100000
set_option maxHeartbeats 1000000
/-! HB, part p: one judgement for the derivation and the plain function. -/
namespace HB
open PySem PySem.Spec PyProof.Rows L2

section
variable (T : List (Addr × Str))
/-- the readings that a plain function gives -/
def rE (f : SE) : TE := fun s H Q => ∃ Z L st r d st', Wd T Z L st H ∧ EnvOk L (Bad Z L st) H r s ∧ f r st = some (d, st') ∧ ∀ v H' L', Af T Z L st H L' st' H' → Den L' (Bad Z L' st') H' d v → Q v H'
def rT (f : ST) : TT := fun s H Q => ∃ Z L st r b st', Wd T Z L st H ∧ EnvOk L (Bad Z L st) H r s ∧ f r st = some (b, st') ∧ ∀ H' L', Af T Z L st H L' st' H' → Q b H'
def rA (f : SA) : TA := fun s H Q => ∃ Z L st r d st', Wd T Z L st H ∧ EnvOk L (Bad Z L st) H r s ∧ f r st = some (d, st') ∧ ∀ v H' L', Af T Z L st H L' st' H' → Dens L' (Bad Z L' st') H' d v → Q v H'
def rS (g : SS) : TS := fun D s H => ∃ Z L st r o, Wd T Z L st H ∧ EnvOk L (Bad Z L st) H r s ∧ g r st = some o ∧ OuOk T Z L st H D o
def rI (f : SA) : TI := fun s H Q => ∃ Z L st r d st', Wd T Z L st H ∧ EnvOk L (Bad Z L st) H r s ∧ f r st = some (d, st') ∧ ∀ J H' L', Af T Z L st H L' st' H' → WalkD T Z L' st' H' J d → Q J H'
def rO (f : SO) : TO := fun s H Q => ∃ Z L st r d st', Wd T Z L st H ∧ EnvOk L (Bad Z L st) H r s ∧ f r st = some (d, st') ∧ ∀ H' L', Af T Z L st H L' st' H' → Q d H'
end
section
variable {T : List (Addr × Str)}
theorem sE {f : SE} : SimE T (rE T f) f := fun Z L st H s r d st' Q w e h q => ⟨Z, L, st, r, d, st', w, e, h, q⟩
theorem sT {f : ST} : SimT T (rT T f) f := fun Z L st H s r d st' Q w e h q => ⟨Z, L, st, r, d, st', w, e, h, q⟩
theorem sA {f : SA} : SimA T (rA T f) f := fun Z L st H s r d st' Q w e h q => ⟨Z, L, st, r, d, st', w, e, h, q⟩
theorem sS {g : SS} : SimS T (rS T g) g := fun Z L st H s r o D w e h q => ⟨Z, L, st, r, o, w, e, h, q⟩
theorem sI {f : SA} : SimI T (rI T f) f := fun Z L st H s r d st' Q w e h q => ⟨Z, L, st, r, d, st', w, e, h, q⟩
theorem sO {f : SO} : SimO T (rO T f) f := fun Z L st H s r d st' Q w e h q => ⟨Z, L, st, r, d, st', w, e, h, q⟩
variable {X : Cx}
theorem toE {e : Expr} {t : TE} {f : SE} (h : PE X e t) (k : SimE T t f) : PE X e (rE T f) := ⟨fun pins s s1 H Q I ⟨Z, L, st, r, d, st', w, ev, hf, q⟩ => h.run pins s s1 H Q I (k Z L st H s1 r d st' Q w ev hf q)⟩
theorem toTT {e : Expr} {t : TT} {f : ST} (h : PT X e t) (k : SimT T t f) : PT X e (rT T f) := ⟨fun pins s s1 H Q I ⟨Z, L, st, r, d, st', w, ev, hf, q⟩ => h.run pins s s1 H Q I (k Z L st H s1 r d st' Q w ev hf q)⟩
theorem toW {e : Expr} {t : TT} {f : ST} (h : PW X e t) (k : SimT T t f) : PW X e (rT T f) := ⟨fun wh pins s s1 H Q I ⟨Z, L, st, r, d, st', w, ev, hf, q⟩ => h.run wh pins s s1 H Q I (k Z L st H s1 r d st' Q w ev hf q)⟩
theorem toTs {e : List Expr} {t : TT} {f : ST} (h : PTs X e t) (k : SimT T t f) : PTs X e (rT T f) := ⟨fun pins s s1 H Q I ⟨Z, L, st, r, d, st', w, ev, hf, q⟩ => h.run pins s s1 H Q I (k Z L st H s1 r d st' Q w ev hf q)⟩
theorem toA {e : List Expr} {t : TA} {f : SA} (h : PA X e t) (k : SimA T t f) : PA X e (rA T f) := ⟨fun pos pins s s1 H Q I ⟨Z, L, st, r, d, st', w, ev, hf, q⟩ => h.run pos pins s s1 H Q I (k Z L st H s1 r d st' Q w ev hf q)⟩
theorem toK {e : List Keyword} {t : TA} {f : SA} (h : PK X e t) (k : SimA T t f) : PK X e (rA T f) := ⟨fun pos pins s s1 H Q I ⟨Z, L, st, r, d, st', w, ev, hf, q⟩ => h.run pos pins s s1 H Q I (k Z L st H s1 r d st' Q w ev hf q)⟩
theorem toS {e : Stmt} {t : TS} {f : SS} (h : PS X e t) (k : SimS T t f) : PS X e (rS T f) := ⟨fun pins s s1 H D I ⟨Z, L, st, r, o, w, ev, hf, q⟩ => h.run pins s s1 H D I (k Z L st H s1 r o D w ev hf q)⟩
theorem toSs {e : List Stmt} {t : TS} {f : SS} (h : PSs X e t) (k : SimS T t f) : PSs X e (rS T f) := ⟨fun pins s s1 H D I ⟨Z, L, st, r, o, w, ev, hf, q⟩ => h.run pins s s1 H D I (k Z L st H s1 r o D w ev hf q)⟩
theorem toI {tg e : Expr} {t : TI} {f : SA} (h : PI X tg e t) (k : SimI T t f) : PI X tg e (rI T f) := ⟨fun pins s s1 H Q I ⟨Z, L, st, r, d, st', w, ev, hf, q⟩ => h.run pins s s1 H Q I (k Z L st H s1 r d st' Q w ev hf q)⟩
theorem toO {e : Option Expr} {t : TO} {f : SO} (h : PO X e t) (k : SimO T t f) : PO X e (rO T f) := ⟨fun pins s s1 H Q I ⟨Z, L, st, r, d, st', w, ev, hf, q⟩ => h.run pins s s1 H Q I (k Z L st H s1 r d st' Q w ev hf q)⟩
end
/-! ### the rules -/
section
variable {T : List (Addr × Str)} {X : Cx} {a b c e o : Expr} {es rest : List Expr} {fa fb fc : SE} {ga gb : ST} {fs : SA} {pos : Pos}
theorem jv (i : Nat) {x : Str} (hN : X.N[i]? = some x := by rfl) (hv : Vis X.env.scope x := by first | exact Or.inl rfl | exact Or.inr (Or.inl rfl) | exact Or.inr (Or.inr rfl)) (hd : (x == ("__debug__" : Str)) = false := by decide)
    (hcd : (x == ("__classdict__" : Str)) = false := by decide) : PE X (.Name x pos) (rE T (eVar i)) := toE (pe_var hN hv hd hcd) sim_var
theorem jInt {i : Int} {j : Nat} : PE X (.Constant (.int i) j pos) (rE T (eC (.int i))) := toE pe_int sim_int
theorem jStr {x : Str} {j : Nat} : PE X (.Constant (.str x) j pos) (rE T (eC (.str x))) := toE pe_str sim_str
theorem jBl {x : Bool} {j : Nat} : PE X (.Constant (.bool x) j pos) (rE T (eC (.bl x))) := toE pe_bl sim_bl
theorem jNon {j : Nat} : PE X (.Constant .none j pos) (rE T (eC .non)) := toE pe_non sim_non
theorem jGI {x : Str} {i : Int} {t : Tok} (hg : Gl X x) (hm : X.mg x = some (.int i t)) (hd : (x == ("__debug__" : Str)) = false := by decide) : PE X (.Name x pos) (rE T (eC (.int i))) := toE (pe_glob (v := .int i) hg hm ⟨t, rfl⟩ hd) sim_int
theorem jOp {op : Operator} {r : R2} {g : Sto → Dt → Dt → Option (Dt × Sto)} (ho : OpR X (binaryOp op) r) (hv : VO2 T r g) (ha : PE X a (rE T fa)) (hb : PE X b (rE T fb)) : PE X (.BinOp a op b pos) (rE T (eOp2 g fa fb)) := toE (pe_op ho ha hb) (sim_op sE sE hv)
theorem jCmp {op : CmpOp} {r : R2} {g : Sto → Dt → Dt → Option (Dt × Sto)} (ho : OpR X (compareOp op) r) (hv : VO2 T r g) (ha : PE X a (rE T fa)) (hb : PE X b (rE T fb)) (hm : behindInMarks op b = false := by first | rfl | exact nomark _) : PE X (.Compare a [op] [b] pos) (rE T (eOp2 g fa fb)) := toE (pe_cmpR ho ha hb hm) (sim_op sE sE hv)
theorem jtCmp {op : CmpOp} {r : R2} {g : Sto → Dt → Dt → Option (Dt × Sto)} (ho : OpR X (compareOp op) r) (hv : VO2 T r g) (ha : PE X a (rE T fa)) (hb : PE X b (rE T fb)) (hm : behindInMarks op b = false := by first | rfl | exact nomark _) : PT X (.Compare a [op] [b] pos) (rT T (cB (eOp2 g fa fb))) := toTT (pt_cmpR ho ha hb hm) (sim_cBT (sim_op sE sE hv))
theorem jtVal (h : PE X e (rE T fa)) (he : ∀ whole, isTrue e X.env whole = (do let v ← whole; standAt e.pos; holding [v] (truthy v)) := by intro _; rfl) : PT X e (rT T (cB fa)) := toTT (pt_val h he) (sim_cB sE)
theorem jtNot (h : PT X a (rT T ga)) : PT X (.UnaryOp .Not a pos) (rT T (cNot ga)) := toTT (pt_not h) (sim_not sT)
theorem jwAnd1 (h : PT X a (rT T ga)) : PW X (.BoolOp .And [a] pos) (rT T ga) := pw_and1 h
theorem jwOr1 (h : PT X a (rT T ga)) : PW X (.BoolOp .Or [a] pos) (rT T ga) := pw_or1 h
theorem jwAnd (ha : PT X a (rT T ga)) (hb : PW X (.BoolOp .And (b :: rest) pos) (rT T gb)) : PW X (.BoolOp .And (a :: b :: rest) pos) (rT T (cAnd ga gb)) := toW (pw_and ha hb) (sim_and sT sT)
theorem jwOr (ha : PT X a (rT T ga)) (hb : PW X (.BoolOp .Or (b :: rest) pos) (rT T gb)) : PW X (.BoolOp .Or (a :: b :: rest) pos) (rT T (cOr ga gb)) := toW (pw_or ha hb) (sim_or sT sT)
theorem jOne {op : BoolOp} (h : PE X a (rE T fa)) : PE X (.BoolOp op [a] pos) (rE T fa) := pe_one h
theorem jAnd (ha : PE X a (rE T fa)) (hb : PE X (.BoolOp .And (b :: rest) pos) (rE T fb)) : PE X (.BoolOp .And (a :: b :: rest) pos) (rE T (eAndV fa fb)) := toE (pe_and ha hb) (sim_andV sE sE)
theorem jOr (ha : PE X a (rE T fa)) (hb : PE X (.BoolOp .Or (b :: rest) pos) (rE T fb)) : PE X (.BoolOp .Or (a :: b :: rest) pos) (rE T (eOrV fa fb)) := toE (pe_or ha hb) (sim_orV sE sE)
theorem jNot (ha : PE X a (rE T fa)) : PE X (.UnaryOp .Not a pos) (rE T (eNotV fa)) := toE (pe_not ha) (sim_notV sE)
theorem jIf (hc : PT X c (rT T ga)) (ha : PE X a (rE T fa)) (hb : PE X b (rE T fb)) : PE X (.IfExp c a b pos) (rE T (eIf ga fa fb)) := toE (pe_ifExp hc ha hb) (sim_if sT sE sE)
theorem jNil : PA X [] (rA T aNil) := toA pa_nil sim_nil
theorem jCons (ha : PE X e (rE T fa)) (hr : PA X es (rA T fs)) (hs : starEach (e :: es) X.env = (false, eval e X.env) :: starEach es X.env := by rfl) : PA X (e :: es) (rA T (aCons fa fs)) := toA (pa_cons ha hr hs) (sim_cons sE sA)
theorem jB {x : Str} {id : String} {r : List V → Hp → VK → Prop} {g : Sto → List Dt → Option (Dt × Sto)} {p : Pos} (hc : CallR X (.builtin id) r) (hv : VON T r g) (hg : Gl X x) (hm : X.mg x = none) (hb : bootBuiltins x = some (.builtin id)) (ha : PA X (e :: es) (rA T fs)) (hn : x ≠ "__name__" := by decide) (hdb : (x == ("__debug__" : Str)) = false := by decide)
    (he : starEach (e :: es) X.env = (false, eval e X.env) :: starEach es X.env := by rfl) (hpl : (backTo pos (starEach es X.env)).any (·.1) = false := by rfl) : PE X (.Call (.Name x p) (e :: es) [] pos) (rE T (eN g fs)) := toE (pe_callB hc hg hm hb ha hn hdb he hpl) (sim_N sA hv)
theorem jTy {x : Str} {id : String} {r : List V → Hp → VK → Prop} {g : Sto → List Dt → Option (Dt × Sto)} {p : Pos} (hc : CallR X (.type id) r) (hv : VON T r g) (hg : Gl X x) (hm : X.mg x = none) (hb : bootBuiltins x = some (.type id)) (ha : PA X (e :: es) (rA T fs)) (hn : x ≠ "__name__" := by decide) (hdb : (x == ("__debug__" : Str)) = false := by decide)
    (he : starEach (e :: es) X.env = (false, eval e X.env) :: starEach es X.env := by rfl) (hpl : (backTo pos (starEach es X.env)).any (·.1) = false := by rfl) : PE X (.Call (.Name x p) (e :: es) [] pos) (rE T (eN g fs)) := toE (pe_callTy hc hg hm hb ha hn hdb he hpl) (sim_N sA hv)
/-- isinstance(e, c) -/
theorem jIsi {y : Str} {c : String} {p p2 : Pos} (hg : Gl X "isinstance") (hm : X.mg "isinstance" = none) (hgc : Gl X y) (hmc : X.mg y = none) (hbc : bootBuiltins y = some (.type c)) (ha : PE X e (rE T fa)) (hn : y ≠ "__name__" := by decide) (hdb : (y == ("__debug__" : Str)) = false := by decide)
    (he : starEach [e, .Name y p2] X.env = (false, eval e X.env) :: starEach [.Name y p2] X.env := by rfl) : PE X (.Call (.Name "isinstance" p) [e, .Name y p2] [] pos) (rE T (eN (gIs c) (aCons fa aNil))) :=
  toE (pe_callB call_isi hg hm boot_isinstance (pa_cons ha (pa_cons (pe_bltn (v := .ty c) hgc hmc hbc rfl hn hdb) pa_nil rfl) he) (by decide) (by decide) he rfl) (sim_isi sE)
/-- f(e, ..) -/
theorem jCall {k : Nat} {x : Str} {ps : List Str} {F : List Dt → Sto → Option (Dt × Sto)} {p : Pos} (c : GCal X.prog X.w X.K X.mg X.base k x ps (SpF T ps.length F)) (hr : Room k X.A) (hg : X.A.guards = some []) (gl : Gl X x) (ha : PA X (e :: es) (rA T fs)) (hdb : (x == ("__debug__" : Str)) = false := by decide)
    (he : starEach (e :: es) X.env = (false, eval e X.env) :: starEach es X.env := by rfl) (hpl : (backTo pos (starEach es X.env)).any (·.1) = false := by rfl) : PE X (.Call (.Name x p) (e :: es) [] pos) (rE T (eN (gF ps.length F) fs)) := toE (pe_g c hr hg gl ha hdb he hpl) (sim_g sA)
theorem jkNil : PK X [] (rA T aNil) := toK pk_nil sim_nil
theorem jkCons {kws : List Keyword} {nm : Option Str} {kpos : Pos} (ha : PE X e (rE T fa)) (hr : PK X kws (rA T fs)) : PK X (⟨nm, e, kpos⟩ :: kws) (rA T (aCons fa fs)) := toK (pk_cons ha hr) (sim_cons sE sA)
theorem jCallK {k : Nat} {x : Str} {ps : List Str} {F : List Dt → Sto → Option (Dt × Sto)} {p : Pos} {kws : List Keyword} {q : List Nat} (c : GCal X.prog X.w X.K X.mg X.base k x ps (SpF T ps.length F)) (hr : Room k X.A) (hg : X.A.guards = some []) (gl : Gl X x) (hk : PK X kws (rA T fs)) (hq : q.Perm (List.range ps.length)) (hdb : (x == ("__debug__" : Str)) = false := by decide)
    (hall : (backToKw pos (keywordEach kws X.env)).all (·.1.isSome) = true := by rfl) (hks : (backToKw pos (keywordEach kws X.env)).filterMap (·.1) = q.map fun i => ps.getD i "" := by rfl)
    (hpl : ((backTo pos (starEach [] X.env)).any (·.1) || (backToKw pos (keywordEach kws X.env)).any (·.1.isNone)) = false := by rfl) : PE X (.Call (.Name x p) [] kws pos) (rE T (eN (gFk ps.length q F) fs)) := toE (pe_gk c hr hg gl hk hq hdb hall hks hpl) (sim_gk sA hq)
theorem jIx (hu : X.A.units + 64 < cLine) (ha : PE X a (rE T fa)) (hb : PE X b (rE T fb)) (hs : PlainIx b := by intro _ _; rfl) : PE X (.Subscript a b pos) (rE T (eOp2 gIx fa fb)) := toE (pe_ix (ix_A hu) ha hb hs) (sim_op sE sE vo_Ix)
theorem joNone : PO X none (rO T oNo) := toO po_none sim_oNo
theorem joSome (h : PE X e (rE T fa)) : PO X (some e) (rO T (oE fa)) := toO (po_some h) (sim_oE sE)
theorem jSl {lo hi : Option Expr} {fl fh : SO} {p2 : Pos} (he : PE X e (rE T fa)) (hl : PO X lo (rO T fl)) (hh : PO X hi (rO T fh)) : PE X (.Subscript e (.Slice lo hi none p2) pos) (rE T (eSl fa fl fh)) := toE (pe_slice sl_any he hl hh) (sim_sl sE sO sO)
theorem jLstV (h : PA X es (rA T fs)) : PE X (.List es pos) (rE T (toV (small fs))) := toE (pe_lst h) (sim_lstV sA)
theorem jLstR (h : PA X es (rA T fs)) : PE X (.List es pos) (rE T (toR (small fs))) := toE (pe_lst h) (sim_lstR sA)
theorem jTup {x1 : Nat} (h : PA X es (rA T fs)) : PE X (.Tuple es x1 pos) (rE T (toT fs)) := toE (pe_tup h) (sim_tup sA)
theorem jDR : PE X (.Dict [] [] pos) (rE T eDR) := toE pe_dnewK sim_dnewR
theorem jFrz (h : PE X e (rE T fa)) : PE X e (rE T (eFrz fa)) := toE h (sim_eFrz sE)
theorem jSS {p p2 q : Pos} (hc : X.calm = true) (hu : X.A.units + 64 < cLine) (hg : Gl X "sorted") (hm : X.mg "sorted" = none) (hg2 : Gl X "set") (hm2 : X.mg "set" = none) (ha : PE X a (rE T fa)) (he : starEach [a] X.env = (false, eval a X.env) :: starEach [] X.env := by rfl)
    (he2 : starEach [.Call (.Name "set" p2) [a] [] q] X.env = (false, eval (.Call (.Name "set" p2) [a] [] q) X.env) :: starEach [] X.env := by rfl) : PE X (.Call (.Name "sorted" p) [.Call (.Name "set" p2) [a] [] q] [] pos) (rE T (eN gSS (aCons fa aNil))) :=
  toE (pe_callB (cr_sortSS hc hu) hg hm boot_sorted (pa_cons (pe_callTy (cr_setS hc) hg2 hm2 boot_set (pa_cons ha pa_nil he) (by decide) (by decide) he rfl) pa_nil he2) (by decide) (by decide) he2 rfl) (sim_ss sE)
theorem jSortK {k : Nat} {c R : Addr} {p0 p1 p2 p3 p4 p5 p6 p7 p8 p9 : Pos} (TB : LamX.TabB X.base X.mg c R) (hcode : X.env.code = .ref c) (hmT : (R, X.env.qual ++ "<lambda>") ∈ T) (huT : ∀ p ∈ T, p.1 = R → p.2 = X.env.qual ++ "<lambda>")
    (hr : Room (k + 2) X.A) (hg : Gl X "sorted") (hm : X.mg "sorted" = none) (hml : X.mg "len" = none) (ha : PE X a (rE T fa)) (hs : starEach [a] X.env = (false, eval a X.env) :: starEach [] X.env := by rfl) :
    PE X (.Call (.Name "sorted" p6) [a] [{ arg := some "key", value := .Lambda (lamP p0) (lamB p1 p2 p3 p4 p5) lamSc p7, pos := p8 }] p9) (rE T (eSortK fa)) := toE (pe_sortK TB hcode hmT huT hr hg hm hml ha hs) (sim_sortK sE)
theorem jJoin {apos : Pos} (ho : PE X o (rE T fa)) (he : PE X e (rE T fb)) (hs : starEach [e] X.env = [(false, eval e X.env)] := by rfl) (hbase : attributeBase o "join" X.env (eval o X.env) = eval o X.env := by rfl) (hline : (apos.endLine == pos.line) = true := by rfl) :
    PE X (.Call (.Attribute o "join" apos) [e] [] pos) (rE T (eM1 gJoin fa fb)) := toE (pe_join ho he hs hbase hline) (sim_join sE sE)
theorem jApp {apos : Pos} (ho : PE X o (rE T fa)) (ha : PA X [e] (rA T fs))
    (hbase : attributeBase o "append" X.env (eval o X.env) = eval o X.env := by rfl)
    (hfew : ((backTo pos (starEach [e] X.env)).all (fun x => !x.1) && (backToKw pos (keywordEach [] X.env)).all (fun x => x.1.isSome) && decide ([e].length + ([] : List Keyword).length + (if ([] : List Keyword).isEmpty then 0 else 1) < 30)) = true := by rfl)
    (hline : (apos.endLine == pos.line) = true := by rfl) (hs : starEach [e] X.env = (false, eval e X.env) :: starEach [] X.env := by rfl) :
    PE X (.Call (.Attribute o "append" apos) [e] [] pos) (rE T (eM isL gApp fa fs)) := toE (pe_bm PySem.F.plainAttrs_list PySem.F.slot_list_append PySem.F.type_list_append mt_append ho ha hbase hfew hline hs rfl) (sim_bmL sE sA vo_append)
theorem jEnds {apos : Pos} (ho : PE X o (rE T fa)) (ha : PA X [e] (rA T fs))
    (hbase : attributeBase o "endswith" X.env (eval o X.env) = eval o X.env := by rfl)
    (hfew : ((backTo pos (starEach [e] X.env)).all (fun x => !x.1) && (backToKw pos (keywordEach [] X.env)).all (fun x => x.1.isSome) && decide ([e].length + ([] : List Keyword).length + (if ([] : List Keyword).isEmpty then 0 else 1) < 30)) = true := by rfl)
    (hline : (apos.endLine == pos.line) = true := by rfl) (hs : starEach [e] X.env = (false, eval e X.env) :: starEach [] X.env := by rfl) :
    PE X (.Call (.Attribute o "endswith" apos) [e] [] pos) (rE T (eM isS gEnds fa fs)) := toE (pe_bm PySem.F.plainAttrs_str PySem.F.slot_str_endswith PySem.F.type_str_endswith mt_endswith ho ha hbase hfew hline hs rfl) (sim_bmS sE sA vo_ends)
/-! what is walked -/
theorem jiL {tg : Expr} (h : PE X e (rE T fa)) : PI X tg e (rI T (iE itL fa)) := toI (pi_list h) (sim_iL sE)
theorem jiS {tg : Expr} (h : PE X e (rE T fa)) : PI X tg e (rI T (iE itS fa)) := toI (pi_str h) (sim_iS sE)
theorem jiR1 {tg : Expr} {p : Pos} (hg : Gl X "range") (hm : X.mg "range" = none) (ha : PA X [a] (rA T fs)) (hs : starEach [a] X.env = [(false, eval a X.env)] := by rfl) : PI X tg (.Call (.Name "range" p) [a] [] pos) (rI T (iR rg1 fs)) := toI (pi_range1 hg hm ha hs) (sim_rg1 sA)
theorem jiR2 {tg : Expr} {p : Pos} (hg : Gl X "range") (hm : X.mg "range" = none) (ha : PA X [a, b] (rA T fs)) (hs : starEach [a, b] X.env = [(false, eval a X.env), (false, eval b X.env)] := by rfl) (hs2 : starEach [b] X.env = [(false, eval b X.env)] := by rfl) :
    PI X tg (.Call (.Name "range" p) [a, b] [] pos) (rI T (iR rg2 fs)) := toI (pi_range2 hg hm ha hs hs2) (sim_rg2 sA)
theorem jiEn {p tpos : Pos} {elts : List Expr} {kk : Nat} (hg : Gl X "enumerate") (hm : X.mg "enumerate" = none) (ha : PA X [e] (rA T fs)) (hs : starEach [e] X.env = [(false, eval e X.env)] := by rfl) :
    PI X (.Tuple elts kk tpos) (.Call (.Name "enumerate" p) [e] [] pos) (rI T (iR en fs)) := toI (pi_enum hg hm ha hs) (sim_enum sA)
/-! comprehensions -/
abbrev blkX (X : Cx) (scope : Scope) (s : Shared) (H : Hp) (C : Addr) (cl : List (Str × Addr)) (fp : List Addr) : Cx := X.blk s H scope (compEnvC scope cl C X.env) fp
theorem jLcV {elt tg iter : Expr} {ifs : List Expr} {scope : Scope} {own : List (Str × Nat)} {g : TG} {k : SG} {fi : SA} {is : List Nat} (hc : X.calm = true) (hN : X.N.Nodup) (hk : SimG T is g k) (hi : PI X tg iter (rI T fi)) (ok : BlkOk X.N X.env.scope scope own)
    (hg : ∀ s H C cl fp, PG (blkX X scope s H C cl fp) tg g) (ht : ∀ s H C cl fp, PTs (blkX X scope s H C cl fp) ifs (rT T ga)) (he : ∀ s H C cl fp, PE (blkX X scope s H C cl fp) elt (rE T fa)) (hz : ∀ i ∈ is, i ∈ own.map (·.2)) (hs : ∀ x, foldedSetIterable iter X.env x = pure x := by intro _; rfl) :
    PE X (.ListComp elt [⟨tg, iter, ifs, 0⟩] scope pos) (rE T (toV (lc fi (own.map (·.2)) k ga fa))) := toE (pe_lc hc hN hi ok hg ht he hs) (sim_lcV sI hk sT sE hz)
theorem jDcV {kx vx tg iter : Expr} {ifs : List Expr} {scope : Scope} {own : List (Str × Nat)} {g : TG} {k : SG} {fi : SA} {is : List Nat} (hc : X.calm = true) (hN : X.N.Nodup) (hk : SimG T is g k) (hi : PI X tg iter (rI T fi)) (ok : BlkOk X.N X.env.scope scope own)
    (hg : ∀ s H C cl fp, PG (blkX X scope s H C cl fp) tg g) (ht : ∀ s H C cl fp, PTs (blkX X scope s H C cl fp) ifs (rT T ga)) (hkx : ∀ s H C cl fp, PE (blkX X scope s H C cl fp) kx (rE T fa)) (hvx : ∀ s H C cl fp, PE (blkX X scope s H C cl fp) vx (rE T fb)) (hz : ∀ i ∈ is, i ∈ own.map (·.2)) (hs : ∀ x, foldedSetIterable iter X.env x = pure x := by intro _; rfl) :
    PE X (.DictComp kx vx [⟨tg, iter, ifs, 0⟩] scope pos) (rE T (dToV (dc fi (own.map (·.2)) k ga fa fb))) := toE (pe_dc hc hN hi ok hg ht hkx hvx hs) (sim_dcV sI hk sT sE sE hz)
/-! statements -/
variable {st : Stmt} {ss : List Stmt} {g k : SS}
theorem jsOne (h : PS X st (rS T g)) : PSs X [st] (rS T g) := pss_one h
theorem jsNil : PSs X [] (rS T sNx) := toSs pss_nil sim_nx
theorem jsCons (h1 : PS X st (rS T g)) (h2 : PSs X ss (rS T k)) : PSs X (st :: ss) (rS T (sSeq g k)) := toSs (pss_cons h1 h2) (sim_seq sS sS)
theorem jsFrz {i : Nat} (h : PSs X ss (rS T g)) : PSs X ss (rS T (sSeq (sFrz i) g)) := toSs h (sim_frz sS)
theorem jsNo : PSs X ss (rS T sNo) := toSs pss_never sim_never
theorem jsSet {i : Nat} {x : Str} {pos' : Pos} (hN : X.N.Nodup) (he : PE X e (rE T fa)) (hi : X.N[i]? = some x := by rfl) (hx : Loc X.env.scope x := by first | exact Or.inl rfl | exact Or.inr rfl) (hs : swapsWith e (some (.Name x pos')) pos.line X.env = pure false := by rfl) (hf : X.fn x = true ∨ X.env.scope.names.lookup x = some .local := by first | exact .inl rfl | exact .inr rfl) :
    PS X (.Assign [.Name x pos'] e pos) (rS T (sSet i fa)) := toS (ps_set hN hi hx he hs hf) (sim_set sE)
theorem jsSetLc {i : Nat} {y : Str} {py lpos : Pos} {elt tg iter : Expr} {ifs : List Expr} {scope : Scope} {own : List (Str × Nat)} {g : TG} {k : SG} {fi : SA} {is : List Nat} (hc : X.calm = true) (hN : X.N.Nodup) (hk : SimG T is g k)
    (hsw : swapsWith (.ListComp elt [⟨tg, iter, ifs, 0⟩] scope lpos) (some (.Name y py)) pos.line X.env = pure true) (hi : PI X tg iter (rI T fi)) (ok : BlkOk X.N X.env.scope scope own)
    (hg : ∀ s H C cl fp, PG (blkX X scope s H C cl fp) tg g) (ht : ∀ s H C cl fp, PTs (blkX X scope s H C cl fp) ifs (rT T ga)) (he : ∀ s H C cl fp, PE (blkX X scope s H C cl fp) elt (rE T fa)) (hz : ∀ i ∈ is, i ∈ own.map (·.2)) (hy : X.N[i]? = some y := by rfl) (hyl : X.env.scope.names.lookup y = some .local := by rfl) (hs : ∀ x, foldedSetIterable iter X.env x = pure x := by intro _; rfl) :
    PS X (.Assign [.Name y py] (.ListComp elt [⟨tg, iter, ifs, 0⟩] scope lpos) pos) (rS T (sSet i (toV (lc fi (own.map (·.2)) k ga fa)))) := toS (ps_setLc hc hN hy hyl hsw hi ok hg ht he hs) (sim_set (sim_lcV sI hk sT sE hz))
theorem jsRet (he : PE X e (rE T fa)) : PS X (.Return (some e) pos) (rS T (sRet fa)) := toS (ps_ret he) (sim_ret sE)
theorem jsRetN : PS X (.Return none pos) (rS T sRetN) := toS ps_retN sim_retN
theorem jsEx (he : PE X e (rE T fa)) (hs : swapsWith e none pos.line X.env = pure false := by rfl) : PS X (.Expr e pos) (rS T (sEx fa)) := toS (ps_expr he hs) (sim_ex sE)
theorem jsIf {p q : List Stmt} (hc : PT X c (rT T ga)) (ha : PSs X p (rS T g)) (hb : PSs X q (rS T k)) : PS X (.If c p q pos) (rS T (sIf ga g k)) := toS (ps_if hc ha hb) (sim_ifS sT sS sS)
theorem jsFor {tg iter : Expr} {body : List Stmt} {tgt : TG} {kt : SG} {fi : SA} {is : List Nat} (hp : PassesOwn (model X.prog X.w) X.A X.env X.xe) (hc : X.calm = true) (hk : SimG T is tgt kt) (hi : PI X tg iter (rI T fi)) (hg : PG X tg tgt) (hb : PSs X body (rS T g)) (hs : ∀ x, foldedSetIterable iter X.env x = pure x := by intro _; rfl) :
    PS X (.For tg iter body [] pos) (rS T (sFor fi kt g)) := toS (ps_for hp hc hi hg hb hs) (sim_for sI hk sS)
theorem jsDP {value i : Expr} {pos' : Pos} (hu : X.A.units + 64 < cLine) (ho : PE X o (rE T fa)) (hi : PE X i (rE T fb)) (hv : PE X value (rE T fc)) (hs : swapsWith value (some (.Subscript o i pos')) pos.line X.env = pure false := by rfl) : PS X (.Assign [.Subscript o i pos'] value pos) (rS T (sDP fa fb fc)) :=
  toS (ps_dput (by omega) ho hi hv hs) (sim_dput sE sE sE)
/-- xs[i] = v of a live list -/
def sLP (fd fk fv : SE) : SS := fun r st => (fv r st).bind fun x => (fd r x.2).bind fun y => (fk r y.2).bind fun z => match y.1, z.1 with
  | .ref i, .int k => (match z.2[i]? with
    | some (some (.lst ds)) => (ixN ds.length k).map fun j => .nx r (z.2.set i (some (.lst (ds.set j x.1))))
    | _ => none)
  | _, _ => none
theorem sim_lput {td ty tv : TE} {fd fk fv : SE} (hd : SimE T td fd) (hk : SimE T ty fk) (hv : SimE T tv fv) : SimS T (tAsg tv (gSub td ty rSetL)) (sLP fd fk fv) := by
  intro Z L st H s r o D w e h q
  obtain ⟨⟨dv, st1⟩, h1, h⟩ := bind_some' h
  obtain ⟨⟨dd, st2⟩, h2, h⟩ := bind_some' h
  obtain ⟨⟨dk, st3⟩, h3, h⟩ := bind_some' h
  refine hv Z L st H s r dv st1 _ w e h1 fun v H1 L1 f1 p1 => ?_
  refine hd Z L1 st1 H1 s r dd st2 _ f1.wd (e.keep f1) h2 fun x H2 L2 f2 p2 => ?_
  refine hk Z L2 st2 H2 s r dk st3 _ f2.wd ((e.keep f1).keep f2) h3 fun y H3 L3 f3 p3 => ?_
  dsimp only at h
  split at h
  · rename_i i k _
    split at h
    · rename_i ds hi
      obtain ⟨j, e1, e2⟩ := Option.map_eq_some_iff.mp h
      cases e2
      have p2' := p2.keep f3
      unfold Den at p2'
      obtain ⟨a, ia, rfl⟩ := p2'
      obtain ⟨nz, oo, eo, vs, rfl, t⟩ := f3.wd.own i a _ ia hi
      refine ⟨a, vs, k, j, rfl, den_int p3, eo, by rw [← t.len]; exact e1, ?_⟩
      have af := Afz.wr (o := .lst (vs.set j v)) (d' := .lst (ds.set j dv)) f3.wd ia hi ⟨_, rfl, t.set ((p1.keep f2).keep f3) j⟩
      exact q s _ L3 (f1.trans (f2.trans (f3.trans af))) ((((e.keep f1).keep f2).keep f3).keep af)
    · cases h
  · cases h
theorem jsLP {value i : Expr} {pos' : Pos} (ho : PE X o (rE T fa)) (hi : PE X i (rE T fb)) (hv : PE X value (rE T fc))
    (ha : ∀ v, assign (.Subscript o i pos') X.env v = (do
      let ov ← holding [v] (eval o X.env)
      let iv ← holding [v, ov] (eval i X.env)
      standAt pos'
      holding [v, ov, iv] (setItem ov iv v)
      release [v, ov, iv] []) := by intro _; rfl)
    (hs : swapsWithSole [.Subscript o i pos'] value pos.line X.env = pure false := by rfl) (hw : swappedStores [.Subscript o i pos'] value X.env = pure none := by rfl) (h1 : (assignEach [.Subscript o i pos'] X.env).map (·.2) = [assign (.Subscript o i pos') X.env] := by rfl) :
    PS X (.Assign [.Subscript o i pos'] value pos) (rS T (sLP fa fb fc)) := toS (ps_asg hv (pg_sub ho hi set_list ha) hs hw h1) (sim_lput sE sE sE)
end
end HB

set_option Elab.async false
set_option linter.all false
set_option maxRecDepth 100000
set_option maxHeartbeats 1000000
/-! HB, part q: defs by their derivations; the law's def; the head's hook with tables of code objects. -/
namespace HB
open PySem PySem.Spec PyProof.Rows L2

/-! ### calls by position alone -/
structure GP (P : Program) (w : World) (K : PySem.W.Frag) (mg : Str → Option Value) (base : Heap) (k : Nat) (x : Str) (ps : List Str) (sp : Sp) : Prop where
  ex : ∃ (f : Addr) (fd : FuncData), mg x = some (.ref f) ∧ PySem.W.keepIn K (.ref f) = true ∧ GFn P w K mg base k f fd ps sp ∧ ∀ (s : Shared) (us : List Value), us.length = ps.length → BindsTo s fd ⟨us, []⟩ (ps.zip us)
theorem jCallP {T : List (Addr × Str)} {X : Cx} {e : Expr} {es : List Expr} {fs : SA} {pos p : Pos} {k : Nat} {x : Str} {ps : List Str} {F : List Dt → Sto → Option (Dt × Sto)} (c : GP X.prog X.w X.K X.mg X.base k x ps (SpF T ps.length F)) (hr : Room k X.A) (hg : X.A.guards = some []) (gl : Gl X x) (ha : PA X (e :: es) (rA T fs)) (hdb : (x == ("__debug__" : Str)) = false := by decide)
    (he : starEach (e :: es) X.env = (false, eval e X.env) :: starEach es X.env := by rfl) (hpl : (backTo pos (starEach es X.env)).any (·.1) = false := by rfl) : PE X (.Call (.Name x p) (e :: es) [] pos) (rE T (eN (gF ps.length F) fs)) := by
  obtain ⟨f, fd, hm, hk, G, hb⟩ := c.ex
  have z : PE X (.Call (.Name x p) (e :: es) [] pos) (tG ps.length (SpF T ps.length F) (rA T fs)) := by
    constructor
    intro pins s s1 H Q I h
    refine wpAny_Call_Name_kw (ld_glob I gl hm ?_ hdb)
    refine PySem.W.callWith_K (h₀ := X.base) I.ok.mod.kin hk (thn (ha.run pos pins s s1 H _ I h) fun us s2 ⟨vs, H1, I1, r, hl, q⟩ => ⟨I1.kIn, ?_⟩) he hpl
    have hl' : us.length = ps.length := by rw [← r.length]; exact hl
    exact run_g G hr hg (hb s2 us hl') hl' I1 r q
  exact toE z (sim_g sA)
section
variable {T : List (Addr × Str)} {P : Program} {w : World} {K : PySem.W.Frag} {mg : Str → Option Value} {base : Heap} {x : Str} {args : Arguments} {body : List Stmt} {sc : Scope} {f : Addr} {fd : FuncData} {N ps : List Str} {k : Nat}
/-- a def by its derivation -/
theorem gfnJ {g : SS} (F : FunD K x x args body sc [] [] f fd) (S : FnScope N ps sc)
    (hb : ∀ A outer s H, Room k (gX P w K mg base N x sc f fd.code A outer s H).A → (gX P w K mg base N x sc f fd.code A outer s H).A.guards = some [] → PSs (gX P w K mg base N x sc f fd.code A outer s H) body (rS T g)) :
    GFn P w K mg base (k + 1) f fd ps (SpF T ps.length (bodyF g N.length)) := gfn F S hb sS
/-- a weaker promise -/
theorem GFn.weak {n : Nat} {F G : List Dt → Sto → Option (Dt × Sto)} (h : GFn P w K mg base k f fd ps (SpF T n F)) (hi : ∀ ds st x, G ds st = some x → F ds st = some x) : GFn P w K mg base k f fd ps (SpF T n G) := by
  refine h.imp fun vs H Q => ?_
  rintro ⟨Z, L, st, ds, d, st', hl, wd, dn, hF, q⟩
  exact ⟨Z, L, st, ds, d, st', hl, wd, dn, hi _ _ _ hF, q⟩
theorem liftV_mono {f g : List Dt → Option Dt} (h : ∀ ds d, f ds = some d → g ds = some d) (ds : List Dt) (st : Sto) (x : Dt × Sto) (e : liftV f ds st = some x) : liftV g ds st = some x := by
  unfold liftV at e ⊢
  split at e
  · rename_i hn
    obtain ⟨d, e1, e2⟩ := Option.map_eq_some_iff.mp e
    rw [if_pos hn, h ds d e1]
    exact congrArg some e2
  · cases e
theorem liftR_mono {f g : List Dt → Option Dt} (h : ∀ ds d, f ds = some d → g ds = some d) (ds : List Dt) (st : Sto) (x : Dt × Sto) (e : liftR f ds st = some x) : liftR g ds st = some x := by
  unfold liftR at e ⊢
  split at e
  · rename_i hn
    obtain ⟨d, e1, e2⟩ := Option.map_eq_some_iff.mp e
    rw [if_pos hn, h ds d e1]
    exact congrArg some e2
  · cases e
theorem liftE_mono {f g : Dt → List Dt → Option (Dt × Dt)} (h : ∀ c ds d, f c ds = some d → g c ds = some d) (ds : List Dt) (st : Sto) (x : Dt × Sto) (e : liftE f ds st = some x) : liftE g ds st = some x := by
  unfold liftE at e ⊢
  split at e
  · split at e
    · rename_i hn
      rw [if_pos hn]
      split at e
      · rename_i c hc
        split at e
        · rename_i hn2
          obtain ⟨d, e1, e2⟩ := Option.map_eq_some_iff.mp e
          simp only [hc, if_pos hn2, h _ _ d e1]
          exact congrArg some e2
        · cases e
      · cases e
    · cases e
  · cases e
theorem GFn.byV {n : Nat} {F : List Dt → Sto → Option (Dt × Sto)} {m : List Dt → Option Dt} (h : GFn P w K mg base k f fd ps (SpF T n F)) (hi : ∀ ds d, m ds = some d → fV F ds = some d) : GFn P w K mg base k f fd ps (SpF T n (liftV m)) := (gfn_V h).weak (liftV_mono hi)
theorem GFn.byR {n : Nat} {F : List Dt → Sto → Option (Dt × Sto)} {m : List Dt → Option Dt} (h : GFn P w K mg base k f fd ps (SpF T n F)) (hi : ∀ ds d, m ds = some d → fR F ds = some d) : GFn P w K mg base k f fd ps (SpF T n (liftR m)) := (gfn_R h).weak (liftR_mono hi)
theorem GFn.byE {n : Nat} {F : List Dt → Sto → Option (Dt × Sto)} {m : Dt → List Dt → Option (Dt × Dt)} (h : GFn P w K mg base k f fd ps (SpF T n F)) (hi : ∀ c ds d, m c ds = some d → fE F c ds = some d) : GFn P w K mg base k f fd ps (SpF T n (liftE m)) := (gfn_E h).weak (liftE_mono hi)
theorem GP.of {sp : Sp} (F : FunD K x x args body sc [] [] f fd) (hm : mg x = some (.ref f)) (G : GFn P w K mg base k f fd ps sp)
    (h : ∀ (kV doc pm : Value) (an : Option Addr) (cdv ct : Value) (us : List Value), us.length = ps.length → bindArgs (PySem.W.fnOf x x args body sc .none kV doc pm an cdv ct) ⟨us, []⟩ = pure (ps.zip us)) : GP P w K mg base k x ps sp :=
  ⟨f, fd, hm, F.kp, G, fun s us hl => FunD.bindsA F h s us hl⟩
theorem perm_one {p : List Nat} (h : p.Perm [0]) : p = [0] := List.perm_singleton.mp h
theorem perm_two {p : List Nat} (h : p.Perm [0, 1]) : p = [0, 1] ∨ p = [1, 0] := by
  have hl := h.length_eq
  match p, hl with
  | [a, b], _ =>
    have nd : [a, b].Nodup := h.nodup_iff.mpr (by decide)
    have ha : a ∈ [0, 1] := h.mem_iff.mp (by simp)
    have hb : b ∈ [0, 1] := h.mem_iff.mp (by simp)
    simp at nd ha hb
    rcases ha with rfl | rfl <;> rcases hb with rfl | rfl <;> first | exact absurd rfl nd | simp
theorem GCal.of {sp : Sp} (F : FunD K x x args body sc [] [] f fd) (hm : mg x = some (.ref f)) (G : GFn P w K mg base k f fd ps sp)
    (h : ∀ (kV doc pm : Value) (an : Option Addr) (cdv ct : Value) (us : List Value), us.length = ps.length → bindArgs (PySem.W.fnOf x x args body sc .none kV doc pm an cdv ct) ⟨us, []⟩ = pure (ps.zip us))
    (h2 : ∀ (kV doc pm : Value) (an : Option Addr) (cdv ct : Value) (p : List Nat) (ws : List Value), ws.length = ps.length → p.Perm (List.range ps.length) → bindArgs (PySem.W.fnOf x x args body sc .none kV doc pm an cdv ct) ⟨[], (p.map fun i => ps.getD i "").zip (p.map fun i => ws.getD i .none)⟩ = pure (ps.zip ws)) : GCal P w K mg base k x ps sp := by
  refine ⟨f, fd, hm, F.kp, G, fun s us hl => FunD.bindsA F h s us hl, fun s p ws hl hp => ?_⟩
  obtain ⟨oc, od, dV, kV, doc, pm, an, cdv, ct, osl, rfl, lk, hcd, hD, hK⟩ := F.ex
  rcases hD with ⟨_, rfl⟩ | ⟨e, _⟩
  · exact .of_eq (h2 kV doc pm an cdv ct p ws hl hp)
  · exact absurd rfl e
/-! ### the law's def -/
/-- what is asked of the law's plain function: ns, the script's numbers -/
def SpL (T : List (Addr × Str)) (K : PySem.W.Frag) (ok : List Int → Prop) : Sp := fun vs H Q _ => ∃ (a : Addr) (ns : List Int), vs = [.ref a] ∧ LamX.Tabs T H ∧ SqL K H a (ns.map V.int) ∧ ok ns ∧ ∀ H', Q (.bl true) H'
/-- the script's first numbers -/
def eScr (n : Int) (ns : List Int) : SE := fun _ st => some (.lst (cutL (ns.map Dt.int) none (some n)), st)
theorem dens_ints {L : List Addr} {B : Addr → Prop} {H : Hp} : ∀ xs : List Int, Dens L B H (xs.map Dt.int) (xs.map V.int)
  | [] => .nil
  | _ :: xs => .cons Den.int (dens_ints xs)
theorem gfnL {g : List Int → SS} {ok : List Int → Prop} {n : Int} {t : TE → TS} (F : FunD K x x args body sc [] [] f fd) (S : FnScope N ["_law_script"] sc)
    (hb : ∀ A outer s H, Room k (gX P w K mg base N x sc f fd.code A outer s H).A → (gX P w K mg base N x sc f fd.code A outer s H).A.guards = some [] → PSs (gX P w K mg base N x sc f fd.code A outer s H) body (t (tSl (rSlA K) (tVar 0) tNoPart (tPart (tC (.int n))))))
    (hs : ∀ ns te Z L st H s r o D, Wd T Z L st H → EnvOk L (Bad Z L st) H r s → EAt T Z L st H s r te (eScr n ns) → g ns r st = some o → OuOk T Z L st H D o → t te D s H)
    (hok : ∀ ns, ok ns → ∃ st', g ns (List.replicate N.length none) [] = some (.rt (.bl true) st')) :
    GFn P w K mg base (k + 1) f fd ["_law_script"] (SpL T K ok) := by
  obtain ⟨oc, od, dV, kV, doc, pm, an, cdv, ct, osl, rfl, lk, hcd, _, _⟩ := F.ex
  constructor
  intro A outer s H binds us vs Q hr hg e0 hbt hlu rv hsp
  obtain ⟨a, ns, rfl, tabs, hS, hk, q⟩ := hsp
  have keeps : ∀ b o, base.get? b = some o → s.heap.get? b = some o := fun b o e => (e0.bs b o e).1
  have inK : K.In s.heap := e0.mod.kin.keeps keeps
  have places : ∀ y ∈ (["_law_script"] : List Str).zip us, sc.names.lookup y.1 = some .local ∨ (sc.names.lookup y.1 = some .cell ∧ ((cellsFrom (s.heap.objs.size + 1) sc.names []).lookup y.1).isSome = true) := by
    intro y hy
    cases S.par y.1 (List.of_mem_zip (a := y.1) (b := y.2) hy).1 with
    | inl z => exact .inl z
    | inr z => exact .inr ⟨z, PySem.W.cellsFrom_some _ _ _ (.inl z)⟩
  refine codeAny_call_function hr.depth (inK _ _ lk) rfl S.co S.gen rfl (PySem.W.codeRec_of inK hcd) (hbt _ _ _ _ ?_)
  refine wpAny_newFunctionEnv_cells S.kind places fun env he s1 ic => ?_
  subst he
  refine ⟨(e0.mod.nolimit.keeps keeps).keeps ic.toInCall.keep, codeAny_func ?_⟩
  have I : Inv (cxOf CX0 P w K mg base N x sc f cdv A outer s H E0) [] (L2.start N [.ref a]) H s1 := inv_start S hr.hd e0 rfl rv ic
  have ht := hb A outer s H (hr.deeper _) hg
  obtain ⟨st', a1⟩ := hok ns hk
  have hN : 1 ≤ N.length := by
    have := congrArg List.length S.pre
    rw [List.length_take] at this
    simp at this
    omega
  have w0 : Wd T (fun _ => False) [] [] H := ⟨tabs, rfl, fun i j b d e h => by simp at h, fun i b d h => by simp at h, fun b z => z.elim⟩
  have ev : EnvOk [] (Bad (fun _ => False) [] []) H (List.replicate N.length none) (L2.start N [.ref a]) := by
    refine ⟨by unfold L2.start; simp; omega, fun i d e => ?_⟩
    rw [List.getElem?_replicate] at e
    split at e <;> cases e
  have reading : t (tSl (rSlA K) (tVar 0) tNoPart (tPart (tC (.int n)))) { nx := fun _ H' => Q .non H', rt := Q } (L2.start N [.ref a]) H := by
    refine hs ns _ _ _ _ _ _ _ _ _ w0 ev (fun d st2 Q2 hd q2 => ?_) a1 fun v H' L' f p => ?_
    · cases hd
      refine ⟨.ref a, rfl, n, rfl, .inl ⟨a, ns.map V.int, rfl, hS, fun p np => ?_⟩⟩
      refine q2 _ _ [] (.new w0 np) (.newL w0 np ?_)
      show Dens _ _ _ (cutL (ns.map Dt.int) none (some n)) (cutV (ns.map V.int) none (some n))
      unfold cutL cutV
      rw [List.length_map, List.length_map]
      exact ((dens_ints ns).drop _).take _
    · rw [den_bl p]; exact q H'
  refine wpAny_mono (ht.nox.run [] s1 _ H _ I reading) (fun fl s2 hq => ?_) fun _ _ hx => hx
  match fl, hq with
  | .ret u, ⟨v, _, H', J, rv', qv⟩ => exact ⟨v, H', J.os, J.bare, J.base, J.hok, rv', qv⟩
  | .next, ⟨_, H', J, qv⟩ => exact ⟨.non, H', J.os, J.bare, J.base, J.hok, rfl, qv⟩
  | .brk, ⟨_, _, _, qv⟩ => exact False.elim qv
  | .cont, ⟨_, _, _, qv⟩ => exact False.elim qv
end
end HB

set_option Elab.async false
set_option linter.all false
set_option maxRecDepth 100000
set_option maxHeartbeats 1000000
/-! HB, part r: the head's hook with tables of code objects; the end over it. -/
namespace HB
open PySem PySem.Spec PyProof.Rows L2

def tabAt (g : Addr → Option Obj) (R : Addr) : Bool := match g R with
  | some ⟨.none, none, .fields ps, sl⟩ => decide (ps.size = 0) && decide (sl.size = 0)
  | _ => false
def isStrV : Value → Bool
  | .str _ _ => true
  | _ => false
def isIntV : Value → Bool
  | .int _ _ => true
  | _ => false
def isBoolV : Value → Bool
  | .bool _ => true
  | _ => false
def hdOk (c R : Addr) (cls : Value) (vs : Array Value) : Bool :=
  decide (cls = .type "code") && (isStrV (vs.getD 18 .none) && (isIntV (vs.getD 7 .none) && (isBoolV (vs.getD 9 .none) && (isIntV (vs.getD 10 .none) && decide (c ≠ R)))))
def tabOk (g : Addr → Option Obj) (K : PySem.W.Frag) (x : Str) : Bool := match K.lookup (He.ga K x) with
  | some ⟨_, _, .func fd, _⟩ => (match fd.code with
    | .ref c => (match g c with
      | some ⟨cls, _, .fields vs, _⟩ => (match (vs[11]? : Option Value) with
        | some (.ref R) => (K.lookup R).isNone && (tabAt g R && hdOk c R cls vs)
        | _ => false)
      | _ => false)
    | _ => false)
  | _ => false
/-- the def x makes lambdas: c its code object, R the table -/
structure TabD (K : PySem.W.Frag) (h : Heap) (x : Str) (c R : Addr) : Prop where
  fn : ∃ oc od fd osl, K.lookup (He.ga K x) = some ⟨oc, od, .func fd, osl⟩ ∧ fd.code = .ref c
  no : K.lookup R = none
  tab : h.get? R = some tabO
  hd : PySem.W.CodeHd h c R
theorem tabAt_ok {h : Heap} {R : Addr} (e : tabAt h.get? R = true) : h.get? R = some tabO := by
  unfold tabAt at e
  split at e
  · rename_i ps sl q
    rw [Bool.and_eq_true, decide_eq_true_eq, decide_eq_true_eq] at e
    rw [q, Array.size_eq_zero_iff.mp e.1, Array.size_eq_zero_iff.mp e.2]
  · cases e
theorem str_of {v : Value} (h : isStrV v = true) : ∃ x t, v = .str x t := by
  cases v <;> first | exact ⟨_, _, rfl⟩ | cases h
theorem int_of {v : Value} (h : isIntV v = true) : ∃ x t, v = .int x t := by
  cases v <;> first | exact ⟨_, _, rfl⟩ | cases h
theorem bool_of {v : Value} (h : isBoolV v = true) : ∃ x, v = .bool x := by
  cases v <;> first | exact ⟨_, rfl⟩ | cases h
theorem tabOk_ok {h : Heap} {K : PySem.W.Frag} {x : Str} (e : tabOk h.get? K x = true) : ∃ c R, TabD K h x c R := by
  unfold tabOk at e
  split at e
  · rename_i oc od fd osl h1
    split at e
    · rename_i c h2
      split at e
      · rename_i cls od2 vs osl2 h3
        split at e
        · rename_i R h4
          simp only [Bool.and_eq_true] at e
          obtain ⟨e1, e2, e3⟩ := e
          unfold hdOk at e3
          simp only [Bool.and_eq_true, decide_eq_true_eq] at e3
          obtain ⟨a1, a2, a3, a4, a5, a6⟩ := e3
          obtain ⟨z1, t1, b1⟩ := str_of a2
          obtain ⟨z2, t2, b2⟩ := int_of a3
          obtain ⟨z3, b3⟩ := bool_of a4
          obtain ⟨z4, t4, b4⟩ := int_of a5
          refine ⟨c, R, ⟨oc, od, fd, osl, h1, h2⟩, Option.isNone_iff_eq_none.mp e1, tabAt_ok e2, _, vs, z1, t1, z2, t2, z3, z4, t4, h3, a1, rfl, h4, ?_, b1, b2, b3, b4, a6⟩
          rw [Array.getD_eq_getD_getElem?, h4]; rfl
        · cases e
      · cases e
    · cases e
  · cases e
def hookT (n : Nat) (fa : List He.Fa) (fn : List He.DefD) (ls : List Str) : PySem.W.Hook where
  α := He.AlD × Bool
  obs := fun s => (He.obsDG n fa fn s.heap.get?, ls.all (tabOk s.heap.get? (He.frG s.heap.get? (He.asD s.heap.get? n))))
  val := fun _ => (He.valD fn, true)
  says := fun _ h => ∃ K : PySem.W.Frag, K.In h ∧ He.SaysD fa fn K ∧ ∀ x ∈ ls, ∃ c R, TabD K h x c R
  of := fun _ s e => ⟨He.frG s.heap.get? (He.asD s.heap.get? n), He.frG_in, congrArg (fun z : He.AlD × Bool => z.1) e, fun x hx => tabOk_ok (List.all_eq_true.mp (congrArg (fun z : He.AlD × Bool => z.2) e) x hx)⟩
  keeps := fun _ _ _ ⟨K, hK, c, t⟩ k => ⟨K, PySem.W.Frag.In.keeps hK k, c, fun x hx => let ⟨a, R, d⟩ := t x hx; ⟨a, R, d.fn, d.no, k _ _ d.tab, d.hd.keeps k⟩⟩
def obT (n : Nat) (fa : List He.Fa) (fn : List He.DefD) (ls : List Str) (g : Addr → Option Obj) : He.AlD × Bool := (He.obsDG n fa fn g, ls.all (tabOk g (He.frG g (He.asD g n))))
theorem obT_eq {n : Nat} {fa : List He.Fa} {fn : List He.DefD} {ls : List Str} {g : Addr → Option Obj} {s : Shared} (h : ∀ a, g a = s.heap.get? a) : obT n fa fn ls g = (hookT n fa fn ls).obs s := by
  have e : g = s.heap.get? := funext h
  rw [e]; rfl
theorem walk_goE {l : PySem.W.OpenLaw} {n k : Nat} {q : Program} {loose : List Str} {XP : (Str → Option Value) → Heap → Prop} {YP : World → Heap → Prop} {d : DefRec} {x : Str}
    (hn : l.most = some n) (hn2 : n ≤ sizeLine) (hdf : d.params.defaults = []) (hr : Room k callerA)
    (F : ∀ (w : World) (mg : Str → Option Value) (fa : Addr) (h : Heap), YP w h → h.Ns mainGlobals mg → mg d.name = some (.ref fa) → ∃ K : PySem.W.Frag, K.In h ∧ LawAt l w K k n x mg fa h) :
    PySem.W.WalkO q loose XP YP l.row.toRowW d [] (fun f vs => PySem.call f vs) := by
  refine Att.attach_callB hn hdf fun w s₀ s₁ mg mb fa o pm cd doc a vs ns G Y ho hd hcd hmg hobj hints hlen hbits hg => ?_
  obtain ⟨K, KX, fd, cs, sp, hT, nT, C, hb, hsp, hF⟩ := F w mg fa _ Y G.T.g hmg
  exact law_go KX G.T.g G.T.b G.T.builtins G.T.nolimit hg hT nT C G.T.bmain hobj hints (Nat.le_trans hlen hn2) hr hF hb fun H hH hS => hsp H a ns hlen hbits hH hS
end HB

set_option Elab.async false
set_option linter.all false
set_option maxRecDepth 100000
set_option maxHeartbeats 1000000
/-! HB, part s: more of the rules, as the printed derivations use them. -/
namespace HB
open PySem PySem.Spec PyProof.Rows L2

abbrev cT : Int → Int → Bool := fun _ _ => true
def cMul (i j : Int) : Bool := decide ((-(2 ^ 64) < i ∧ i < 2 ^ 64) ∨ (-(2 ^ 64) < j ∧ j < 2 ^ 64))
def cDiv (_ j : Int) : Bool := decide (0 < j ∧ j < 1073741824)
def cMod (_ j : Int) : Bool := decide (0 < j)
def cPow (i j : Int) : Bool := decide (0 ≤ j ∧ (Builtin.Int.intBits i : Int) * j ≤ 2 ^ 27)
def gMin : Sto → Dt → Dt → Option (Dt × Sto) := gI cT fun i j => i - j
def gMul : Sto → Dt → Dt → Option (Dt × Sto) := gI cMul fun i j => i * j
def gDiv : Sto → Dt → Dt → Option (Dt × Sto) := gI cDiv fun i j => i / j
def gMod : Sto → Dt → Dt → Option (Dt × Sto) := gI cMod fun i j => i % j
def gPow : Sto → Dt → Dt → Option (Dt × Sto) := gI cPow fun i j => i ^ j.toNat
def gLt : Sto → Dt → Dt → Option (Dt × Sto) := gIb fun i j => decide (i < j)
def gGt : Sto → Dt → Dt → Option (Dt × Sto) := gIb fun i j => decide (j < i)
def gGe : Sto → Dt → Dt → Option (Dt × Sto) := gIb fun i j => decide (j ≤ i)
theorem cMul_ok {i j : Int} (h : cMul i j = true) : CMul i j := by unfold cMul at h; simp only [decide_eq_true_eq] at h; exact h
theorem cDiv_ok {i j : Int} (h : cDiv i j = true) : CDiv i j := by unfold cDiv at h; simp only [decide_eq_true_eq] at h; exact h
theorem cMod_ok {i j : Int} (h : cMod i j = true) : 0 < j := by unfold cMod at h; simp only [decide_eq_true_eq] at h; exact h
theorem cPow_ok {i j : Int} (h : cPow i j = true) : CPowW i j := by unfold cPow at h; simp only [decide_eq_true_eq] at h; exact h
section
variable {T : List (Addr × Str)} {X : Cx} {a b c e o : Expr} {es rest : List Expr} {fa fb fc : SE} {ga gb : ST} {fs : SA} {pos : Pos}
theorem jAdd (ha : PE X a (rE T fa)) (hb : PE X b (rE T fb)) : PE X (.BinOp a .Add b pos) (rE T (eOp2 gAdd fa fb)) := jOp op_Add vo_Add ha hb
theorem jMin (ha : PE X a (rE T fa)) (hb : PE X b (rE T fb)) : PE X (.BinOp a .Sub b pos) (rE T (eOp2 gMin fa fb)) := jOp op_sub vo_I0 ha hb
theorem jMul (ha : PE X a (rE T fa)) (hb : PE X b (rE T fb)) : PE X (.BinOp a .Mult b pos) (rE T (eOp2 gMul fa fb)) := jOp op_mul (vo_I fun i j h => cMul_ok h) ha hb
theorem jDiv (ha : PE X a (rE T fa)) (hb : PE X b (rE T fb)) : PE X (.BinOp a .FloorDiv b pos) (rE T (eOp2 gDiv fa fb)) := jOp op_fdiv (vo_I fun i j h => cDiv_ok h) ha hb
theorem jMod (ha : PE X a (rE T fa)) (hb : PE X b (rE T fb)) : PE X (.BinOp a .Mod b pos) (rE T (eOp2 gMod fa fb)) := jOp op_mod (vo_I fun i j h => cMod_ok h) ha hb
theorem jPow (ha : PE X a (rE T fa)) (hb : PE X b (rE T fb)) : PE X (.BinOp a .Pow b pos) (rE T (eOp2 gPow fa fb)) := jOp op_powW (vo_I fun i j h => cPow_ok h) ha hb
def eNeg (f : SE) : SE := fun r st => (f r st).bind fun x => match x.1 with
  | .int i => some (.int (-i), x.2)
  | _ => none
theorem jNeg (ha : PE X a (rE T fa)) : PE X (.UnaryOp .USub a pos) (rE T (eNeg fa)) := by
  refine toE (pe_un un_neg ha) fun Z L st H s r d st' Q w e h q => ?_
  obtain ⟨⟨dx, st1⟩, h1, h⟩ := bind_some' h
  refine sE Z L st H s r dx _ _ w e h1 fun x H1 L1 f1 p1 => ?_
  cases dx with
  | int i => cases h; exact ⟨i, den_int p1, q _ H1 L1 f1 Den.int⟩
  | _ => cases h
theorem vLt : VO2 T (rI0 fun i j => .bl (decide (i < j))) gLt := vo_Ib
theorem vGt : VO2 T (rI0 fun i j => .bl (decide (j < i))) gGt := vo_Ib
theorem vGe : VO2 T (rI0 fun i j => .bl (decide (j ≤ i))) gGe := vo_Ib
theorem jChain {op op' : CmpOp} {r r' : R2} {g g' : Sto → Dt → Dt → Option (Dt × Sto)} (ho : OpR X (compareOp op) r) (hv : VO2 T r g) (ho' : OpR X (compareOp op') r') (hv' : VO2 T r' g') (ha : PE X a (rE T fa)) (hb : PE X b (rE T fb)) (hc : PE X c (rE T fc))
    (hm : lastMarks [op, op'] [b, c] = false := by with_unfolding_all rfl) : PE X (.Compare a [op, op'] [b, c] pos) (rE T (eChain g g' fa fb fc)) := toE (pe_chain ho ho' ha hb hc hm) (sim_chain hv hv' sE sE sE)
theorem jtChain {op op' : CmpOp} {r r' : R2} {g g' : Sto → Dt → Dt → Option (Dt × Sto)} (ho : OpR X (compareOp op) r) (hv : VO2 T r g) (ho' : OpR X (compareOp op') r') (hv' : VO2 T r' g') (ha : PE X a (rE T fa)) (hb : PE X b (rE T fb)) (hc : PE X c (rE T fc))
    (hm : lastMarks [op, op'] [b, c] = false := by with_unfolding_all rfl) : PT X (.Compare a [op, op'] [b, c] pos) (rT T (cB (eChain g g' fa fb fc))) := toTT (pt_chain ho ho' ha hb hc hm) (sim_cBT (sim_chain hv hv' sE sE sE))
theorem jg (i : Nat) {x : Str} (hN : X.N.Nodup) (hi : X.N[i]? = some x := by rfl) (hx : Loc X.env.scope x := by first | exact Or.inl rfl | exact Or.inr rfl) (hf : X.fn x = true ∨ X.env.scope.names.lookup x = some .local := by first | exact .inl rfl | exact .inr rfl) : PG X (.Name x pos) (gName i) := pg_name hN hi hx hf
theorem sim_g2 {K : PySem.W.Frag} {i j : Nat} : SimG T [i, j] (gTup K 2 (gCons (gName i) (gCons (gName j) gNil))) (kTup (ksCons (kName i) (ksCons (kName j) ksNil))) := by
  refine sim_gtup (is := [i] ++ ([j] ++ [])) (sim_gcons sim_gname (sim_gcons sim_gname sim_gnil)) fun ds r r' h => ?_
  match ds, h with
  | [_, _], _ => rfl
  | [], h => cases h
  | [_], h => cases h
  | _ :: _ :: _ :: _, h => cases h
theorem jg2 {x y : Expr} {i j k : Nat} (hc : X.calm = true) (h1 : PG X x (gName i)) (h2 : PG X y (gName j)) (hs : (assignEach [x, y] X.env).map (·.2) = assign x X.env :: (assignEach [y] X.env).map (·.2) := by rfl) (hs2 : (assignEach [y] X.env).map (·.2) = assign y X.env :: (assignEach [] X.env).map (·.2) := by rfl)
    (hn : (assignEach [x, y] X.env).length = 2 := by rfl) (hst : (assignEach [x, y] X.env).findIdx? (·.1) = none := by rfl) : PG X (.Tuple [x, y] k pos) (gTup X.K 2 (gCons (gName i) (gCons (gName j) gNil))) := pg_tup hc (pgs_cons h1 (pgs_cons h2 pgs_nil hs2) hs) hn hst
theorem jLcR {elt tg iter : Expr} {ifs : List Expr} {scope : Scope} {own : List (Str × Nat)} {g : TG} {k : SG} {fi : SA} {is : List Nat} (hc : X.calm = true) (hN : X.N.Nodup) (hk : SimG T is g k) (hi : PI X tg iter (rI T fi)) (ok : BlkOk X.N X.env.scope scope own)
    (hg : ∀ s H C cl fp, PG (blkX X scope s H C cl fp) tg g) (ht : ∀ s H C cl fp, PTs (blkX X scope s H C cl fp) ifs (rT T ga)) (he : ∀ s H C cl fp, PE (blkX X scope s H C cl fp) elt (rE T fa)) (hz : ∀ i ∈ is, i ∈ own.map (·.2)) (hs : ∀ x, foldedSetIterable iter X.env x = pure x := by intro _; rfl) :
    PE X (.ListComp elt [⟨tg, iter, ifs, 0⟩] scope pos) (rE T (toR (lc fi (own.map (·.2)) k ga fa))) := toE (pe_lc hc hN hi ok hg ht he hs) (sim_lcR sI hk sT sE hz)
theorem jtNil : PTs X [] (rT T cYes) := toTs pts_nil sim_yes
theorem jtOne (h : PT X c (rT T ga)) : PTs X [c] (rT T ga) := pts_one h
end
end HB

set_option Elab.async false
set_option linter.all false
set_option maxRecDepth 100000
set_option maxHeartbeats 1000000
/-! HB, part t: the law's first statement. -/
namespace HB
open PySem PySem.Spec PyProof.Rows L2
section
variable {T : List (Addr × Str)} {K : PySem.W.Frag} {i j : Nat} {n : Int} {fz fd : SE} {gb gr : SS}
/-- for x in [f(y) for y in script[:n] + [0]]: .., the rest -/
def tLaw (T : List (Addr × Str)) (K : PySem.W.Frag) (i j : Nat) (fz fd : SE) (gb gr : SS) (te : TE) : TS :=
  tSeq (tFor (iList K (tLc (iList K (tOp rAdd te (rE T fz))) (gName j) tYes (rE T fd) [j])) (gName i) (rS T gb)) (rS T gr)
def gLaw (i j : Nat) (n : Int) (fz fd : SE) (gb gr : SS) (ns : List Int) : SS :=
  sSeq (sFor (iE itL (toV (lc (iE itL (eOp2 gAdd (eScr n ns) fz)) [j] (kName j) cYes fd))) (kName i) gb) gr
theorem law_first (ns : List Int) (te : TE) (Z : Addr → Prop) (L : List Addr) (st : Sto) (H : Hp) (s : L2.St) (r : Evr) (o : Ou) (D : Ends) (w : Wd T Z L st H) (e : EnvOk L (Bad Z L st) H r s) (hte : EAt T Z L st H s r te (eScr n ns))
    (h : gLaw i j n fz fd gb gr ns r st = some o) (q : OuOk T Z L st H D o) : tLaw T K i j fz fd gb gr te D s H := by
  obtain ⟨o1, h1, h2⟩ := bind_some' h
  refine for_run (at_iL (at_lcV (at_iL (at_op e hte sE vo_Add)) sim_gname sim_yes sE (by simp) w e)) sim_gname sS w e h1 ?_
  cases o1 with
  | nx r1 st1 =>
    intro s1 H1 L1 f1 e1
    refine sS Z L1 st1 H1 s1 r1 o _ f1.wd e1 h2 ?_
    cases o with
    | nx r2 st2 => exact fun s2 H2 L2 f2 e2 => q s2 H2 L2 (f1.trans f2) e2
    | rt d st2 => exact fun v H2 L2 f2 e2 => q v H2 L2 (f1.trans f2) e2
    | bk r2 st2 => exact fun s2 H2 L2 f2 e2 => q s2 H2 L2 (f1.trans f2) e2
    | ct r2 st2 => exact fun s2 H2 L2 f2 e2 => q s2 H2 L2 (f1.trans f2) e2
  | rt d st1 => cases h2; exact q
  | bk r1 st1 => cases h2; exact q
  | ct r1 st1 => cases h2; exact q
end
end HB

set_option Elab.async false
set_option linter.all false
set_option maxRecDepth 100000
set_option maxHeartbeats 1000000
/-! k01: what the defs compute, plainly. -/
namespace K01
open PySem PySem.Spec PyProof.Rows L2 HB
def letB (z : Str) : Bool := !decide (z.cps.toList < ("!" : Str).cps.toList) && !decide (("~" : Str).cps.toList < z.cps.toList)
def wordB (n : Nat) (w : Str) : Bool := decide (1 ≤ w.length) && (decide (w.length ≤ 7) && (w.cps.toList.all (fun c => letB ⟨#[c]⟩) && decide (w.length = n)))
def goodW (ws : List Str) : Bool := decide (1 ≤ ws.length) && (decide (ws.length ≤ 5) && (ws.all (wordB (ws.headD "").length) && decide ws.Nodup))
def ins2 (k : Str) (l : List Str) : List Str := if k ∈ l then l else l ++ [k]
def pre (w : Str) (n : Nat) : Str := ⟨(w.cps.toList.take n).toArray⟩
def preOf (w : Str) : List Str := (List.range (w.length + 1)).map (pre w)
def keysOf (ws : List Str) : List Str := (ws.flatMap preOf).foldl (fun l k => ins2 k l) []
def allSt (ws : List Str) : List Str := sortK (keysOf ws)
def lastS (z : Str) : Str := ⟨#[z.cps.toList.getLastD 0]⟩
def after (ws : List Str) (s : Str) : List Str := ((allSt ws).filter fun (o : Str) => decide (o ≠ ("" : Str)) && decide (pre o (o.length - 1) = s)).map lastS
def below (ws : List Str) (s : Str) : List Str := (allSt ws).filter fun o => decide (o.length < s.length) && Txt.endswith s o
def w1 (ds : List Dt) (f : List Str → Dt) : Option Dt := (strs' ds).bind fun ws => if goodW ws = true then some (f ws) else none
def m_is_letter : List Dt → Option Dt
  | [.str z] => some (.bl (letB z))
  | _ => none
def m_check_words : List Dt → Option Dt
  | [.lst ds] => w1 ds fun _ => .non
  | _ => none
def m_all_states : List Dt → Option Dt
  | [.lst ds] => w1 ds fun ws => .lst ((allSt ws).map .str)
  | _ => none
def m_states : List Dt → Option Dt := m_all_states
def m_check_state : List Dt → Option Dt
  | [.str s, .lst ds] => (strs' ds).bind fun ws => if goodW ws = true ∧ s ∈ allSt ws then some .non else none
  | _ => none
def m_ends_in : List Dt → Option Dt
  | [.lst ds, .str s] => (strs' ds).bind fun ws => if goodW ws = true ∧ s ∈ allSt ws then some (.lst ((below ws s).map .str)) else none
  | _ => none
def m_ends : List Dt → Option Dt := m_ends_in
def m_goes_on : List Dt → Option Dt
  | [.lst ds, .str s] => (strs' ds).bind fun ws => if goodW ws = true ∧ s ∈ allSt ws then some (.lst ((after ws s).map .str)) else none
  | _ => none
def bigM : Int := ((10 ^ 60) ^ 60) ^ 4
def m__law_draws : List Dt → Option Dt
  | [.int c] => some (.lst [.int (c % bigM), .int 0, .bl (decide (10 ^ 18 ≤ c))])
  | _ => none
def mixN (a k : Int) : Int :=
  let n := (a % 1000003 + k * k * 7919 + k) * 48271 % 2147483629
  let m := n * n % 2147483587
  m * (m + 2) % 2147483579 / 7
/-- the draws: what is left, how many were made, whether by figures -/
structure Drw where
  a : Int
  k : Nat
  b : Bool
def Drw.dt (x : Drw) : Dt := .lst [.int x.a, .int x.k, .bl x.b]
def nextN (x : Drw) : Int × Drw := if x.b = true then (x.a % 1000000, ⟨x.a / 1000000, x.k + 1, x.b⟩) else (mixN x.a (x.k + 1), ⟨x.a, x.k + 1, x.b⟩)
def asDrw : Dt → Option Drw
  | .lst [.int a, .int k, .bl b] => if 0 ≤ k ∧ k < 1000000 then some ⟨a, k.toNat, b⟩ else none
  | _ => none
def m__law_next (c : Dt) (ds : List Dt) : Option (Dt × Dt) := match ds with
  | [] => (asDrw c).map fun x => (.int (nextN x).1, (nextN x).2.dt)
  | _ => none
def signsOf (i : Nat) : Str := (["ab", "ab", "abc", "!~z"] : List Str).getD i ""
def wordOf (sg : Str) : Nat → Drw → List Nat × Drw
  | 0, x => ([], x)
  | n + 1, x => let y := nextN x; let z := wordOf sg n y.2; (sg.cps.toList.getD ((y.1 % sg.length).toNat) 0 :: z.1, z.2)
def wordsOf (sg : Str) (lg : Nat) : Nat → List Str → Drw → List Str × Drw
  | 0, l, x => (l, x)
  | n + 1, l, x => let y := wordOf sg lg x; wordsOf sg lg n (ins2 ⟨y.1.toArray⟩ l) y.2
def lawWords (most : Int) (x : Drw) : List Str × Drw :=
  let y1 := nextN x
  let y2 := nextN y1.2
  let y3 := nextN y2.2
  wordsOf (signsOf (y1.1 % 4).toNat) (1 + y2.1 % most).toNat (1 + y3.1 % 5).toNat [] y3.2
def m__law_words (c : Dt) (ds : List Dt) : Option (Dt × Dt) := match ds with
  | [.int 7] => (asDrw c).bind fun x => if x.k = 0 then some (.lst ((lawWords 7 x).1.map .str), (lawWords 7 x).2.dt) else none
  | _ => none
def m__law_states : List Dt → Option Dt := m_all_states
def m__law_behind : List Dt → Option Dt := m_goes_on
def m__law_right : List Dt → Option Dt
  | [.lst ds] => w1 ds fun _ => .bl true
  | _ => none
end K01

set_option Elab.async false
set_option linter.all false
set_option maxRecDepth 100000
set_option maxHeartbeats 4000000
/-! printed by pr.py: the defs of the row, their plain functions, their derivations. -/
namespace K01
open PySem PySem.Spec PyProof.Rows L2 HB
def top (i : Nat) : Stmt := PySem.Challenge.pw_halfback_k01_states.main.body.getD i (.Pass ⟨0, 0, 0, 0⟩)
abbrev FnP (K : PySem.W.Frag) (x : Str) (st : Stmt) (f : Addr) (fd : FuncData) : Prop := FunD K x x (defArgs st) (defBody st) (defScope st) [] [] f fd
abbrev s_is_letter : Stmt := top 6
def N_is_letter : List Str := ["sign"]
theorem sc_is_letter : FnScope N_is_letter ["sign"] (defScope s_is_letter) := ⟨rfl, rfl, rfl, by decide +kernel, rfl, by decide +kernel, by decide +kernel⟩
abbrev s_check_words : Stmt := top 7
def N_check_words : List Str := ["words", "index", "word", "sign"]
theorem sc_check_words : FnScope N_check_words ["words"] (defScope s_check_words) := ⟨rfl, rfl, rfl, by decide +kernel, rfl, by decide +kernel, by decide +kernel⟩
abbrev s_all_states : Stmt := top 8
def N_all_states : List Str := ["words", "some", "word", "many"]
theorem sc_all_states : FnScope N_all_states ["words"] (defScope s_all_states) := ⟨rfl, rfl, rfl, by decide +kernel, rfl, by decide +kernel, by decide +kernel⟩
abbrev s_letters_behind : Stmt := top 9
def N_letters_behind : List Str := ["words", "some", "state", "other"]
theorem sc_letters_behind : FnScope N_letters_behind ["words"] (defScope s_letters_behind) := ⟨rfl, rfl, rfl, by decide +kernel, rfl, by decide +kernel, by decide +kernel⟩
abbrev s_check_state : Stmt := top 10
def N_check_state : List Str := ["state", "words"]
theorem sc_check_state : FnScope N_check_state ["state", "words"] (defScope s_check_state) := ⟨rfl, rfl, rfl, by decide +kernel, rfl, by decide +kernel, by decide +kernel⟩
abbrev s_ends_in : Stmt := top 11
def N_ends_in : List Str := ["words", "state", "other"]
theorem sc_ends_in : FnScope N_ends_in ["words", "state"] (defScope s_ends_in) := ⟨rfl, rfl, rfl, by decide +kernel, rfl, by decide +kernel, by decide +kernel⟩
abbrev s_states : Stmt := top 12
def N_states : List Str := ["words"]
theorem sc_states : FnScope N_states ["words"] (defScope s_states) := ⟨rfl, rfl, rfl, by decide +kernel, rfl, by decide +kernel, by decide +kernel⟩
abbrev s_goes_on : Stmt := top 13
def N_goes_on : List Str := ["words", "state"]
theorem sc_goes_on : FnScope N_goes_on ["words", "state"] (defScope s_goes_on) := ⟨rfl, rfl, rfl, by decide +kernel, rfl, by decide +kernel, by decide +kernel⟩
abbrev s_ends : Stmt := top 14
def N_ends : List Str := ["words", "state"]
theorem sc_ends : FnScope N_ends ["words", "state"] (defScope s_ends) := ⟨rfl, rfl, rfl, by decide +kernel, rfl, by decide +kernel, by decide +kernel⟩
abbrev s__law_draws : Stmt := top 16
def N__law_draws : List Str := ["_law_cell"]
theorem sc__law_draws : FnScope N__law_draws ["_law_cell"] (defScope s__law_draws) := ⟨rfl, rfl, rfl, by decide +kernel, rfl, by decide +kernel, by decide +kernel⟩
abbrev s__law_next : Stmt := top 17
def N__law_next : List Str := ["_law_draws_here", "_law_k", "_law_number"]
theorem sc__law_next : FnScope N__law_next ["_law_draws_here"] (defScope s__law_next) := ⟨rfl, rfl, rfl, by decide +kernel, rfl, by decide +kernel, by decide +kernel⟩
abbrev s__law_words : Stmt := top 18
def N__law_words : List Str := ["_law_draws_here", "_law_most", "_law_signs", "_law_long", "_law_told", "_law_k", "_law_word", "_law_at"]
theorem sc__law_words : FnScope N__law_words ["_law_draws_here", "_law_most"] (defScope s__law_words) := ⟨rfl, rfl, rfl, by decide +kernel, rfl, by decide +kernel, by decide +kernel⟩
abbrev s__law_states : Stmt := top 19
def N__law_states : List Str := ["_law_some", "_law_told", "_law_long", "_law_word"]
theorem sc__law_states : FnScope N__law_states ["_law_some"] (defScope s__law_states) := ⟨rfl, rfl, rfl, by decide +kernel, rfl, by decide +kernel, by decide +kernel⟩
abbrev s__law_behind : Stmt := top 20
def N__law_behind : List Str := ["_law_some", "_law_here", "_law_told", "_law_other", "_law_word"]
theorem sc__law_behind : FnScope N__law_behind ["_law_some", "_law_here"] (defScope s__law_behind) := ⟨rfl, rfl, rfl, by decide +kernel, rfl, by decide +kernel, by decide +kernel⟩
abbrev s__law_right : Stmt := top 21
def N__law_right : List Str := ["_law_some", "_law_kept", "_law_due", "_law_told", "_law_here", "_law_after", "_law_below", "_law_row", "_law_other"]
theorem sc__law_right : FnScope N__law_right ["_law_some"] (defScope s__law_right) := ⟨rfl, rfl, rfl, by decide +kernel, rfl, by decide +kernel, by decide +kernel⟩
abbrev s_law : Stmt := top 22
def N_law : List Str := ["_law_script", "_law_draws_here", "_law_cell"]
theorem sc_law : FnScope N_law ["_law_script"] (defScope s_law) := ⟨rfl, rfl, rfl, by decide +kernel, rfl, by decide +kernel, by decide +kernel⟩
def g_is_letter : SS :=
  (sRet (eChain gLe gLe (eC (.str "!")) (eVar 0) (eC (.str "~"))))
def F_is_letter : List Dt → Sto → Option (Dt × Sto) := bodyF g_is_letter 1
theorem ok_is_letter {T : List (Addr × Str)} {P : Program} {w : World} {K : PySem.W.Frag} {mg : Str → Option Value} {base : Heap} {f : Addr} {fd : FuncData} (F : FnP K "is_letter" s_is_letter f fd)  :
    GFn P w K mg base 1 f fd ["sign"] (SpF T 1 F_is_letter) := by
  refine gfnJ (k := 0) (N := N_is_letter) (ps := ["sign"]) F sc_is_letter fun A outer s H hr hg => ?_
  have sc := sc_is_letter
  have hu := hr.units
  have hu1 := hu_of hr
  exact (jsOne (jsRet (jChain op_LeA vo_Le op_LeA vo_Le jStr (jv 0) jStr)))
def g_check_words : SS :=
  (sSeq (sIf (cOr (cNot (cB (eN (gIs "list") (aCons (eVar 0) aNil)))) (cNot (cB (eChain gLe gLe (eC (.int 1)) (eN gLen (aCons (eVar 0) aNil)) (eC (.int 5))))))
  sNo
  sNx)
  (sFor (iR en (aCons (eVar 0) aNil)) (kTup (ksCons (kName 1) (ksCons (kName 2) ksNil)))
  (sSeq (sIf (cOr (cNot (cB (eN (gIs "str") (aCons (eVar 2) aNil)))) (cNot (cB (eChain gLe gLe (eC (.int 1)) (eN gLen (aCons (eVar 2) aNil)) (eC (.int 7))))))
  sNo
  sNx)
  (sIf (cOr (cNot (cB (eN gAll (aCons (toV (lc (iE itS (eVar 2)) [3] (kName 3) cYes (eN (gF 1 (liftV m_is_letter)) (aCons (eVar 3) aNil)))) aNil)))) (cOr (cB (eOp2 gNe (eN gLen (aCons (eVar 2) aNil)) (eN gLen (aCons (eOp2 gIx (eVar 0) (eC (.int 0))) aNil)))) (cB (eOp2 (gIn false) (eVar 2) (eSl (eVar 0) oNo (oE (eVar 1)))))))
  sNo
  sNx))))
def F_check_words : List Dt → Sto → Option (Dt × Sto) := bodyF g_check_words 4
theorem ok_check_words {T : List (Addr × Str)} {P : Program} {w : World} {K : PySem.W.Frag} {mg : Str → Option Value} {base : Heap} {f : Addr} {fd : FuncData} (F : FnP K "check_words" s_check_words f fd) (cV_is_letter : GP P w K mg base 1 "is_letter" ["sign"] (SpF T 1 (liftV m_is_letter))) (n_all : mg "all" = none) (n_enumerate : mg "enumerate" = none) (n_isinstance : mg "isinstance" = none) (n_len : mg "len" = none) (n_list : mg "list" = none) (n_str : mg "str" = none) {t_MOST_LETTERS : Tok} (i_MOST_LETTERS : mg "MOST_LETTERS" = some (.int 7 t_MOST_LETTERS)) {t_MOST_WORDS : Tok} (i_MOST_WORDS : mg "MOST_WORDS" = some (.int 5 t_MOST_WORDS)) :
    GFn P w K mg base 2 f fd ["words"] (SpF T 1 F_check_words) := by
  refine gfnJ (k := 1) (N := N_check_words) (ps := ["words"]) F sc_check_words fun A outer s H hr hg => ?_
  have sc := sc_check_words
  have hu := hr.units
  have hu1 := hu_of hr
  exact (jsCons (jsIf (PW.pt (jwOr (jtNot (jtVal (jIsi (by rfl) n_isinstance (by rfl) n_list boot_list (jv 0)))) (jwOr1 (jtNot (jtChain op_LeA vo_Le op_LeA vo_Le jInt (jB call_lenA vo_len (by rfl) n_len boot_len (jCons (jv 0) jNil)) (jGI (by rfl) i_MOST_WORDS))))))
    jsNo
    jsNil)
    (jsOne (jsFor PassesOwn.never rfl sim_g2 (jiEn (by rfl) n_enumerate (jCons (jv 0) jNil)) (jg2 rfl (jg 1 sc.nd) (jg 2 sc.nd))
    (jsCons (jsIf (PW.pt (jwOr (jtNot (jtVal (jIsi (by rfl) n_isinstance (by rfl) n_str boot_str (jv 2)))) (jwOr1 (jtNot (jtChain op_LeA vo_Le op_LeA vo_Le jInt (jB call_lenA vo_len (by rfl) n_len boot_len (jCons (jv 2) jNil)) (jGI (by rfl) i_MOST_LETTERS))))))
    jsNo
    jsNil)
    (jsOne (jsIf (PW.pt (jwOr (jtNot (jtVal (jB (cr_all rfl) vo_all (by rfl) n_all boot_all (jCons (jLcV (own := [("sign", 3)]) rfl sc.nd sim_gname (jiS (jv 2)) (blkOk_by (by rfl)) (fun _ _ _ _ _ => (jg 3 sc.nd)) (fun _ _ _ _ _ => jtNil) (fun _ _ _ _ _ => (jCallP (k := 1) (x := "is_letter") (ps := ["sign"]) (F := (liftV m_is_letter)) (by exact cV_is_letter) (by exact hr.mono (by decide)) (by exact hg) (by rfl) (jCons (jv 3) jNil))) (by decide)) jNil)))) (jwOr (jtCmp (op_NeA (by exact hu)) vo_Ne (jB call_lenA vo_len (by rfl) n_len boot_len (jCons (jv 2) jNil)) (jB call_lenA vo_len (by rfl) n_len boot_len (jCons (jIx (by exact hu) (jv 0) jInt) jNil))) (jwOr1 (jtCmp (op_InA (by exact hu1)) vo_In (jv 2) (jSl (jv 0) joNone (joSome (jv 1))))))))
    jsNo
    jsNil))))))
def g_all_states : SS :=
  (sSeq (sSet 1 eDR)
  (sSeq (sFor (iE itL (eVar 0)) (kName 2)
  (sFor (iR rg1 (aCons (eOp2 gAdd (eN gLen (aCons (eVar 2) aNil)) (eC (.int 1))) aNil)) (kName 3)
  (sDP (eVar 1) (eSl (eVar 2) oNo (oE (eVar 3))) (eC (.bl true)))))
  (sRet (eSortK (eVar 1)))))
def F_all_states : List Dt → Sto → Option (Dt × Sto) := bodyF g_all_states 4
theorem ok_all_states {T : List (Addr × Str)} {P : Program} {w : World} {K : PySem.W.Frag} {mg : Str → Option Value} {base : Heap} {f : Addr} {fd : FuncData} (F : FnP K "all_states" s_all_states f fd) {c R : Addr} (TB : LamX.TabB base mg c R) (hcode : fd.code = .ref c) (hmT : (R, ("all_states" : Str) ++ ".<locals>." ++ "<lambda>") ∈ T) (huT : ∀ p ∈ T, p.1 = R → p.2 = ("all_states" : Str) ++ ".<locals>." ++ "<lambda>") (n_len : mg "len" = none) (n_range : mg "range" = none) (n_sorted : mg "sorted" = none) :
    GFn P w K mg base 3 f fd ["words"] (SpF T 1 F_all_states) := by
  refine gfnJ (k := 2) (N := N_all_states) (ps := ["words"]) F sc_all_states fun A outer s H hr hg => ?_
  have sc := sc_all_states
  have hu := hr.units
  have hu1 := hu_of hr
  exact (jsCons (jsSet (i := 1) sc.nd jDR)
    (jsCons (jsFor PassesOwn.never rfl sim_gname (jiL (jv 0)) (jg 2 sc.nd)
    (jsOne (jsFor PassesOwn.never rfl sim_gname (jiR1 (by rfl) n_range (jCons (jAdd (jB call_lenA vo_len (by rfl) n_len boot_len (jCons (jv 2) jNil)) jInt) jNil)) (jg 3 sc.nd)
    (jsOne (jsDP (by exact hu) (jv 1) (jSl (jv 2) joNone (joSome (jv 3))) jBl)))))
    (jsOne (jsRet (jSortK (k := 0) (by exact TB) (by exact hcode) (by exact hmT) (by exact huT) (by exact hr.mono (by decide)) (by rfl) n_sorted n_len (jv 1))))))
def g_letters_behind : SS :=
  (sSeq (sSet 1 (eN (gF 1 (liftV m_all_states)) (aCons (eVar 0) aNil)))
  (sRet (dToV (dc (iE itL (eVar 1)) [2] (kName 2) cYes (eVar 2) (toR (lc (iE itL (eVar 1)) [3] (kName 3) (cAnd (cB (eOp2 gNe (eVar 3) (eC (.str "")))) (cB (eOp2 gEq (eSl (eVar 3) oNo (oE (eNeg (eC (.int 1))))) (eVar 2)))) (eOp2 gIx (eVar 3) (eNeg (eC (.int 1))))))))))
def F_letters_behind : List Dt → Sto → Option (Dt × Sto) := bodyF g_letters_behind 4
theorem ok_letters_behind {T : List (Addr × Str)} {P : Program} {w : World} {K : PySem.W.Frag} {mg : Str → Option Value} {base : Heap} {f : Addr} {fd : FuncData} (F : FnP K "letters_behind" s_letters_behind f fd) (cV_all_states : GP P w K mg base 3 "all_states" ["words"] (SpF T 1 (liftV m_all_states))) :
    GFn P w K mg base 4 f fd ["words"] (SpF T 1 F_letters_behind) := by
  refine gfnJ (k := 3) (N := N_letters_behind) (ps := ["words"]) F sc_letters_behind fun A outer s H hr hg => ?_
  have sc := sc_letters_behind
  have hu := hr.units
  have hu1 := hu_of hr
  exact (jsCons (jsSet (i := 1) sc.nd (jCallP (k := 3) (x := "all_states") (ps := ["words"]) (F := (liftV m_all_states)) (by exact cV_all_states) (by exact hr.mono (by decide)) (by exact hg) (by rfl) (jCons (jv 0) jNil)))
    (jsOne (jsRet (jDcV (own := [("state", 2)]) rfl sc.nd sim_gname (jiL (jv 1)) (blkOk_by (by rfl)) (fun _ _ _ _ _ => (jg 2 sc.nd)) (fun _ _ _ _ _ => jtNil) (fun _ _ _ _ _ => (jv 2)) (fun _ _ _ _ _ => (jLcR (own := [("other", 3)]) rfl sc.nd sim_gname (jiL (jv 1)) (blkOk_by (by rfl)) (fun _ _ _ _ _ => (jg 3 sc.nd)) (fun _ _ _ _ _ => (jtOne (PW.pt (jwAnd (jtCmp (op_NeA (by exact hu)) vo_Ne (jv 3) jStr) (jwAnd1 (jtCmp (op_EqA (by exact hu)) vo_Eq (jSl (jv 3) joNone (joSome (jNeg jInt))) (jv 2))))))) (fun _ _ _ _ _ => (jIx (by exact hu) (jv 3) (jNeg jInt))) (by decide))) (by decide)))))
def g_check_state : SS :=
  (sIf (cOr (cNot (cB (eN (gIs "str") (aCons (eVar 0) aNil)))) (cB (eOp2 (gIn true) (eVar 0) (eN (gF 1 (liftV m_all_states)) (aCons (eVar 1) aNil)))))
  sNo
  sNx)
def F_check_state : List Dt → Sto → Option (Dt × Sto) := bodyF g_check_state 2
theorem ok_check_state {T : List (Addr × Str)} {P : Program} {w : World} {K : PySem.W.Frag} {mg : Str → Option Value} {base : Heap} {f : Addr} {fd : FuncData} (F : FnP K "check_state" s_check_state f fd) (cV_all_states : GP P w K mg base 3 "all_states" ["words"] (SpF T 1 (liftV m_all_states))) (n_isinstance : mg "isinstance" = none) (n_str : mg "str" = none) :
    GFn P w K mg base 4 f fd ["state", "words"] (SpF T 2 F_check_state) := by
  refine gfnJ (k := 3) (N := N_check_state) (ps := ["state", "words"]) F sc_check_state fun A outer s H hr hg => ?_
  have sc := sc_check_state
  have hu := hr.units
  have hu1 := hu_of hr
  exact (jsOne (jsIf (PW.pt (jwOr (jtNot (jtVal (jIsi (by rfl) n_isinstance (by rfl) n_str boot_str (jv 0)))) (jwOr1 (jtCmp (op_NotInA (by exact hu1)) vo_In (jv 0) (jCallP (k := 3) (x := "all_states") (ps := ["words"]) (F := (liftV m_all_states)) (by exact cV_all_states) (by exact hr.mono (by decide)) (by exact hg) (by rfl) (jCons (jv 1) jNil))))))
    jsNo
    jsNil))
def g_ends_in : SS :=
  (sRet (toR (lc (iE itL (eN (gF 1 (liftV m_all_states)) (aCons (eVar 0) aNil))) [2] (kName 2) (cAnd (cB (eOp2 gLt (eN gLen (aCons (eVar 2) aNil)) (eN gLen (aCons (eVar 1) aNil)))) (cB (eM isS gEnds (eVar 1) (aCons (eVar 2) aNil)))) (eVar 2))))
def F_ends_in : List Dt → Sto → Option (Dt × Sto) := bodyF g_ends_in 3
theorem ok_ends_in {T : List (Addr × Str)} {P : Program} {w : World} {K : PySem.W.Frag} {mg : Str → Option Value} {base : Heap} {f : Addr} {fd : FuncData} (F : FnP K "ends_in" s_ends_in f fd) (cV_all_states : GP P w K mg base 3 "all_states" ["words"] (SpF T 1 (liftV m_all_states))) (n_len : mg "len" = none) :
    GFn P w K mg base 4 f fd ["words", "state"] (SpF T 2 F_ends_in) := by
  refine gfnJ (k := 3) (N := N_ends_in) (ps := ["words", "state"]) F sc_ends_in fun A outer s H hr hg => ?_
  have sc := sc_ends_in
  have hu := hr.units
  have hu1 := hu_of hr
  exact (jsOne (jsRet (jLcR (own := [("other", 2)]) rfl sc.nd sim_gname (jiL (jCallP (k := 3) (x := "all_states") (ps := ["words"]) (F := (liftV m_all_states)) (by exact cV_all_states) (by exact hr.mono (by decide)) (by exact hg) (by rfl) (jCons (jv 0) jNil))) (blkOk_by (by rfl)) (fun _ _ _ _ _ => (jg 2 sc.nd)) (fun _ _ _ _ _ => (jtOne (PW.pt (jwAnd (jtCmp op_lt vLt (jB call_lenA vo_len (by rfl) n_len boot_len (jCons (jv 2) jNil)) (jB call_lenA vo_len (by rfl) n_len boot_len (jCons (jv 1) jNil))) (jwAnd1 (jtVal (jEnds (jv 1) (jCons (jv 2) jNil)))))))) (fun _ _ _ _ _ => (jv 2)) (by decide))))
def g_states : SS :=
  (sSeq (sEx (eN (gF 1 (liftV m_check_words)) (aCons (eVar 0) aNil)))
  (sRet (eN (gF 1 (liftR m_all_states)) (aCons (eVar 0) aNil))))
def F_states : List Dt → Sto → Option (Dt × Sto) := bodyF g_states 1
theorem ok_states {T : List (Addr × Str)} {P : Program} {w : World} {K : PySem.W.Frag} {mg : Str → Option Value} {base : Heap} {f : Addr} {fd : FuncData} (F : FnP K "states" s_states f fd) (cV_check_words : GP P w K mg base 2 "check_words" ["words"] (SpF T 1 (liftV m_check_words))) (cR_all_states : GP P w K mg base 3 "all_states" ["words"] (SpF T 1 (liftR m_all_states))) :
    GFn P w K mg base 4 f fd ["words"] (SpF T 1 F_states) := by
  refine gfnJ (k := 3) (N := N_states) (ps := ["words"]) F sc_states fun A outer s H hr hg => ?_
  have sc := sc_states
  have hu := hr.units
  have hu1 := hu_of hr
  exact (jsCons (jsEx (jCallP (k := 2) (x := "check_words") (ps := ["words"]) (F := (liftV m_check_words)) (by exact cV_check_words) (by exact hr.mono (by decide)) (by exact hg) (by rfl) (jCons (jv 0) jNil)))
    (jsOne (jsRet (jCallP (k := 3) (x := "all_states") (ps := ["words"]) (F := (liftR m_all_states)) (by exact cR_all_states) (by exact hr.mono (by decide)) (by exact hg) (by rfl) (jCons (jv 0) jNil)))))
def g_goes_on : SS :=
  (sSeq (sEx (eN (gF 1 (liftV m_check_words)) (aCons (eVar 0) aNil)))
  (sSeq (sEx (eN (gF 2 (liftV m_check_state)) (aCons (eVar 1) (aCons (eVar 0) aNil))))
  (sRet (eOp2 gIx (eN (gF 1 F_letters_behind) (aCons (eVar 0) aNil)) (eVar 1)))))
def F_goes_on : List Dt → Sto → Option (Dt × Sto) := bodyF g_goes_on 2
theorem ok_goes_on {T : List (Addr × Str)} {P : Program} {w : World} {K : PySem.W.Frag} {mg : Str → Option Value} {base : Heap} {f : Addr} {fd : FuncData} (F : FnP K "goes_on" s_goes_on f fd) (cV_check_words : GP P w K mg base 2 "check_words" ["words"] (SpF T 1 (liftV m_check_words))) (cV_check_state : GP P w K mg base 4 "check_state" ["state", "words"] (SpF T 2 (liftV m_check_state))) (craw_letters_behind : GP P w K mg base 4 "letters_behind" ["words"] (SpF T 1 F_letters_behind)) :
    GFn P w K mg base 5 f fd ["words", "state"] (SpF T 2 F_goes_on) := by
  refine gfnJ (k := 4) (N := N_goes_on) (ps := ["words", "state"]) F sc_goes_on fun A outer s H hr hg => ?_
  have sc := sc_goes_on
  have hu := hr.units
  have hu1 := hu_of hr
  exact (jsCons (jsEx (jCallP (k := 2) (x := "check_words") (ps := ["words"]) (F := (liftV m_check_words)) (by exact cV_check_words) (by exact hr.mono (by decide)) (by exact hg) (by rfl) (jCons (jv 0) jNil)))
    (jsCons (jsEx (jCallP (k := 4) (x := "check_state") (ps := ["state", "words"]) (F := (liftV m_check_state)) (by exact cV_check_state) (by exact hr.mono (by decide)) (by exact hg) (by rfl) (jCons (jv 1) (jCons (jv 0) jNil))))
    (jsOne (jsRet (jIx (by exact hu) (jCallP (k := 4) (x := "letters_behind") (ps := ["words"]) (F := F_letters_behind) (by exact craw_letters_behind) (by exact hr.mono (by decide)) (by exact hg) (by rfl) (jCons (jv 0) jNil)) (jv 1))))))
def g_ends : SS :=
  (sSeq (sEx (eN (gF 1 (liftV m_check_words)) (aCons (eVar 0) aNil)))
  (sSeq (sEx (eN (gF 2 (liftV m_check_state)) (aCons (eVar 1) (aCons (eVar 0) aNil))))
  (sRet (eN (gF 2 (liftR m_ends_in)) (aCons (eVar 0) (aCons (eVar 1) aNil))))))
def F_ends : List Dt → Sto → Option (Dt × Sto) := bodyF g_ends 2
theorem ok_ends {T : List (Addr × Str)} {P : Program} {w : World} {K : PySem.W.Frag} {mg : Str → Option Value} {base : Heap} {f : Addr} {fd : FuncData} (F : FnP K "ends" s_ends f fd) (cV_check_words : GP P w K mg base 2 "check_words" ["words"] (SpF T 1 (liftV m_check_words))) (cV_check_state : GP P w K mg base 4 "check_state" ["state", "words"] (SpF T 2 (liftV m_check_state))) (cR_ends_in : GP P w K mg base 4 "ends_in" ["words", "state"] (SpF T 2 (liftR m_ends_in))) :
    GFn P w K mg base 5 f fd ["words", "state"] (SpF T 2 F_ends) := by
  refine gfnJ (k := 4) (N := N_ends) (ps := ["words", "state"]) F sc_ends fun A outer s H hr hg => ?_
  have sc := sc_ends
  have hu := hr.units
  have hu1 := hu_of hr
  exact (jsCons (jsEx (jCallP (k := 2) (x := "check_words") (ps := ["words"]) (F := (liftV m_check_words)) (by exact cV_check_words) (by exact hr.mono (by decide)) (by exact hg) (by rfl) (jCons (jv 0) jNil)))
    (jsCons (jsEx (jCallP (k := 4) (x := "check_state") (ps := ["state", "words"]) (F := (liftV m_check_state)) (by exact cV_check_state) (by exact hr.mono (by decide)) (by exact hg) (by rfl) (jCons (jv 1) (jCons (jv 0) jNil))))
    (jsOne (jsRet (jCallP (k := 4) (x := "ends_in") (ps := ["words", "state"]) (F := (liftR m_ends_in)) (by exact cR_ends_in) (by exact hr.mono (by decide)) (by exact hg) (by rfl) (jCons (jv 0) (jCons (jv 1) jNil)))))))
def g__law_draws : SS :=
  (sRet (toR (small (aCons (eOp2 gMod (eN gInt (aCons (eVar 0) aNil)) (eOp2 gPow (eOp2 gPow (eOp2 gPow (eC (.int 10)) (eC (.int 60))) (eC (.int 60))) (eC (.int 4)))) (aCons (eC (.int 0)) (aCons (eOp2 gGe (eVar 0) (eOp2 gPow (eC (.int 10)) (eC (.int 18)))) aNil))))))
def F__law_draws : List Dt → Sto → Option (Dt × Sto) := bodyF g__law_draws 1
theorem ok__law_draws {T : List (Addr × Str)} {P : Program} {w : World} {K : PySem.W.Frag} {mg : Str → Option Value} {base : Heap} {f : Addr} {fd : FuncData} (F : FnP K "_law_draws" s__law_draws f fd) (n_int : mg "int" = none) :
    GFn P w K mg base 1 f fd ["_law_cell"] (SpF T 1 F__law_draws) := by
  refine gfnJ (k := 0) (N := N__law_draws) (ps := ["_law_cell"]) F sc__law_draws fun A outer s H hr hg => ?_
  have sc := sc__law_draws
  have hu := hr.units
  have hu1 := hu_of hr
  exact (jsOne (jsRet (jLstR (jCons (jMod (jTy call_int1 vo_int (by rfl) n_int boot_int (jCons (jv 0) jNil)) (jPow (jPow (jPow jInt jInt) jInt) jInt)) (jCons jInt (jCons (jCmp op_ge vGe (jv 0) (jPow jInt jInt)) jNil))))))
def g__law_next : SS :=
  (sSeq (sLP (eVar 0) (eC (.int 1)) (eOp2 gAdd (eOp2 gIx (eVar 0) (eC (.int 1))) (eC (.int 1))))
  (sSeq (sSet 1 (eOp2 gIx (eVar 0) (eC (.int 1))))
  (sSeq (sIf (cB (eOp2 gIx (eVar 0) (eC (.int 2))))
  (sSeq (sSet 2 (eOp2 gMod (eN gInt (aCons (eOp2 gIx (eVar 0) (eC (.int 0))) aNil)) (eOp2 gPow (eC (.int 10)) (eC (.int 6)))))
  (sSeq (sLP (eVar 0) (eC (.int 0)) (eOp2 gDiv (eOp2 gIx (eVar 0) (eC (.int 0))) (eOp2 gPow (eC (.int 10)) (eC (.int 6)))))
  (sRet (eVar 2))))
  sNx)
  (sSeq (sSet 2 (eOp2 gMod (eN gInt (aCons (eOp2 gMul (eOp2 gAdd (eOp2 gAdd (eOp2 gMod (eN gInt (aCons (eOp2 gIx (eVar 0) (eC (.int 0))) aNil)) (eC (.int 1000003))) (eOp2 gMul (eOp2 gMul (eVar 1) (eVar 1)) (eC (.int 7919)))) (eVar 1)) (eC (.int 48271))) aNil)) (eC (.int 2147483629))))
  (sSeq (sSet 2 (eOp2 gMod (eN gInt (aCons (eOp2 gMul (eVar 2) (eVar 2)) aNil)) (eC (.int 2147483587))))
  (sRet (eOp2 gDiv (eOp2 gMod (eN gInt (aCons (eOp2 gMul (eVar 2) (eOp2 gAdd (eVar 2) (eC (.int 2)))) aNil)) (eC (.int 2147483579))) (eC (.int 7)))))))))
def F__law_next : List Dt → Sto → Option (Dt × Sto) := bodyF g__law_next 3
theorem ok__law_next {T : List (Addr × Str)} {P : Program} {w : World} {K : PySem.W.Frag} {mg : Str → Option Value} {base : Heap} {f : Addr} {fd : FuncData} (F : FnP K "_law_next" s__law_next f fd) (n_int : mg "int" = none) :
    GFn P w K mg base 1 f fd ["_law_draws_here"] (SpF T 1 F__law_next) := by
  refine gfnJ (k := 0) (N := N__law_next) (ps := ["_law_draws_here"]) F sc__law_next fun A outer s H hr hg => ?_
  have sc := sc__law_next
  have hu := hr.units
  have hu1 := hu_of hr
  exact (jsCons (jsLP (jv 0) jInt (jAdd (jIx (by exact hu) (jv 0) jInt) jInt))
    (jsCons (jsSet (i := 1) sc.nd (jIx (by exact hu) (jv 0) jInt))
    (jsCons (jsIf (jtVal (jIx (by exact hu) (jv 0) jInt))
    (jsCons (jsSet (i := 2) sc.nd (jMod (jTy call_int1 vo_int (by rfl) n_int boot_int (jCons (jIx (by exact hu) (jv 0) jInt) jNil)) (jPow jInt jInt)))
    (jsCons (jsLP (jv 0) jInt (jDiv (jIx (by exact hu) (jv 0) jInt) (jPow jInt jInt)))
    (jsOne (jsRet (jv 2)))))
    jsNil)
    (jsCons (jsSet (i := 2) sc.nd (jMod (jTy call_int1 vo_int (by rfl) n_int boot_int (jCons (jMul (jAdd (jAdd (jMod (jTy call_int1 vo_int (by rfl) n_int boot_int (jCons (jIx (by exact hu) (jv 0) jInt) jNil)) jInt) (jMul (jMul (jv 1) (jv 1)) jInt)) (jv 1)) jInt) jNil)) jInt))
    (jsCons (jsSet (i := 2) sc.nd (jMod (jTy call_int1 vo_int (by rfl) n_int boot_int (jCons (jMul (jv 2) (jv 2)) jNil)) jInt))
    (jsOne (jsRet (jDiv (jMod (jTy call_int1 vo_int (by rfl) n_int boot_int (jCons (jMul (jv 2) (jAdd (jv 2) jInt)) jNil)) jInt) jInt))))))))
def g__law_words : SS :=
  (sSeq (sSet 2 (eOp2 gIx (toV (small (aCons (eC (.str "ab")) (aCons (eC (.str "ab")) (aCons (eC (.str "abc")) (aCons (eC (.str "!~z")) aNil)))))) (eOp2 gMod (eN gInt (aCons (eN (gF 1 (liftE m__law_next)) (aCons (eVar 0) aNil)) aNil)) (eC (.int 4)))))
  (sSeq (sSet 3 (eOp2 gAdd (eC (.int 1)) (eOp2 gMod (eN gInt (aCons (eN (gF 1 (liftE m__law_next)) (aCons (eVar 0) aNil)) aNil)) (eVar 1))))
  (sSeq (sSet 4 (toR (small aNil)))
  (sSeq (sFor (iR rg1 (aCons (eOp2 gAdd (eC (.int 1)) (eOp2 gMod (eN gInt (aCons (eN (gF 1 (liftE m__law_next)) (aCons (eVar 0) aNil)) aNil)) (eC (.int 5)))) aNil)) (kName 5)
  (sSeq (sSet 6 (eM1 gJoin (eC (.str "")) (toV (lc (iR rg1 (aCons (eVar 3) aNil)) [7] (kName 7) cYes (eOp2 gIx (eVar 2) (eOp2 gMod (eN gInt (aCons (eN (gF 1 (liftE m__law_next)) (aCons (eVar 0) aNil)) aNil)) (eN gLen (aCons (eVar 2) aNil))))))))
  (sIf (cB (eOp2 (gIn true) (eVar 6) (eVar 4)))
  (sEx (eM isL gApp (eVar 4) (aCons (eVar 6) aNil)))
  sNx)))
  (sRet (eVar 4))))))
def F__law_words : List Dt → Sto → Option (Dt × Sto) := bodyF g__law_words 8
theorem ok__law_words {T : List (Addr × Str)} {P : Program} {w : World} {K : PySem.W.Frag} {mg : Str → Option Value} {base : Heap} {f : Addr} {fd : FuncData} (F : FnP K "_law_words" s__law_words f fd) (cE__law_next : GP P w K mg base 1 "_law_next" ["_law_draws_here"] (SpF T 1 (liftE m__law_next))) (n_int : mg "int" = none) (n_len : mg "len" = none) (n_range : mg "range" = none) :
    GFn P w K mg base 2 f fd ["_law_draws_here", "_law_most"] (SpF T 2 F__law_words) := by
  refine gfnJ (k := 1) (N := N__law_words) (ps := ["_law_draws_here", "_law_most"]) F sc__law_words fun A outer s H hr hg => ?_
  have sc := sc__law_words
  have hu := hr.units
  have hu1 := hu_of hr
  exact (jsCons (jsSet (i := 2) sc.nd (jIx (by exact hu) (jLstV (jCons jStr (jCons jStr (jCons jStr (jCons jStr jNil))))) (jMod (jTy call_int1 vo_int (by rfl) n_int boot_int (jCons (jCallP (k := 1) (x := "_law_next") (ps := ["_law_draws_here"]) (F := (liftE m__law_next)) (by exact cE__law_next) (by exact hr.mono (by decide)) (by exact hg) (by rfl) (jCons (jv 0) jNil)) jNil)) jInt)))
    (jsCons (jsSet (i := 3) sc.nd (jAdd jInt (jMod (jTy call_int1 vo_int (by rfl) n_int boot_int (jCons (jCallP (k := 1) (x := "_law_next") (ps := ["_law_draws_here"]) (F := (liftE m__law_next)) (by exact cE__law_next) (by exact hr.mono (by decide)) (by exact hg) (by rfl) (jCons (jv 0) jNil)) jNil)) (jv 1))))
    (jsCons (jsSet (i := 4) sc.nd (jLstR jNil))
    (jsCons (jsFor PassesOwn.never rfl sim_gname (jiR1 (by rfl) n_range (jCons (jAdd jInt (jMod (jTy call_int1 vo_int (by rfl) n_int boot_int (jCons (jCallP (k := 1) (x := "_law_next") (ps := ["_law_draws_here"]) (F := (liftE m__law_next)) (by exact cE__law_next) (by exact hr.mono (by decide)) (by exact hg) (by rfl) (jCons (jv 0) jNil)) jNil)) jInt)) jNil)) (jg 5 sc.nd)
    (jsCons (jsSet (i := 6) sc.nd (jJoin jStr (jLcV (own := [("_law_at", 7)]) rfl sc.nd sim_gname (jiR1 (by rfl) n_range (jCons (jv 3) jNil)) (blkOk_by (by rfl)) (fun _ _ _ _ _ => (jg 7 sc.nd)) (fun _ _ _ _ _ => jtNil) (fun _ _ _ _ _ => (jIx (by exact hu) (jv 2) (jMod (jTy call_int1 vo_int (by rfl) n_int boot_int (jCons (jCallP (k := 1) (x := "_law_next") (ps := ["_law_draws_here"]) (F := (liftE m__law_next)) (by exact cE__law_next) (by exact hr.mono (by decide)) (by exact hg) (by rfl) (jCons (jv 0) jNil)) jNil)) (jB call_lenA vo_len (by rfl) n_len boot_len (jCons (jv 2) jNil))))) (by decide))))
    (jsOne (jsIf (jtCmp (op_NotInA (by exact hu1)) vo_In (jv 6) (jv 4))
    (jsOne (jsEx (jApp (jv 4) (jCons (jv 6) jNil))))
    jsNil))))
    (jsOne (jsRet (jv 4)))))))
def g__law_states : SS :=
  (sSeq (sSet 1 (toV (small aNil)))
  (sSeq (sFor (iR rg1 (aCons (eOp2 gAdd (eN gLen (aCons (eOp2 gIx (eVar 0) (eC (.int 0))) aNil)) (eC (.int 1))) aNil)) (kName 2)
  (sSet 1 (eOp2 gAdd (eVar 1) (eN gSS (aCons (toV (lc (iE itL (eVar 0)) [3] (kName 3) cYes (eSl (eVar 3) oNo (oE (eVar 2))))) aNil)))))
  (sRet (eVar 1))))
def F__law_states : List Dt → Sto → Option (Dt × Sto) := bodyF g__law_states 4
theorem ok__law_states {T : List (Addr × Str)} {P : Program} {w : World} {K : PySem.W.Frag} {mg : Str → Option Value} {base : Heap} {f : Addr} {fd : FuncData} (F : FnP K "_law_states" s__law_states f fd) (n_len : mg "len" = none) (n_range : mg "range" = none) (n_set : mg "set" = none) (n_sorted : mg "sorted" = none) :
    GFn P w K mg base 1 f fd ["_law_some"] (SpF T 1 F__law_states) := by
  refine gfnJ (k := 0) (N := N__law_states) (ps := ["_law_some"]) F sc__law_states fun A outer s H hr hg => ?_
  have sc := sc__law_states
  have hu := hr.units
  have hu1 := hu_of hr
  exact (jsCons (jsSet (i := 1) sc.nd (jLstV jNil))
    (jsCons (jsFor PassesOwn.never rfl sim_gname (jiR1 (by rfl) n_range (jCons (jAdd (jB call_lenA vo_len (by rfl) n_len boot_len (jCons (jIx (by exact hu) (jv 0) jInt) jNil)) jInt) jNil)) (jg 2 sc.nd)
    (jsOne (jsSet (i := 1) sc.nd (jAdd (jv 1) (jSS (by rfl) (by exact hu) (by rfl) n_sorted (by rfl) n_set (jLcV (own := [("_law_word", 3)]) rfl sc.nd sim_gname (jiL (jv 0)) (blkOk_by (by rfl)) (fun _ _ _ _ _ => (jg 3 sc.nd)) (fun _ _ _ _ _ => jtNil) (fun _ _ _ _ _ => (jSl (jv 3) joNone (joSome (jv 2)))) (by decide)))))))
    (jsOne (jsRet (jv 1)))))
def g__law_behind : SS :=
  (sSeq (sSet 2 (eN gSS (aCons (toV (lc (iE itL (eVar 0)) [4] (kName 4) (cAnd (cB (eOp2 gEq (eSl (eVar 4) oNo (oE (eN gLen (aCons (eVar 1) aNil)))) (eVar 1))) (cB (eOp2 gGt (eN gLen (aCons (eVar 4) aNil)) (eN gLen (aCons (eVar 1) aNil))))) (eSl (eVar 4) oNo (oE (eOp2 gAdd (eN gLen (aCons (eVar 1) aNil)) (eC (.int 1))))))) aNil)))
  (sRet (toR (lc (iE itL (eVar 2)) [3] (kName 3) cYes (eOp2 gIx (eVar 3) (eNeg (eC (.int 1))))))))
def F__law_behind : List Dt → Sto → Option (Dt × Sto) := bodyF g__law_behind 5
theorem ok__law_behind {T : List (Addr × Str)} {P : Program} {w : World} {K : PySem.W.Frag} {mg : Str → Option Value} {base : Heap} {f : Addr} {fd : FuncData} (F : FnP K "_law_behind" s__law_behind f fd) (n_len : mg "len" = none) (n_set : mg "set" = none) (n_sorted : mg "sorted" = none) :
    GFn P w K mg base 1 f fd ["_law_some", "_law_here"] (SpF T 2 F__law_behind) := by
  refine gfnJ (k := 0) (N := N__law_behind) (ps := ["_law_some", "_law_here"]) F sc__law_behind fun A outer s H hr hg => ?_
  have sc := sc__law_behind
  have hu := hr.units
  have hu1 := hu_of hr
  exact (jsCons (jsSet (i := 2) sc.nd (jSS (by rfl) (by exact hu) (by rfl) n_sorted (by rfl) n_set (jLcV (own := [("_law_word", 4)]) rfl sc.nd sim_gname (jiL (jv 0)) (blkOk_by (by rfl)) (fun _ _ _ _ _ => (jg 4 sc.nd)) (fun _ _ _ _ _ => (jtOne (PW.pt (jwAnd (jtCmp (op_EqA (by exact hu)) vo_Eq (jSl (jv 4) joNone (joSome (jB call_lenA vo_len (by rfl) n_len boot_len (jCons (jv 1) jNil)))) (jv 1)) (jwAnd1 (jtCmp op_gt vGt (jB call_lenA vo_len (by rfl) n_len boot_len (jCons (jv 4) jNil)) (jB call_lenA vo_len (by rfl) n_len boot_len (jCons (jv 1) jNil)))))))) (fun _ _ _ _ _ => (jSl (jv 4) joNone (joSome (jAdd (jB call_lenA vo_len (by rfl) n_len boot_len (jCons (jv 1) jNil)) jInt)))) (by decide))))
    (jsOne (jsRet (jLcR (own := [("_law_other", 3)]) rfl sc.nd sim_gname (jiL (jv 2)) (blkOk_by (by rfl)) (fun _ _ _ _ _ => (jg 3 sc.nd)) (fun _ _ _ _ _ => jtNil) (fun _ _ _ _ _ => (jIx (by exact hu) (jv 3) (jNeg jInt))) (by decide)))))
def g__law_right : SS :=
  (sSeq (sSet 1 (eN gRep (aCons (eVar 0) aNil)))
  (sSeq (sSet 2 (eN (gF 1 (liftV m__law_states)) (aCons (eVar 0) aNil)))
  (sSeq (sSet 3 (toV (small (aCons (eN (gF 1 (liftR m_states)) (aCons (eVar 0) aNil)) (aCons (eN (gFk 1 [0] (liftR m_states)) (aCons (eVar 0) aNil)) aNil)))))
  (sSeq (sIf (cOr (cB (eOp2 gNe (eN gRep (aCons (eVar 3) aNil)) (eN gRep (aCons (toV (small (aCons (eVar 2) (aCons (eVar 2) aNil)))) aNil)))) (cB (eOp2 gNe (eN gRep (aCons (eVar 0) aNil)) (eVar 1))))
  (sRet (eC (.bl false)))
  sNx)
  (sSeq (sEx (eM isL gApp (eOp2 gIx (eVar 3) (eC (.int 0))) (aCons (eC .non) aNil)))
  (sSeq (sFor (iE itL (eVar 2)) (kName 4)
  (sSeq (sSet 5 (eN (gF 2 (liftV m__law_behind)) (aCons (eVar 0) (aCons (eVar 4) aNil))))
  (sSeq (sSet 6 (toV (lc (iE itL (eVar 2)) [8] (kName 8) (cAnd (cB (eOp2 gLt (eN gLen (aCons (eVar 8) aNil)) (eN gLen (aCons (eVar 4) aNil)))) (cB (eOp2 gEq (eSl (eVar 4) (oE (eOp2 gMin (eN gLen (aCons (eVar 4) aNil)) (eN gLen (aCons (eVar 8) aNil)))) oNo) (eVar 8)))) (eVar 8))))
  (sSeq (sSet 7 (toV (small (aCons (eN (gF 2 (liftR m_goes_on)) (aCons (eVar 0) (aCons (eVar 4) aNil))) (aCons (eN (gFk 2 [1, 0] (liftR m_goes_on)) (aCons (eVar 4) (aCons (eVar 0) aNil))) (aCons (eN (gF 2 (liftR m_ends)) (aCons (eVar 0) (aCons (eVar 4) aNil))) (aCons (eN (gFk 2 [1, 0] (liftR m_ends)) (aCons (eVar 4) (aCons (eVar 0) aNil))) aNil)))))))
  (sSeq (sIf (cOr (cB (eOp2 gNe (eN gRep (aCons (eVar 7) aNil)) (eN gRep (aCons (toV (small (aCons (eVar 5) (aCons (eVar 5) (aCons (eVar 6) (aCons (eVar 6) aNil)))))) aNil)))) (cB (eOp2 gNe (eOp2 gEq (eVar 5) (toV (small aNil))) (eOp2 (gIn false) (eVar 4) (eVar 0)))))
  (sRet (eC (.bl false)))
  sNx)
  (sSeq (sEx (eM isL gApp (eOp2 gIx (eVar 7) (eC (.int 0))) (aCons (eC .non) aNil)))
  (sSeq (sEx (eM isL gApp (eOp2 gIx (eVar 7) (eC (.int 2))) (aCons (eC .non) aNil)))
  (sIf (cB (eOp2 gNe (eN gRep (aCons (toV (small (aCons (eN (gF 2 (liftV m_goes_on)) (aCons (eVar 0) (aCons (eVar 4) aNil))) (aCons (eN (gF 2 (liftV m_ends)) (aCons (eVar 0) (aCons (eVar 4) aNil))) aNil)))) aNil)) (eN gRep (aCons (toV (small (aCons (eVar 5) (aCons (eVar 6) aNil)))) aNil))))
  (sRet (eC (.bl false)))
  sNx))))))))
  (sRet (eAndV (eOp2 gEq (eN gRep (aCons (eN (gF 1 (liftV m_states)) (aCons (eVar 0) aNil)) aNil)) (eN gRep (aCons (eVar 2) aNil))) (eOp2 gEq (eN gRep (aCons (eVar 0) aNil)) (eVar 1))))))))))
def F__law_right : List Dt → Sto → Option (Dt × Sto) := bodyF g__law_right 9
theorem ok__law_right {T : List (Addr × Str)} {P : Program} {w : World} {K : PySem.W.Frag} {mg : Str → Option Value} {base : Heap} {f : Addr} {fd : FuncData} (F : FnP K "_law_right" s__law_right f fd) (cV__law_states : GP P w K mg base 1 "_law_states" ["_law_some"] (SpF T 1 (liftV m__law_states))) (cR_states : GCal P w K mg base 4 "states" ["words"] (SpF T 1 (liftR m_states))) (cV__law_behind : GP P w K mg base 1 "_law_behind" ["_law_some", "_law_here"] (SpF T 2 (liftV m__law_behind))) (cR_goes_on : GCal P w K mg base 5 "goes_on" ["words", "state"] (SpF T 2 (liftR m_goes_on))) (cR_ends : GCal P w K mg base 5 "ends" ["words", "state"] (SpF T 2 (liftR m_ends))) (cV_goes_on : GCal P w K mg base 5 "goes_on" ["words", "state"] (SpF T 2 (liftV m_goes_on))) (cV_ends : GCal P w K mg base 5 "ends" ["words", "state"] (SpF T 2 (liftV m_ends))) (cV_states : GCal P w K mg base 4 "states" ["words"] (SpF T 1 (liftV m_states))) (n_len : mg "len" = none) (n_repr : mg "repr" = none) :
    GFn P w K mg base 6 f fd ["_law_some"] (SpF T 1 F__law_right) := by
  refine gfnJ (k := 5) (N := N__law_right) (ps := ["_law_some"]) F sc__law_right fun A outer s H hr hg => ?_
  have sc := sc__law_right
  have hu := hr.units
  have hu1 := hu_of hr
  exact (jsCons (jsSet (i := 1) sc.nd (jB (call_rep (by exact hg) (by exact hu)) vo_rep (by rfl) n_repr boot_repr (jCons (jv 0) jNil)))
    (jsCons (jsSet (i := 2) sc.nd (jCallP (k := 1) (x := "_law_states") (ps := ["_law_some"]) (F := (liftV m__law_states)) (by exact cV__law_states) (by exact hr.mono (by decide)) (by exact hg) (by rfl) (jCons (jv 0) jNil)))
    (jsCons (jsSet (i := 3) sc.nd (jLstV (jCons (jCall (k := 4) (x := "states") (ps := ["words"]) (F := (liftR m_states)) (by exact cR_states) (by exact hr.mono (by decide)) (by exact hg) (by rfl) (jCons (jv 0) jNil)) (jCons (jCallK (q := [0]) (k := 4) (x := "states") (ps := ["words"]) (F := (liftR m_states)) (by exact cR_states) (by exact hr.mono (by decide)) (by exact hg) (by rfl) (jkCons (jv 0) jkNil) (by decide)) jNil))))
    (jsCons (jsIf (PW.pt (jwOr (jtCmp (op_NeA (by exact hu)) vo_Ne (jB (call_rep (by exact hg) (by exact hu)) vo_rep (by rfl) n_repr boot_repr (jCons (jv 3) jNil)) (jB (call_rep (by exact hg) (by exact hu)) vo_rep (by rfl) n_repr boot_repr (jCons (jLstV (jCons (jv 2) (jCons (jv 2) jNil))) jNil))) (jwOr1 (jtCmp (op_NeA (by exact hu)) vo_Ne (jB (call_rep (by exact hg) (by exact hu)) vo_rep (by rfl) n_repr boot_repr (jCons (jv 0) jNil)) (jv 1)))))
    (jsOne (jsRet jBl))
    jsNil)
    (jsCons (jsEx (jApp (jIx (by exact hu) (jv 3) jInt) (jCons jNon jNil)))
    (jsCons (jsFor PassesOwn.never rfl sim_gname (jiL (jv 2)) (jg 4 sc.nd)
    (jsCons (jsSet (i := 5) sc.nd (jCallP (k := 1) (x := "_law_behind") (ps := ["_law_some", "_law_here"]) (F := (liftV m__law_behind)) (by exact cV__law_behind) (by exact hr.mono (by decide)) (by exact hg) (by rfl) (jCons (jv 0) (jCons (jv 4) jNil))))
    (jsCons (jsSetLc (i := 6) (own := [("_law_other", 8)]) rfl sc.nd sim_gname (sw_true rfl rfl rfl rfl) (jiL (jv 2)) (blkOk_by (by rfl)) (fun _ _ _ _ _ => (jg 8 sc.nd)) (fun _ _ _ _ _ => (jtOne (PW.pt (jwAnd (jtCmp op_lt vLt (jB call_lenA vo_len (by rfl) n_len boot_len (jCons (jv 8) jNil)) (jB call_lenA vo_len (by rfl) n_len boot_len (jCons (jv 4) jNil))) (jwAnd1 (jtCmp (op_EqA (by exact hu)) vo_Eq (jSl (jv 4) (joSome (jMin (jB call_lenA vo_len (by rfl) n_len boot_len (jCons (jv 4) jNil)) (jB call_lenA vo_len (by rfl) n_len boot_len (jCons (jv 8) jNil)))) joNone) (jv 8))))))) (fun _ _ _ _ _ => (jv 8)) (by decide))
    (jsCons (jsSet (i := 7) sc.nd (jLstV (jCons (jCall (k := 5) (x := "goes_on") (ps := ["words", "state"]) (F := (liftR m_goes_on)) (by exact cR_goes_on) (by exact hr.mono (by decide)) (by exact hg) (by rfl) (jCons (jv 0) (jCons (jv 4) jNil))) (jCons (jCallK (q := [1, 0]) (k := 5) (x := "goes_on") (ps := ["words", "state"]) (F := (liftR m_goes_on)) (by exact cR_goes_on) (by exact hr.mono (by decide)) (by exact hg) (by rfl) (jkCons (jv 4) (jkCons (jv 0) jkNil)) (by decide)) (jCons (jCall (k := 5) (x := "ends") (ps := ["words", "state"]) (F := (liftR m_ends)) (by exact cR_ends) (by exact hr.mono (by decide)) (by exact hg) (by rfl) (jCons (jv 0) (jCons (jv 4) jNil))) (jCons (jCallK (q := [1, 0]) (k := 5) (x := "ends") (ps := ["words", "state"]) (F := (liftR m_ends)) (by exact cR_ends) (by exact hr.mono (by decide)) (by exact hg) (by rfl) (jkCons (jv 4) (jkCons (jv 0) jkNil)) (by decide)) jNil))))))
    (jsCons (jsIf (PW.pt (jwOr (jtCmp (op_NeA (by exact hu)) vo_Ne (jB (call_rep (by exact hg) (by exact hu)) vo_rep (by rfl) n_repr boot_repr (jCons (jv 7) jNil)) (jB (call_rep (by exact hg) (by exact hu)) vo_rep (by rfl) n_repr boot_repr (jCons (jLstV (jCons (jv 5) (jCons (jv 5) (jCons (jv 6) (jCons (jv 6) jNil))))) jNil))) (jwOr1 (jtCmp (op_NeA (by exact hu)) vo_Ne (jCmp (op_EqA (by exact hu)) vo_Eq (jv 5) (jLstV jNil)) (jCmp (op_InA (by exact hu1)) vo_In (jv 4) (jv 0))))))
    (jsOne (jsRet jBl))
    jsNil)
    (jsCons (jsEx (jApp (jIx (by exact hu) (jv 7) jInt) (jCons jNon jNil)))
    (jsCons (jsEx (jApp (jIx (by exact hu) (jv 7) jInt) (jCons jNon jNil)))
    (jsOne (jsIf (jtCmp (op_NeA (by exact hu)) vo_Ne (jB (call_rep (by exact hg) (by exact hu)) vo_rep (by rfl) n_repr boot_repr (jCons (jLstV (jCons (jCall (k := 5) (x := "goes_on") (ps := ["words", "state"]) (F := (liftV m_goes_on)) (by exact cV_goes_on) (by exact hr.mono (by decide)) (by exact hg) (by rfl) (jCons (jv 0) (jCons (jv 4) jNil))) (jCons (jCall (k := 5) (x := "ends") (ps := ["words", "state"]) (F := (liftV m_ends)) (by exact cV_ends) (by exact hr.mono (by decide)) (by exact hg) (by rfl) (jCons (jv 0) (jCons (jv 4) jNil))) jNil))) jNil)) (jB (call_rep (by exact hg) (by exact hu)) vo_rep (by rfl) n_repr boot_repr (jCons (jLstV (jCons (jv 5) (jCons (jv 6) jNil))) jNil)))
    (jsOne (jsRet jBl))
    jsNil)))))))))
    (jsOne (jsRet (jAnd (jCmp (op_EqA (by exact hu)) vo_Eq (jB (call_rep (by exact hg) (by exact hu)) vo_rep (by rfl) n_repr boot_repr (jCons (jCall (k := 4) (x := "states") (ps := ["words"]) (F := (liftV m_states)) (by exact cV_states) (by exact hr.mono (by decide)) (by exact hg) (by rfl) (jCons (jv 0) jNil)) jNil)) (jB (call_rep (by exact hg) (by exact hu)) vo_rep (by rfl) n_repr boot_repr (jCons (jv 2) jNil))) (jOne (jCmp (op_EqA (by exact hu)) vo_Eq (jB (call_rep (by exact hg) (by exact hu)) vo_rep (by rfl) n_repr boot_repr (jCons (jv 0) jNil)) (jv 1))))))))))))
def fz_law : SE := (toV (small (aCons (eC (.int 0)) aNil)))
def fd_law : SE := (eN (gF 1 (liftR m__law_draws)) (aCons (eVar 2) aNil))
def gb_law : SS :=
  (sIf (cNot (cB (eN (gF 1 (liftV m__law_right)) (aCons (eN (gF 2 (liftE m__law_words)) (aCons (eVar 1) (aCons (eC (.int 7)) aNil))) aNil))))
  (sRet (eC (.bl false)))
  sNx)
def gr_law : SS :=
  (sSeq (sIf (cNot (cB (eN (gF 1 (liftV m__law_right)) (aCons (toV (small (aCons (eC (.str "!~!~!~!")) (aCons (eC (.str "~!~!~!~")) (aCons (eC (.str "!!!!!!!")) (aCons (eC (.str "~~~~~~~")) (aCons (eOp2 gAdd (eSl (eC (.str "0aA'\"\\ ")) oNo (oE (eC (.int 6)))) (eC (.str "("))) aNil))))))) aNil))))
  (sRet (eC (.bl false)))
  sNx)
  (sSeq (sIf (cOr (cB (eOp2 gNe (eN (gF 1 (liftV m_states)) (aCons (toV (small (aCons (eC (.str "b")) (aCons (eC (.str "a")) aNil)))) aNil)) (toV (small (aCons (eC (.str "")) (aCons (eC (.str "a")) (aCons (eC (.str "b")) aNil))))))) (cB (eOp2 gNe (eN (gF 2 (liftV m_ends)) (aCons (toV (small (aCons (eC (.str "aab")) (aCons (eC (.str "aba")) aNil)))) (aCons (eC (.str "")) aNil))) (toV (small aNil)))))
  (sRet (eC (.bl false)))
  sNx)
  (sRet (eAndV (eOp2 gEq (eN (gF 1 (liftV m_states)) (aCons (toV (small (aCons (eC (.str "aab")) (aCons (eC (.str "aba")) aNil)))) aNil)) (toV (small (aCons (eC (.str "")) (aCons (eC (.str "a")) (aCons (eC (.str "aa")) (aCons (eC (.str "ab")) (aCons (eC (.str "aab")) (aCons (eC (.str "aba")) aNil))))))))) (eOp2 gEq (eN (gF 2 (liftV m_ends)) (aCons (toV (small (aCons (eC (.str "aab")) (aCons (eC (.str "aba")) aNil)))) (aCons (eC (.str "aba")) aNil))) (toV (small (aCons (eC (.str "")) (aCons (eC (.str "a")) aNil)))))))))
theorem ok_law {T : List (Addr × Str)} {P : Program} {w : World} {K : PySem.W.Frag} {mg : Str → Option Value} {base : Heap} {f : Addr} {fd : FuncData} (F : FnP K "law" s_law f fd) (cR__law_draws : GP P w K mg base 1 "_law_draws" ["_law_cell"] (SpF T 1 (liftR m__law_draws))) (cV__law_right : GP P w K mg base 6 "_law_right" ["_law_some"] (SpF T 1 (liftV m__law_right))) (cE__law_words : GP P w K mg base 2 "_law_words" ["_law_draws_here", "_law_most"] (SpF T 2 (liftE m__law_words))) (cV_ends : GCal P w K mg base 5 "ends" ["words", "state"] (SpF T 2 (liftV m_ends))) (cV_states : GCal P w K mg base 4 "states" ["words"] (SpF T 1 (liftV m_states))) {ok : List Int → Prop}
    (hok : ∀ ns, ok ns → ∃ st', gLaw 1 2 6 fz_law fd_law gb_law gr_law ns (List.replicate 3 none) [] = some (.rt (.bl true) st')) :
    GFn P w K mg base 7 f fd ["_law_script"] (SpL T K ok) := by
  refine gfnL (k := 6) (n := 6) (t := tLaw T K 1 2 fz_law fd_law gb_law gr_law) F sc_law (fun A outer s H hr hg => ?_) law_first hok
  have sc := sc_law
  have hu := hr.units
  have hu1 := hu_of hr
  refine pss_cons (ps_for PassesOwn.never rfl (pi_list (pe_lc (own := [("_law_cell", 2)]) rfl sc.nd (pi_list (pe_op op_Add (pe_slice sl_any (pv 0) po_none (po_some pe_int)) ?_)) (blkOk_by (by rfl)) (fun _ _ _ _ _ => jg 2 sc.nd) (fun _ _ _ _ _ => pts_nil) (fun _ _ _ _ _ => ?_))) (jg 1 sc.nd) ?_) ?_
  · exact (jLstV (jCons jInt jNil))
  · exact (jCallP (k := 1) (x := "_law_draws") (ps := ["_law_cell"]) (F := (liftR m__law_draws)) (by exact cR__law_draws) (by exact hr.mono (by decide)) (by exact hg) (by rfl) (jCons (jv 2) jNil))
  · exact (jsOne (jsIf (jtNot (jtVal (jCallP (k := 6) (x := "_law_right") (ps := ["_law_some"]) (F := (liftV m__law_right)) (by exact cV__law_right) (by exact hr.mono (by decide)) (by exact hg) (by rfl) (jCons (jCallP (k := 2) (x := "_law_words") (ps := ["_law_draws_here", "_law_most"]) (F := (liftE m__law_words)) (by exact cE__law_words) (by exact hr.mono (by decide)) (by exact hg) (by rfl) (jCons (jv 1) (jCons jInt jNil))) jNil))))
    (jsOne (jsRet jBl))
    jsNil))
  · exact (jsCons (jsIf (jtNot (jtVal (jCallP (k := 6) (x := "_law_right") (ps := ["_law_some"]) (F := (liftV m__law_right)) (by exact cV__law_right) (by exact hr.mono (by decide)) (by exact hg) (by rfl) (jCons (jLstV (jCons jStr (jCons jStr (jCons jStr (jCons jStr (jCons (jAdd (jSl jStr joNone (joSome jInt)) jStr) jNil)))))) jNil))))
    (jsOne (jsRet jBl))
    jsNil)
    (jsCons (jsIf (PW.pt (jwOr (jtCmp (op_NeA (by exact hu)) vo_Ne (jCall (k := 4) (x := "states") (ps := ["words"]) (F := (liftV m_states)) (by exact cV_states) (by exact hr.mono (by decide)) (by exact hg) (by rfl) (jCons (jLstV (jCons jStr (jCons jStr jNil))) jNil)) (jLstV (jCons jStr (jCons jStr (jCons jStr jNil))))) (jwOr1 (jtCmp (op_NeA (by exact hu)) vo_Ne (jCall (k := 5) (x := "ends") (ps := ["words", "state"]) (F := (liftV m_ends)) (by exact cV_ends) (by exact hr.mono (by decide)) (by exact hg) (by rfl) (jCons (jLstV (jCons jStr (jCons jStr jNil))) (jCons jStr jNil))) (jLstV jNil)))))
    (jsOne (jsRet jBl))
    jsNil)
    (jsOne (jsRet (jAnd (jCmp (op_EqA (by exact hu)) vo_Eq (jCall (k := 4) (x := "states") (ps := ["words"]) (F := (liftV m_states)) (by exact cV_states) (by exact hr.mono (by decide)) (by exact hg) (by rfl) (jCons (jLstV (jCons jStr (jCons jStr jNil))) jNil)) (jLstV (jCons jStr (jCons jStr (jCons jStr (jCons jStr (jCons jStr (jCons jStr jNil)))))))) (jOne (jCmp (op_EqA (by exact hu)) vo_Eq (jCall (k := 5) (x := "ends") (ps := ["words", "state"]) (F := (liftV m_ends)) (by exact cV_ends) (by exact hr.mono (by decide)) (by exact hg) (by rfl) (jCons (jLstV (jCons jStr (jCons jStr jNil))) (jCons jStr jNil))) (jLstV (jCons jStr (jCons jStr jNil))))))))))
end K01

set_option Elab.async false
set_option linter.all false
set_option maxRecDepth 100000
set_option maxHeartbeats 1000000
/-! HB, part u: plain functions worked out, step by step. -/
namespace HB
open PySem PySem.Spec PyProof.Rows L2
section
variable {r r1 : Evr} {st st1 st2 st3 : Sto} {d x y z : Dt} {fa fb fc : SE} {ds : List Dt} {fs : SA} {ca cb : ST} {g k : SS} {o : Ou} {a b : Bool}
theorem v_var {i : Nat} (h : r[i]? = some (some d)) : eVar i r st = some (d, st) := by unfold eVar; rw [h]
theorem v_op {f : Sto → Dt → Dt → Option (Dt × Sto)} {q : Dt × Sto} (ha : fa r st = some (x, st1)) (hb : fb r st1 = some (y, st2)) (h : f st2 x y = some q) : eOp2 f fa fb r st = some q := by unfold eOp2; rw [ha]; show (fb r st1).bind _ = _; rw [hb]; exact h
theorem v_nil : aNil r st = some ([], st) := rfl
theorem v_cons (ha : fa r st = some (x, st1)) (hb : fs r st1 = some (ds, st2)) : aCons fa fs r st = some (x :: ds, st2) := by unfold aCons; rw [ha]; show (fs r st1).bind _ = _; rw [hb]; rfl
theorem v_one (ha : fa r st = some (x, st1)) : aCons fa aNil r st = some ([x], st1) := v_cons ha v_nil
theorem v_N {f : Sto → List Dt → Option (Dt × Sto)} {q : Dt × Sto} (ha : fs r st = some (ds, st1)) (h : f st1 ds = some q) : eN f fs r st = some q := by unfold eN; rw [ha]; exact h
theorem v_chain {f f' : Sto → Dt → Dt → Option (Dt × Sto)} {q : Dt × Sto} (ha : fa r st = some (x, st1)) (hb : fb r st1 = some (y, st2)) (h : f st2 x y = some (.bl true, st3)) {st4 : Sto} (hc : fc r st3 = some (z, st4)) (h' : f' st4 y z = some q) : eChain f f' fa fb fc r st = some q := by
  unfold eChain; rw [ha]; show (fb r st1).bind _ = _; rw [hb]; show (f st2 x y).bind _ = _; rw [h]; show (fc r st3).bind _ = _; rw [hc]; exact h'
theorem v_chain0 {f f' : Sto → Dt → Dt → Option (Dt × Sto)} (ha : fa r st = some (x, st1)) (hb : fb r st1 = some (y, st2)) (h : f st2 x y = some (.bl false, st3)) : eChain f f' fa fb fc r st = some (.bl false, st3) := by
  unfold eChain; rw [ha]; show (fb r st1).bind _ = _; rw [hb]; show (f st2 x y).bind _ = _; rw [h]; rfl
theorem v_and (ha : fa r st = some (.bl true, st1)) {q : Dt × Sto} (hb : fb r st1 = some q) : eAndV fa fb r st = some q := by unfold eAndV; rw [ha]; exact hb
theorem v_sl {l h : SO} {lo hi : Option Int} (ha : fa r st = some (x, st1)) (h1 : l r st1 = some (lo, st2)) (h2 : h r st2 = some (hi, st3)) (e : gSl st3 x lo hi = some d) : eSl fa l h r st = some (d, st3) := by
  unfold eSl; rw [ha]; show (l r st1).bind _ = _; rw [h1]; show (h r st2).bind _ = _; rw [h2]; show (gSl st3 x lo hi).map _ = _; rw [e]; rfl
theorem v_oE {i : Int} (ha : fa r st = some (.int i, st1)) : oE fa r st = some (some i, st1) := by unfold oE; rw [ha]; rfl
theorem v_toV (h : fs r st = some (ds, st1)) : toV fs r st = some (.lst ds, st1) := by unfold toV; rw [h]; rfl
theorem v_toR (h : fs r st = some (ds, st1)) : toR fs r st = some (.ref st1.length, st1 ++ [some (.lst ds)]) := by unfold toR; rw [h]; rfl
theorem v_small (h : fs r st = some (ds, st1)) (hl : ds.length ≤ sizeLine) : small fs r st = some (ds, st1) := by unfold small; rw [h]; exact if_pos hl
theorem v_gF {n : Nat} {F : List Dt → Sto → Option (Dt × Sto)} {q : Dt × Sto} (hn : ds.length = n) (h : F ds st = some q) : gF n F st ds = some q := by unfold gF; rw [if_pos hn]; exact h
theorem v_V {m : List Dt → Option Dt} (hn : noRefs ds = true) (h : m ds = some d) : liftV m ds st = some (d, st) := by unfold liftV; rw [if_pos hn, h]; rfl
theorem v_R {m : List Dt → Option Dt} (hn : noRefs ds = true) (h : m ds = some d) : liftR m ds st = some (.ref st.length, st ++ [some d]) := by unfold liftR; rw [if_pos hn, h]; rfl
theorem v_Ee {m : Dt → List Dt → Option (Dt × Dt)} {i : Nat} {c c' : Dt} (hn : noRefs ds = true) (hi : st[i]? = some (some c)) (hc : noRef c = true) (h : m c ds = some (d, c')) : liftE m (.ref i :: ds) st = some (d, st.set i (some c')) := by
  unfold liftE; dsimp only; rw [if_pos hn, hi]; dsimp only; rw [if_pos hc, h]; rfl
theorem t_B (ha : fa r st = some (.bl a, st1)) : cB fa r st = some (a, st1) := by unfold cB; rw [ha]; rfl
theorem t_not (ha : ca r st = some (a, st1)) : cNot ca r st = some (!a, st1) := by unfold cNot; rw [ha]; rfl
theorem t_orF (ha : ca r st = some (false, st1)) {q : Bool × Sto} (hb : cb r st1 = some q) : cOr ca cb r st = some q := by unfold cOr; rw [ha]; exact hb
theorem t_orT (ha : ca r st = some (true, st1)) : cOr ca cb r st = some (true, st1) := by unfold cOr; rw [ha]; rfl
theorem t_andT (ha : ca r st = some (true, st1)) {q : Bool × Sto} (hb : cb r st1 = some q) : cAnd ca cb r st = some q := by unfold cAnd; rw [ha]; exact hb
theorem t_andF (ha : ca r st = some (false, st1)) : cAnd ca cb r st = some (false, st1) := by unfold cAnd; rw [ha]; rfl
theorem s_seq (h1 : g r st = some (.nx r1 st1)) {q : Ou} (h2 : k r1 st1 = some q) : sSeq g k r st = some q := by unfold sSeq; rw [h1]; exact h2
theorem s_seqRt (h1 : g r st = some (.rt d st1)) : sSeq g k r st = some (.rt d st1) := by unfold sSeq; rw [h1]; rfl
theorem s_ifF (hc : ca r st = some (false, st1)) {q : Ou} (h : k r st1 = some q) : sIf ca g k r st = some q := by unfold sIf; rw [hc]; exact h
theorem s_ifT (hc : ca r st = some (true, st1)) {q : Ou} (h : g r st1 = some q) : sIf ca g k r st = some q := by unfold sIf; rw [hc]; exact h
theorem s_set {i : Nat} (h : fa r st = some (d, st1)) : sSet i fa r st = some (.nx (r.set i (some d)) st1) := by unfold sSet; rw [h]; rfl
theorem s_ret (h : fa r st = some (d, st1)) : sRet fa r st = some (.rt d st1) := by unfold sRet; rw [h]; rfl
theorem s_ex (h : fa r st = some (d, st1)) : sEx fa r st = some (.nx r st1) := by unfold sEx; rw [h]; rfl
theorem s_for {fi : SA} {kt : SG} {xs : List Dt} (h : fi r st = some (xs, st1)) {q : Ou} (h2 : sForGo kt g xs r st1 = some q) : sFor fi kt g r st = some q := by unfold sFor; rw [h]; exact h2
theorem v_iE {f : Sto → Dt → Option (List Dt)} {xs : List Dt} (h : fa r st = some (d, st1)) (h2 : f st1 d = some xs) : iE f fa r st = some (xs, st1) := by unfold iE; rw [h]; show (f st1 d).map _ = _; rw [h2]; rfl
theorem v_iR {f : List Dt → Option (List Dt)} {xs : List Dt} (h : fs r st = some (ds, st1)) (h2 : f ds = some xs) : iR f fs r st = some (xs, st1) := by unfold iR; rw [h]; show (f ds).map _ = _; rw [h2]; rfl
/-- one turn of for -/
theorem for_cons {kt : SG} {xs : List Dt} {r2 : Evr} (hk : kt x r = some r1) (h : g r1 st = some (.nx r2 st1)) {q : Ou} (h2 : sForGo kt g xs r2 st1 = some q) : sForGo kt g (x :: xs) r st = some q := by
  show (kt x r).bind _ = _; rw [hk]; show (g r1 st).bind _ = _; rw [h]; exact h2
/-- a comprehension that leaves the store -/
theorem lcGo_pure {α : Type} {kt : SG} {c : ST} {f : SE} (D : α → Dt) (p : α → Bool) (q : α → Dt) : ∀ xs : List α, (∀ w ∈ xs, ∃ r1, kt (D w) r = some r1 ∧ c r1 st = some (p w, st) ∧ (p w = true → f r1 st = some (q w, st))) → lcGo kt c f r (xs.map D) st = some ((xs.filter p).map q, st)
  | [], _ => rfl
  | w :: xs, h => by
    obtain ⟨r1, h1, h2, h3⟩ := h w List.mem_cons_self
    have ih := lcGo_pure D p q xs fun v hv => h v (List.mem_cons_of_mem _ hv)
    show (kt (D w) r).bind _ = _
    rw [h1]
    show (c r1 st).bind _ = _
    rw [h2]
    cases hp : p w with
    | true =>
      show (f r1 st).bind _ = _
      rw [h3 hp]
      show (lcGo kt c f r (xs.map D) st).bind _ = _
      rw [ih, List.filter_cons_of_pos hp]
      rfl
    | false =>
      show lcGo kt c f r (xs.map D) st = _
      rw [ih, List.filter_cons_of_neg (by simp [hp])]
theorem lc_pure {α : Type} {fi : SA} {own : List Nat} {kt : SG} {c : ST} {f : SE} (D : α → Dt) (p : α → Bool) (q : α → Dt) (xs : List α) (hi : fi r st = some (xs.map D, st1))
    (h : ∀ w ∈ xs, ∃ r1, kt (D w) (wipeD r own) = some r1 ∧ c r1 st1 = some (p w, st1) ∧ (p w = true → f r1 st1 = some (q w, st1))) (hl : xs.length ≤ sizeLine) : lc fi own kt c f r st = some ((xs.filter p).map q, st1) := by
  unfold lc
  rw [hi]
  show (lcGo kt c f (wipeD r own) (xs.map D) st1).bind _ = _
  rw [lcGo_pure D p q xs h]
  refine if_pos ?_
  rw [List.length_map]
  exact Nat.le_trans (List.length_filter_le _ _) hl
/-- .. without a test -/
theorem lc_map {α : Type} {fi : SA} {own : List Nat} {kt : SG} {f : SE} (D : α → Dt) (q : α → Dt) (xs : List α) (hi : fi r st = some (xs.map D, st1))
    (h : ∀ w ∈ xs, ∃ r1, kt (D w) (wipeD r own) = some r1 ∧ f r1 st1 = some (q w, st1)) (hl : xs.length ≤ sizeLine) : lc fi own kt cYes f r st = some (xs.map q, st1) := by
  have := lc_pure (c := cYes) D (fun _ => true) q xs hi (fun w hw => let ⟨r1, h1, h2⟩ := h w hw; ⟨r1, h1, rfl, fun _ => h2⟩) hl
  rw [List.filter_eq_self.mpr (by simp)] at this
  exact this
theorem b_rt {n : Nat} (h : g (startD n ds) [] = some (.rt d st1)) : bodyF g n ds [] = some (d, st1) := by unfold bodyF; rw [h]; rfl
theorem b_nx {n : Nat} (h : g (startD n ds) [] = some (.nx r st1)) : bodyF g n ds [] = some (.non, st1) := by unfold bodyF; rw [h]; rfl
theorem fV_of {F : List Dt → Sto → Option (Dt × Sto)} (h : F ds [] = some (x, st1)) (h2 : deref st1 6 x = some d) : fV F ds = some d := by unfold fV; rw [h]; exact h2
theorem deref_no {n : Nat} (h : noRef d = true) : deref st n d = some d := by
  cases n with
  | zero => unfold deref; rw [if_pos h]
  | succ n => unfold deref; rw [if_pos h]
theorem derefs_no : ∀ {n : Nat} {ds : List Dt}, noRefs ds = true → derefs st n ds = some ds
  | 0, [], _ => by unfold derefs; rfl
  | n + 1, [], _ => by unfold derefs; rfl
  | 0, d :: ds, h => by unfold derefs; rw [if_pos h]
  | n + 1, d :: ds, h => by
    have h' := h
    unfold noRefs at h'
    rw [Bool.and_eq_true] at h'
    unfold derefs
    rw [deref_no h'.1]
    show (derefs st n ds).map _ = _
    rw [derefs_no h'.2]
    rfl
theorem deref_ref {n i : Nat} (hi : st[i]? = some (some d)) (h : noRef d = true) : deref st (n + 1) (.ref i) = some d := by
  unfold deref
  rw [if_neg (by unfold noRef; simp)]
  simp only [hi]
  exact deref_no h
theorem fR_lst {F : List Dt → Sto → Option (Dt × Sto)} {i : Nat} {es : List Dt} (h : F ds [] = some (.ref i, st1)) (hi : st1[i]? = some (some (.lst es))) (hn : noRefs es = true) : fR F ds = some (.lst es) := by
  unfold fR
  rw [h]
  show (match st1[i]? with
    | some (some (.lst ds)) => (derefs (st1.set i none) 6 ds).map Dt.lst
    | some (some (.dic ks ds)) => (derefs (st1.set i none) 6 ds).map (Dt.dic ks)
    | _ => none) = _
  rw [hi]
  show (derefs (st1.set i none) 6 es).map _ = _
  rw [derefs_no hn]
  rfl
theorem fV_lst {F : List Dt → Sto → Option (Dt × Sto)} {i : Nat} {es : List Dt} (h : F ds [] = some (.ref i, st1)) (hi : st1[i]? = some (some (.lst es))) (hn : noRefs es = true) : fV F ds = some (.lst es) :=
  fV_of h (deref_ref hi (by unfold noRef; exact hn))
theorem fE_of {F : List Dt → Sto → Option (Dt × Sto)} {c c' : Dt} (h : F (.ref 0 :: ds) [some c] = some (x, st1)) (h0 : st1[0]? = some (some c')) (hn : noRef c' = true) (hx : deref (st1.set 0 none) 6 x = some d) : fE F c ds = some (d, c') := by
  unfold fE
  rw [h]
  show (match st1[0]? with
    | some (some c') => if noRef c' = true then (deref (st1.set 0 none) 6 x).map fun d => (d, c') else none
    | _ => none) = _
  rw [h0]
  show (if noRef c' = true then _ else none) = _
  rw [if_pos hn, hx]
  rfl
end
/-! plain data -/
theorem noRefs_str : ∀ l : List Str, noRefs (l.map Dt.str) = true
  | [] => by unfold noRefs; rfl
  | x :: l => by
    show noRefs (Dt.str x :: l.map Dt.str) = true
    unfold noRefs
    rw [noRefs_str l]
    unfold noRef
    rfl
theorem noRef_lstS (l : List Str) : noRef (.lst (l.map Dt.str)) = true := by unfold noRef; exact noRefs_str l
theorem strs_self (l : List Str) : strs' (l.map Dt.str) = some l := by
  have := strs_map (fun x : Str => x) l
  simpa using this
theorem strs_inv : ∀ {ds : List Dt} {l : List Str}, strs' ds = some l → ds = l.map Dt.str
  | [], _, h => by cases h; rfl
  | d :: ds, l, h => by
    cases d with
    | str x =>
      obtain ⟨m, h1, h2⟩ := Option.map_eq_some_iff.mp h
      subst h2
      rw [strs_inv h1]
      rfl
    | _ => cases h
theorem v_gI {C : Int → Int → Bool} {f : Int → Int → Int} {st : Sto} {i j : Int} (h : C i j = true) : gI C f st (.int i) (.int j) = some (.int (f i j), st) := by
  show (if C i j = true then _ else _) = _
  exact if_pos h
theorem v_le (st : Sto) (i j : Int) : gLe st (.int i) (.int j) = some (.bl (decide (i ≤ j)), st) := rfl
theorem v_leS (st : Sto) (i j : Str) : gLe st (.str i) (.str j) = some (.bl (!decide (j.cps.toList < i.cps.toList)), st) := rfl
theorem v_lenL {st : Sto} {d : Dt} {ds : List Dt} (h : d = .lst ds) : gLen st [d] = some (.int ds.length, st) := by subst h; rfl
theorem v_lenS {st : Sto} {z : Str} (h : z.length ≤ sizeLine) : gLen st [.str z] = some (.int z.length, st) := by
  show (if z.length ≤ sizeLine then _ else _) = _
  exact if_pos h
theorem v_slS {st : Sto} {z : Str} {lo hi : Option Int} (h : z.length ≤ sizeLine) : gSl st (.str z) lo hi = some (.str (cutS z lo hi)) := by
  show (if z.length ≤ sizeLine then _ else _) = _
  exact if_pos h
theorem v_ixL {st : Sto} {ds : List Dt} {i : Int} {d : Dt} (h : atI ds i = some d) : gIx st (.lst ds) (.int i) = some (d, st) := by
  show (atI ds i).map _ = _
  rw [h]; rfl
theorem v_ixS {st : Sto} {z : Str} {i : Int} {c : Nat} (hz : z.length ≤ sizeLine) (h : atI z.cps.toList i = some c) : gIx st (.str z) (.int i) = some (.str ⟨#[c]⟩, st) := by
  show (if z.length ≤ sizeLine then (atI z.cps.toList i).map _ else none) = _
  rw [if_pos hz, h]; rfl
theorem v_eqS {st : Sto} {x y : Str} : gEq st (.str x) (.str y) = some (.bl (decide (x = y)), st) := by
  show ((if scal (.str x) (.str y) = true then some (decide (V.str x = V.str y)) else none).map _) = _
  have : decide (V.str x = V.str y) = decide (x = y) := by simp
  rw [this]; rfl
theorem v_neS {st : Sto} {x y : Str} : gNe st (.str x) (.str y) = some (.bl (!decide (x = y)), st) := by
  show ((if scal (.str x) (.str y) = true then some (decide (V.str x = V.str y)) else none).map _) = _
  have : decide (V.str x = V.str y) = decide (x = y) := by simp
  rw [this]; rfl
theorem v_neI {st : Sto} {x y : Int} : gNe st (.int x) (.int y) = some (.bl (!decide (x = y)), st) := by
  show ((if scal (.int x) (.int y) = true then some (decide (V.int x = V.int y)) else none).map _) = _
  have : decide (V.int x = V.int y) = decide (x = y) := by simp
  rw [this]; rfl
theorem v_neB {st : Sto} {x y : Bool} : gNe st (.bl x) (.bl y) = some (.bl (!decide (x = y)), st) := by
  show ((if scal (.bl x) (.bl y) = true then some (decide (V.bl x = V.bl y)) else none).map _) = _
  have : decide (V.bl x = V.bl y) = decide (x = y) := by simp
  rw [this]; rfl
theorem flats_str : ∀ l : List Str, flats (l.map Dt.str) = some (l.map V.str)
  | l => by
    have := flats_map (fun x : Str => Dt.str x) (fun x => V.str x) (fun x => rfl) l
    exact this
theorem inV_str (x : Str) : ∀ l : List Str, inV (.str x) (l.map V.str) = decide (x ∈ l)
  | [] => by simp [inV]
  | y :: l => by
    have ih := inV_str x l
    unfold inV at ih ⊢
    rw [List.map_cons, List.any_cons, ih]
    have e : eqV (V.str y) (V.str x) = decide (x = y) := by
      by_cases h : x = y
      · subst h; simp [eqV]
      · have h' : ¬ y = x := fun z => h z.symm
        simp [eqV, h, h']
    rw [e]
    by_cases h : x = y <;> simp [h]
theorem v_inS {st : Sto} {x : Str} {l : List Str} {neg : Bool} {d : Dt} (h : asL st d = some (l.map Dt.str)) : gIn neg st (.str x) d = some (.bl (if neg then !decide (x ∈ l) else decide (x ∈ l)), st) := by
  unfold gIn inD
  rw [h]
  show ((flats (l.map Dt.str)).map _).map _ = _
  rw [flats_str]
  show some (Dt.bl (if neg = true then !(inV (.str x) (l.map V.str)) else inV (.str x) (l.map V.str)), st) = _
  rw [inV_str]
end HB

set_option Elab.async false
set_option linter.all false
set_option maxRecDepth 100000
set_option maxHeartbeats 1000000
namespace K01
open PySem PySem.Spec PyProof.Rows L2 HB
theorem line_ge : 16777216 ≤ sizeLine := by decide
/-! ### the words -/
structure Good (ws : List Str) (n : Nat) : Prop where
  n1 : 1 ≤ n
  n7 : n ≤ 7
  l1 : 1 ≤ ws.length
  l5 : ws.length ≤ 5
  len : ∀ w ∈ ws, w.length = n
  let_ : ∀ w ∈ ws, ∀ c ∈ w.cps.toList, letB ⟨#[c]⟩ = true
  nd : ws.Nodup
theorem good_of {ws : List Str} (h : goodW ws = true) : ∃ n, Good ws n := by
  unfold goodW at h
  simp only [Bool.and_eq_true, decide_eq_true_eq, List.all_eq_true] at h
  obtain ⟨h1, h2, h3, h4⟩ := h
  have key : ∀ w ∈ ws, 1 ≤ w.length ∧ w.length ≤ 7 ∧ (∀ c ∈ w.cps.toList, letB ⟨#[c]⟩ = true) ∧ w.length = (ws.headD "").length := fun w hw => by
    have := h3 w hw
    unfold wordB at this
    simp only [Bool.and_eq_true, decide_eq_true_eq, List.all_eq_true] at this
    exact this
  match ws, h1, h2, h4, key with
  | w :: ws, h1, h2, h4, key =>
    have k0 := key w List.mem_cons_self
    exact ⟨w.length, k0.1, k0.2.1, h1, h2, fun v hv => (key v hv).2.2.2, fun v hv => (key v hv).2.2.1, h4⟩
theorem w1_of {ds : List Dt} {f : List Str → Dt} {d : Dt} (h : w1 ds f = some d) : ∃ ws n, ds = ws.map .str ∧ Good ws n ∧ goodW ws = true ∧ d = f ws := by
  unfold w1 at h
  obtain ⟨ws, h1, h2⟩ := bind_some' h
  split at h2
  · rename_i hg
    cases h2
    obtain ⟨n, hn⟩ := good_of hg
    exact ⟨ws, n, strs_inv h1, hn, hg, rfl⟩
  · cases h2
theorem w1_self {ws : List Str} {f : List Str → Dt} (h : goodW ws = true) : w1 (ws.map .str) f = some (f ws) := by
  unfold w1
  rw [strs_self]
  exact if_pos h
theorem v_toR0 {fs : SA} {r : Evr} {st : Sto} {ds : List Dt} (h : fs r st = some (ds, [])) : toR fs r st = some (.ref 0, [some (.lst ds)]) := v_toR h
theorem b_rt0 {g : SS} {n : Nat} {ds : List Dt} {st st1 : Sto} {d : Dt} (h : g (startD n ds) st = some (.rt d st1)) : bodyF g n ds st = some (d, st1) := by unfold bodyF; rw [h]; rfl
theorem hMd (i j : Int) (h : 0 < j) : cMod i j = true := by unfold cMod; exact decide_eq_true h
theorem hDv (i j : Int) (h : 0 < j ∧ j < 1073741824) : cDiv i j = true := by unfold cDiv; exact decide_eq_true h
/-! ### is_letter -/
theorem leV_is_letter (ds : List Dt) (d : Dt) (h : m_is_letter ds = some d) : fV F_is_letter ds = some d := by
  unfold m_is_letter at h
  split at h
  · rename_i z
    cases h
    have e : g_is_letter (startD 1 [.str z]) [] = some (.rt (.bl (letB z)) []) := by
      refine s_ret ?_
      unfold letB
      cases h1 : decide (z.cps.toList < ("!" : Str).cps.toList) with
      | true => exact v_chain0 rfl (v_var rfl) (by rw [v_leS, h1]; rfl)
      | false => exact v_chain rfl (v_var rfl) (by rw [v_leS, h1]; rfl) rfl rfl
    exact fV_of (b_rt e) (deref_no rfl)
  · cases h
/-! ### the draws -/
theorem leR__law_draws (ds : List Dt) (d : Dt) (h : m__law_draws ds = some d) : fR F__law_draws ds = some d := by
  unfold m__law_draws at h
  split at h
  · rename_i c
    cases h
    have p1 : ∀ r st, eOp2 gPow (eC (.int 10)) (eC (.int 60)) r st = some (.int (10 ^ 60), st) := fun r st => v_op rfl rfl (v_gI (by decide +kernel))
    have p2 : ∀ r st, eOp2 gPow (eOp2 gPow (eC (.int 10)) (eC (.int 60))) (eC (.int 60)) r st = some (.int ((10 ^ 60) ^ 60), st) := fun r st => v_op (p1 r st) rfl (v_gI (by decide +kernel))
    have p3 : ∀ r st, eOp2 gPow (eOp2 gPow (eOp2 gPow (eC (.int 10)) (eC (.int 60))) (eC (.int 60))) (eC (.int 4)) r st = some (.int bigM, st) := fun r st => v_op (p2 r st) rfl (v_gI (by decide +kernel))
    have hM : 0 < bigM := by unfold bigM; decide +kernel
    have e : g__law_draws (startD 1 [.int c]) [] = some (.rt (.ref 0) [some (.lst [.int (c % bigM), .int 0, .bl (decide (10 ^ 18 ≤ c))])]) := by
      refine s_ret (v_toR0 (v_small (v_cons (v_op (v_N (v_one (v_var rfl)) rfl) (p3 _ _) (v_gI (decide_eq_true hM))) (v_cons rfl (v_one (v_op (v_var rfl) (v_op rfl rfl (v_gI (by decide +kernel))) rfl)))) (by show 3 ≤ sizeLine; decide)))
    exact fR_lst (b_rt e) rfl rfl
  · cases h
theorem asDrw_of {c : Dt} {x : Drw} (h : asDrw c = some x) : c = x.dt ∧ x.k < 1000000 := by
  unfold asDrw at h
  split at h
  · split at h
    · rename_i hk
      cases h
      unfold Drw.dt
      have : ((Int.toNat _ : Nat) : Int) = _ := Int.toNat_of_nonneg hk.1
      rw [this]
      exact ⟨rfl, by show Int.toNat _ < 1000000; omega⟩
    · cases h
  · cases h
theorem drw_self {x : Drw} (h : x.k < 1000000) : asDrw x.dt = some x := by
  unfold Drw.dt asDrw
  show (if (0 : Int) ≤ x.k ∧ (x.k : Int) < 1000000 then _ else _) = _
  rw [if_pos (by omega)]
  cases x
  simp
theorem leE__law_next (c : Dt) (ds : List Dt) (d : Dt × Dt) (h : m__law_next c ds = some d) : fE F__law_next c ds = some d := by
  unfold m__law_next at h
  split at h
  · obtain ⟨x, h1, h2⟩ := Option.map_eq_some_iff.mp h
    subst h2
    obtain ⟨rfl, hk⟩ := asDrw_of h1
    obtain ⟨a, k, b⟩ := x
    dsimp only at hk
    have s1 : ∀ {r : Evr} {st st1 st2 st3 : Sto} {fd fk fv : SE} {v : Dt} {i : Nat} {z : Int} {es : List Dt} {j : Nat}, fv r st = some (v, st1) → fd r st1 = some (.ref i, st2) → fk r st2 = some (.int z, st3) → st3[i]? = some (some (.lst es)) → ixN es.length z = some j → sLP fd fk fv r st = some (.nx r (st3.set i (some (.lst (es.set j v))))) := by
      intro r st st1 st2 st3 fd fk fv v i z es j h1 h2 h3 h4 h5
      unfold sLP
      rw [h1]
      show (fd r st1).bind _ = _
      rw [h2]
      show (fk r st2).bind _ = _
      rw [h3]
      show (match st3[i]? with
        | some (some (.lst ds)) => (ixN ds.length z).map fun j => Ou.nx r (st3.set i (some (.lst (ds.set j v))))
        | _ => none) = _
      rw [h4]
      show (ixN es.length z).map _ = _
      rw [h5]
      rfl
    cases b with
    | true =>
      have e : g__law_next (startD 3 [.ref 0]) [some (.lst [.int a, .int (k : Nat), .bl true])] = some (.rt (.int (a % 1000000)) [some (.lst [.int (a / 1000000), .int ((k : Nat) + 1), .bl true])]) := by
        refine s_seq (s1 (v_op (v_op (v_var rfl) rfl rfl) rfl rfl) (v_var rfl) rfl rfl rfl) ?_
        refine s_seq (s_set (v_op (v_var rfl) rfl rfl)) ?_
        refine s_seqRt (s_ifT (t_B (v_op (v_var rfl) rfl rfl)) ?_)
        refine s_seq (s_set (v_op (v_N (v_one (v_op (v_var rfl) rfl rfl)) rfl) (v_op rfl rfl (v_gI (by decide +kernel))) (v_gI (hMd _ _ (by decide +kernel))))) ?_
        refine s_seq (s1 (v_op (v_op (v_var rfl) rfl rfl) (v_op rfl rfl (v_gI (by decide +kernel))) (v_gI (hDv _ _ (by decide +kernel)))) (v_var rfl) rfl rfl rfl) ?_
        exact s_ret (v_var rfl)
      refine fE_of (c' := .lst [.int (a / 1000000), .int ((k : Nat) + 1), .bl true]) (x := .int (a % 1000000)) (b_rt0 e) rfl rfl (deref_no rfl)
    | false =>
      have hk1 : cMul ((k : Int) + 1) ((k : Int) + 1) = true := by unfold cMul; simp only [decide_eq_true_eq]; left; constructor <;> omega
      have hR : ∀ (i j : Int), (-(2 ^ 64) < j ∧ j < 2 ^ 64) → cMul i j = true := fun i j h => by unfold cMul; simp only [decide_eq_true_eq]; exact .inr h
      have n1 : ∀ z : Int, -(2 ^ 64) < z % 2147483629 ∧ z % 2147483629 < 2 ^ 64 := fun z => by
        have a1 := Int.emod_nonneg z (show (2147483629 : Int) ≠ 0 by decide)
        have a2 := Int.emod_lt_of_pos z (show (0 : Int) < 2147483629 by decide)
        omega
      have n2 : ∀ z : Int, -(2 ^ 64) < z % 2147483587 + 2 ∧ z % 2147483587 + 2 < 2 ^ 64 := fun z => by
        have a1 := Int.emod_nonneg z (show (2147483587 : Int) ≠ 0 by decide)
        have a2 := Int.emod_lt_of_pos z (show (0 : Int) < 2147483587 by decide)
        omega
      have e : g__law_next (startD 3 [.ref 0]) [some (.lst [.int a, .int (k : Nat), .bl false])] = some (.rt (.int (mixN a ((k : Nat) + 1))) [some (.lst [.int a, .int ((k : Nat) + 1), .bl false])]) := by
        refine s_seq (s1 (v_op (v_op (v_var rfl) rfl rfl) rfl rfl) (v_var rfl) rfl rfl rfl) ?_
        refine s_seq (s_set (v_op (v_var rfl) rfl rfl)) ?_
        refine s_seq (s_ifF (t_B (v_op (v_var rfl) rfl rfl)) rfl) ?_
        refine s_seq (s_set (v_op (v_N (v_one (v_op (v_op (v_op (v_op (v_N (v_one (v_op (v_var rfl) rfl rfl)) rfl) rfl (v_gI (hMd _ _ (by decide)))) (v_op (v_op (v_var rfl) (v_var rfl) (v_gI hk1)) rfl (v_gI (hR _ _ (by decide)))) rfl) (v_var rfl) rfl) rfl (v_gI (hR _ _ (by decide))))) rfl) rfl (v_gI (hMd _ _ (by decide))))) ?_
        refine s_seq (s_set (v_op (v_N (v_one (v_op (v_var rfl) (v_var rfl) (v_gI (hR _ _ (n1 _))))) rfl) rfl (v_gI (hMd _ _ (by decide))))) ?_
        exact s_ret (v_op (v_op (v_N (v_one (v_op (v_var rfl) (v_op (v_var rfl) rfl rfl) (v_gI (hR _ _ (n2 _))))) rfl) rfl (v_gI (hMd _ _ (by decide)))) rfl (v_gI (hDv _ _ (by decide))))
      refine fE_of (c' := .lst [.int a, .int ((k : Nat) + 1), .bl false]) (x := .int (mixN a ((k : Nat) + 1))) (b_rt0 e) rfl rfl (deref_no rfl)
  · cases h
end K01

set_option Elab.async false
set_option linter.all false
set_option maxRecDepth 100000
set_option maxHeartbeats 1000000
namespace K01
open PySem PySem.Spec PyProof.Rows L2 HB
theorem t_nT {c : ST} {r : Evr} {st st1 : Sto} (h : c r st = some (true, st1)) : cNot c r st = some (false, st1) := t_not h
theorem t_nF {c : ST} {r : Evr} {st st1 : Sto} (h : c r st = some (false, st1)) : cNot c r st = some (true, st1) := t_not h
theorem v_le3 {f : SE} {r : Evr} {st st1 : Sto} {z lo hi : Int} (h : f r st = some (.int z, st1)) (h1 : lo ≤ z) (h2 : z ≤ hi) : eChain gLe gLe (eC (.int lo)) f (eC (.int hi)) r st = some (.bl true, st1) :=
  v_chain rfl h (by rw [v_le, decide_eq_true h1]) rfl (by rw [v_le, decide_eq_true h2])
theorem v_neIF {st : Sto} {x y : Int} (h : x = y) : gNe st (.int x) (.int y) = some (.bl false, st) := by rw [v_neI, decide_eq_true h]; rfl
theorem v_inF {st : Sto} {x : Str} {l : List Str} {d : Dt} (h : asL st d = some (l.map Dt.str)) (hm : x ∉ l) : gIn false st (.str x) d = some (.bl false, st) := by rw [v_inS h, decide_eq_false hm]; rfl
theorem v_inT {st : Sto} {x : Str} {l : List Str} {d : Dt} (h : asL st d = some (l.map Dt.str)) (hm : x ∈ l) : gIn false st (.str x) d = some (.bl true, st) := by rw [v_inS h, decide_eq_true hm]; rfl
theorem v_ninF {st : Sto} {x : Str} {l : List Str} {d : Dt} (h : asL st d = some (l.map Dt.str)) (hm : x ∈ l) : gIn true st (.str x) d = some (.bl false, st) := by rw [v_inS h, decide_eq_true hm]; rfl
theorem v_ninT {st : Sto} {x : Str} {l : List Str} {d : Dt} (h : asL st d = some (l.map Dt.str)) (hm : x ∉ l) : gIn true st (.str x) d = some (.bl true, st) := by rw [v_inS h, decide_eq_false hm]; rfl
theorem atI_zero {α : Type} (x : α) (l : List α) : atI (x :: l) 0 = some x := by simp [atI, ixN]
theorem sIx0 (n d : Nat) : HT.sIx n d none = d := rfl
theorem cutS_pre (z : Str) (n : Nat) : cutS z none (some (n : Int)) = pre z n := by
  unfold cutS pre
  rw [sIx0, HT.sIx_nat]
  have : z.length = z.cps.toList.length := by simp [Str.length]
  congr 1
  rw [List.drop_zero, Nat.sub_zero, this, ← List.take_eq_take_min]
theorem cutL_map {α : Type} (f : α → Dt) (l : List α) (n : Nat) : cutL (l.map f) none (some (n : Int)) = (l.take n).map f := by
  unfold cutL
  rw [sIx0, HT.sIx_nat, List.drop_zero, Nat.sub_zero, ← List.take_eq_take_min, List.map_take]
theorem good_len {ws : List Str} {n : Nat} (h : Good ws n) {w : Str} (hw : w ∈ ws) : w.length ≤ sizeLine := by
  rw [h.len w hw]
  exact Nat.le_trans h.n7 (Nat.le_trans (by decide) line_ge)
abbrev WL (ws : List Str) : Dt := .lst (ws.map Dt.str)
theorem isi_str (z : Str) (st : Sto) : gIs "str" st [.str z] = some (.bl true, st) := rfl
theorem isi_lst (z : List Dt) (st : Sto) : gIs "list" st [.lst z] = some (.bl true, st) := rfl
theorem bools_all (l : List Nat) (h : ∀ c ∈ l, letB ⟨#[c]⟩ = true) : gAll [] [.lst (l.map fun c => Dt.bl (letB ⟨#[c]⟩))] = some (.bl true, []) := by
  show ((bools (l.map fun c => Dt.bl (letB ⟨#[c]⟩))).map _) = _
  rw [bools_map (fun c => letB ⟨#[c]⟩) l]
  show some (Dt.bl ((l.map fun c => letB ⟨#[c]⟩).all id), []) = _
  rw [show ((l.map fun c => letB ⟨#[c]⟩).all id) = true from by rw [List.all_map, List.all_eq_true]; exact h]
theorem chk_loop {ws : List Str} {n : Nat} (hg : Good ws n) : ∀ (rest done : List Str), ws = done ++ rest → ∀ a b : Option Dt, ∃ a' b', sForGo (kTup (ksCons (kName 1) (ksCons (kName 2) ksNil)))
  (sSeq (sIf (cOr (cNot (cB (eN (gIs "str") (aCons (eVar 2) aNil)))) (cNot (cB (eChain gLe gLe (eC (.int 1)) (eN gLen (aCons (eVar 2) aNil)) (eC (.int 7)))))) sNo sNx)
  (sIf (cOr (cNot (cB (eN gAll (aCons (toV (lc (iE itS (eVar 2)) [3] (kName 3) cYes (eN (gF 1 (liftV m_is_letter)) (aCons (eVar 3) aNil)))) aNil)))) (cOr (cB (eOp2 gNe (eN gLen (aCons (eVar 2) aNil)) (eN gLen (aCons (eOp2 gIx (eVar 0) (eC (.int 0))) aNil)))) (cB (eOp2 (gIn false) (eVar 2) (eSl (eVar 0) oNo (oE (eVar 1))))))) sNo sNx))
  ((rest.zipIdx done.length).map fun x => Dt.tup [.int (x.2 : Nat), .str x.1]) [some (WL ws), a, b, none] [] = some (.nx [some (WL ws), a', b', none] [])
  | [], _, _, a, b => ⟨a, b, rfl⟩
  | w :: rest, done, e, a, b => by
    have hw : w ∈ ws := by rw [e]; simp
    obtain ⟨a', b', ih⟩ := chk_loop hg rest (done ++ [w]) (by rw [e]; simp) (some (.int (done.length : Nat))) (some (.str w))
    refine ⟨a', b', ?_⟩
    have hn := hg.len w hw
    have h1 := hg.n1
    have h7 := hg.n7
    obtain ⟨w0, ws', ew⟩ : ∃ w0 ws', ws = w0 :: ws' := by
      cases ws with
      | nil => simp at hw
      | cons x y => exact ⟨x, y, rfl⟩
    have h0 := hg.len w0 (by rw [ew]; simp)
    rw [List.zipIdx_cons, List.map_cons]
    refine for_cons (r1 := [some (WL ws), some (.int (done.length : Nat)), some (.str w), none]) (r2 := [some (WL ws), some (.int (done.length : Nat)), some (.str w), none]) (st1 := []) rfl ?_ (by simpa using ih)
    have nin : w ∉ ws.take done.length := by
      rw [e, List.take_left]
      have nd := hg.nd
      rw [e] at nd
      intro hm
      exact (List.nodup_append.mp nd).2.2 w hm w (by simp) rfl
    have hz : w.cps.toList.length ≤ sizeLine := by
      have := good_len hg hw
      simpa [Str.length] using this
    refine s_seq (s_ifF (t_orF (t_nT (t_B (v_N (v_one (v_var rfl)) (isi_str _ _)))) (t_nT (t_B (v_le3 (v_N (v_one (v_var rfl)) (v_lenS (good_len hg hw))) (by omega) (by omega))))) rfl) ?_
    exact s_ifF (t_orF (t_nT (t_B (v_N (v_one (v_toV (lc_map (D := fun c => .str ⟨#[c]⟩) (q := fun c => .bl (letB ⟨#[c]⟩)) w.cps.toList (v_iE (v_var rfl) rfl) (fun c hc => ⟨[some (WL ws), some (.int (done.length : Nat)), some (.str w), some (.str ⟨#[c]⟩)], rfl, v_N (v_one (v_var (d := .str ⟨#[c]⟩) rfl)) (v_gF rfl (v_V (ds := [.str ⟨#[c]⟩]) (d := .bl (letB ⟨#[c]⟩)) rfl rfl))⟩) hz))) (bools_all _ (hg.let_ w hw)))))
      (t_orF (t_B (v_op (v_N (v_one (v_var rfl)) (v_lenS (good_len hg hw))) (v_N (v_one (v_op (v_var rfl) rfl (v_ixL (d := .str w0) (by rw [ew]; exact atI_zero _ _)))) (v_lenS (good_len hg (by rw [ew]; simp)))) (v_neIF (by rw [hn, h0])))) (t_B (v_op (v_var rfl) (v_sl (v_var rfl) rfl (v_oE (v_var rfl)) rfl) (v_inF (l := ws.take done.length) (by show asL [] (.lst (cutL (ws.map Dt.str) none (some (done.length : Int)))) = _; rw [cutL_map]; rfl) nin))))) rfl
theorem leV_check_words (ds : List Dt) (d : Dt) (h : m_check_words ds = some d) : fV F_check_words ds = some d := by
  unfold m_check_words at h
  split at h
  · obtain ⟨ws, n, rfl, hg, _, rfl⟩ := w1_of h
    obtain ⟨a', b', hl⟩ := chk_loop hg ws [] rfl none none
    have h1 := hg.l1
    have h5 := hg.l5
    have e : g_check_words (startD 4 [WL ws]) [] = some (.nx [some (WL ws), a', b', none] []) := by
      unfold g_check_words
      rw [show startD 4 [WL ws] = [some (WL ws), none, none, none] from rfl]
      refine s_seq (s_ifF (t_orF (t_nT (t_B (v_N (v_one (v_var rfl)) (isi_lst _ _)))) (t_nT (t_B (v_le3 (v_N (v_one (v_var rfl)) (v_lenL rfl)) (by rw [List.length_map]; omega) (by rw [List.length_map]; omega))))) rfl) ?_
      refine s_for (xs := enumL (ws.map Dt.str)) (st1 := []) (by exact v_iR (v_one (v_var rfl)) rfl) ?_
      have : enumL (ws.map Dt.str) = (ws.zipIdx 0).map fun x => Dt.tup [.int (x.2 : Nat), .str x.1] := by
        unfold enumL
        rw [List.zipIdx_map, List.map_map]
        rfl
      rw [this]
      exact hl
    exact fV_of (b_nx e) (deref_no rfl)
  · cases h
/-! ### the states -/
theorem ins2_mem {k x : Str} {l : List Str} : x ∈ ins2 k l ↔ x = k ∨ x ∈ l := by
  unfold ins2
  split
  · rename_i h
    exact ⟨.inr, fun z => z.elim (fun e => e ▸ h) id⟩
  · simp [or_comm]
theorem ins2_nodup {k : Str} {l : List Str} (h : l.Nodup) : (ins2 k l).Nodup := by
  unfold ins2
  split
  · exact h
  · rename_i n
    exact List.nodup_append.mpr ⟨h, by simp, fun a ha b hb e => n (by rw [List.mem_singleton.mp hb] at e; exact e ▸ ha)⟩
theorem ins2_len (k : Str) (l : List Str) : (ins2 k l).length ≤ l.length + 1 := by
  unfold ins2
  split <;> simp
theorem fold_mem {x : Str} : ∀ (ks l : List Str), x ∈ ks.foldl (fun l k => ins2 k l) l ↔ x ∈ ks ∨ x ∈ l
  | [], l => by simp
  | k :: ks, l => by
    rw [List.foldl_cons, fold_mem ks, ins2_mem]
    simp only [List.mem_cons]
    constructor
    · rintro (h | h | h)
      · exact .inl (.inr h)
      · exact .inl (.inl h)
      · exact .inr h
    · rintro ((h | h) | h)
      · exact .inr (.inl h)
      · exact .inl h
      · exact .inr (.inr h)
theorem fold_nodup : ∀ (ks l : List Str), l.Nodup → (ks.foldl (fun l k => ins2 k l) l).Nodup
  | [], l, h => h
  | k :: ks, l, h => by rw [List.foldl_cons]; exact fold_nodup ks _ (ins2_nodup h)
theorem fold_len : ∀ (ks l : List Str), (ks.foldl (fun l k => ins2 k l) l).length ≤ l.length + ks.length
  | [], l => by simp
  | k :: ks, l => by
    rw [List.foldl_cons]
    have := fold_len ks (ins2 k l)
    have := ins2_len k l
    rw [List.length_cons]
    omega
theorem pre_len (w : Str) (n : Nat) : (pre w n).length = min n w.length := by
  unfold pre
  simp [Str.length]
theorem mem_keys {ws : List Str} {x : Str} : x ∈ keysOf ws ↔ ∃ w ∈ ws, ∃ n ≤ w.length, x = pre w n := by
  unfold keysOf
  rw [fold_mem]
  simp only [List.mem_flatMap, preOf, List.mem_map, List.mem_range, List.not_mem_nil, or_false]
  constructor
  · rintro ⟨w, hw, n, hn, e⟩
    exact ⟨w, hw, n, by omega, e.symm⟩
  · rintro ⟨w, hw, n, hn, e⟩
    exact ⟨w, hw, n, by omega, e.symm⟩
theorem keys_nodup (ws : List Str) : (keysOf ws).Nodup := fold_nodup _ _ List.nodup_nil
/-- the dict of the states so far -/
abbrev dS (l : List Str) : Dt := .dic (l.map Sum.inr) (l.map fun _ => .bl true)
theorem pSet_true : ∀ (k : Str) (l : List Str), pSet (Sum.inr k) (Dt.bl true) (l.map (Sum.inr : Str → Key)) (l.map fun _ => .bl true) = l.map fun _ => Dt.bl true
  | _, [] => rfl
  | k, x :: l => by
    rw [List.map_cons, List.map_cons]
    show (if (Sum.inr x : Key) = Sum.inr k then Dt.bl true else Dt.bl true) :: pSet (Sum.inr k) (Dt.bl true) (l.map (Sum.inr : Str → Key)) (l.map fun _ => .bl true) = _
    rw [pSet_true k l, ite_self]
theorem put_dS (k : Str) (l : List Str) : Dt.dic (pPut (Sum.inr k) (Dt.bl true) (l.map (Sum.inr : Str → Key)) (l.map fun _ => .bl true)).1 (pPut (Sum.inr k) (Dt.bl true) (l.map (Sum.inr : Str → Key)) (l.map fun _ => .bl true)).2 = dS (ins2 k l) := by
  unfold pPut ins2
  have e : ((l.map (Sum.inr : Str → Key)).any fun j => decide (j = Sum.inr k)) = decide (k ∈ l) := by
    induction l with
    | nil => simp
    | cons x l ih =>
      rw [List.map_cons, List.any_cons, ih]
      by_cases h : x = k
      · subst h; simp
      · have h' : ¬ k = x := fun z => h z.symm
        simp [h, h']
  rw [e]
  by_cases h : k ∈ l
  · simp only [h, decide_true, if_true]
    rw [pSet_true]
  · simp only [h, decide_false, if_false]
    simp [dS]
end K01

set_option Elab.async false
set_option linter.all false
set_option maxRecDepth 100000
set_option maxHeartbeats 1000000
namespace K01
open PySem PySem.Spec PyProof.Rows L2 HB
theorem s_DP {r : Evr} {st st1 st2 st3 : Sto} {fd fk fv : SE} {v kd : Dt} {i : Nat} {k : Key} {ks : List Key} {es : List Dt} (h1 : fv r st = some (v, st1)) (h2 : fd r st1 = some (.ref i, st2)) (h3 : fk r st2 = some (kd, st3)) (h4 : st3[i]? = some (some (.dic ks es))) (hz : ks.length < sizeLine) (hk : keyD kd = some k) :
    sDP fd fk fv r st = some (.nx r (st3.set i (some (.dic (pPut k v ks es).1 (pPut k v ks es).2)))) := by
  unfold sDP
  rw [h1]
  show (fd r st1).bind _ = _
  rw [h2]
  show (fk r st2).bind _ = _
  rw [h3]
  show (match st3[i]? with
    | some (some (.dic ks ds)) => if ks.length < sizeLine then (keyD kd).map fun k => Ou.nx r (st3.set i (some (.dic (pPut k v ks ds).1 (pPut k v ks ds).2))) else none
    | _ => none) = _
  rw [h4]
  show (if ks.length < sizeLine then (keyD kd).map _ else none) = _
  rw [if_pos hz, hk]
  rfl
theorem st_inner {W : Dt} {w : Str} (hw : w.length ≤ sizeLine) : ∀ (ks : List Nat) (l : List Str) (c : Option Dt), l.length + ks.length < sizeLine → ∃ c', sForGo (kName 3) (sDP (eVar 1) (eSl (eVar 2) oNo (oE (eVar 3))) (eC (.bl true))) (ks.map fun n => Dt.int (0 + (n : Nat))) [some W, some (.ref 0), some (.str w), c] [some (dS l)] =
    some (.nx [some W, some (.ref 0), some (.str w), c'] [some (dS ((ks.map (pre w)).foldl (fun l k => ins2 k l) l))])
  | [], l, c, _ => ⟨c, rfl⟩
  | n :: ks, l, c, h => by
    rw [List.length_cons] at h
    have := ins2_len (pre w n) l
    obtain ⟨c', ih⟩ := st_inner hw ks (ins2 (pre w n) l) (some (.int (0 + (n : Nat)))) (by omega)
    refine ⟨c', ?_⟩
    rw [List.map_cons]
    refine for_cons (r1 := [some W, some (.ref 0), some (.str w), some (.int (0 + (n : Nat)))]) (r2 := [some W, some (.ref 0), some (.str w), some (.int (0 + (n : Nat)))]) (st1 := [some (dS (ins2 (pre w n) l))]) rfl ?_ (by rw [List.map_cons, List.foldl_cons]; exact ih)
    have e := s_DP (r := [some W, some (.ref 0), some (.str w), some (.int (0 + (n : Nat)))]) (st := [some (dS l)]) (fd := eVar 1) (fk := eSl (eVar 2) oNo (oE (eVar 3))) (fv := eC (.bl true)) (kd := .str (pre w n)) (k := Sum.inr (pre w n)) (i := 0) (ks := l.map Sum.inr) (es := l.map fun _ => .bl true) rfl (v_var rfl)
      (v_sl (v_var rfl) rfl (v_oE (v_var rfl)) (by rw [v_slS hw, Int.zero_add, cutS_pre])) rfl (by rw [List.length_map]; omega) rfl
    rw [e, put_dS]
    rfl
theorem rng_eq (n : Nat) : rngL 0 n = (List.range n).map fun i => Dt.int (0 + (i : Nat)) := rfl
theorem v_rg {f : SA} {r : Evr} {st st1 : Sto} {n : Nat} (h : f r st = some ([.int (n : Nat)], st1)) (hn : n < 1000000) : iR rg1 f r st = some ((List.range n).map fun i => Dt.int (0 + (i : Nat)), st1) := by
  refine v_iR h ?_
  simp only [rg1]
  rw [if_pos (by omega), Int.toNat_natCast]
  rfl
theorem st_outer {W : Dt} {m : Nat} : ∀ (ws : List Str) (l : List Str) (b c : Option Dt), (∀ w ∈ ws, w.length ≤ 7) → l.length + 8 * ws.length < 1000000 → ∃ b' c', sForGo (kName 2) (sFor (iR rg1 (aCons (eOp2 gAdd (eN gLen (aCons (eVar 2) aNil)) (eC (.int 1))) aNil)) (kName 3) (sDP (eVar 1) (eSl (eVar 2) oNo (oE (eVar 3))) (eC (.bl true)))) (ws.map Dt.str) [some W, some (.ref 0), b, c] [some (dS l)] =
    some (.nx [some W, some (.ref 0), b', c'] [some (dS ((ws.flatMap preOf).foldl (fun l k => ins2 k l) l))])
  | [], l, b, c, _, _ => ⟨b, c, rfl⟩
  | w :: ws, l, b, c, hw, hl => by
    have h7 := hw w (by simp)
    have hz : w.length ≤ sizeLine := Nat.le_trans h7 (Nat.le_trans (by decide) line_ge)
    have hsl := line_ge
    rw [List.length_cons] at hl
    obtain ⟨c1, e1⟩ := st_inner (W := W) hz (List.range (w.length + 1)) l c (by rw [List.length_range]; omega)
    have hlen := fold_len ((List.range (w.length + 1)).map (pre w)) l
    rw [List.length_map, List.length_range] at hlen
    obtain ⟨b', c', e2⟩ := st_outer (W := W) (m := m) ws (((List.range (w.length + 1)).map (pre w)).foldl (fun l k => ins2 k l) l) (some (.str w)) c1 (fun v hv => hw v (by simp [hv])) (by omega)
    refine ⟨b', c', ?_⟩
    rw [List.map_cons]
    refine for_cons (r1 := [some W, some (.ref 0), some (.str w), c]) rfl (s_for (v_rg (n := w.length + 1) (v_one (v_op (v_N (v_one (v_var rfl)) (v_lenS hz)) rfl rfl)) (by omega)) e1) ?_
    rw [List.flatMap_cons, List.foldl_append]
    exact e2
theorem run_states {ws : List Str} {n : Nat} (hg : Good ws n) : F_all_states [WL ws] [] = some (.ref 1, [some (dS (keysOf ws)), some (WL (allSt ws))]) := by
  have h5 := hg.l5
  obtain ⟨b', c', e⟩ := st_outer (W := WL ws) (m := 0) ws [] none none (fun w hw => by rw [hg.len w hw]; exact hg.n7) (by simp; omega)
  refine b_rt ?_
  refine s_seq (r1 := [some (WL ws), some (.ref 0), none, none]) (st1 := [some (dS [])]) rfl (s_seq (s_for (xs := ws.map Dt.str) (st1 := [some (dS [])]) (by exact v_iE (v_var rfl) rfl) e) (s_ret ?_))
  unfold eSortK
  rw [v_var (d := .ref 0) rfl]
  rw [show List.foldl (fun l k => ins2 k l) [] (List.flatMap preOf ws) = keysOf ws from rfl]
  show (kStrs ((keysOf ws).map Sum.inr)).bind _ = _
  have hk : kStrs ((keysOf ws).map (Sum.inr : Str → Key)) = some (keysOf ws) := by
    generalize keysOf ws = l
    induction l with
    | nil => rfl
    | cons x l ih => rw [List.map_cons]; show (kStrs (l.map (Sum.inr : Str → Key))).map _ = _; rw [ih]; rfl
  rw [hk]
  show (if _ then _ else _) = _
  rw [if_pos]
  · rfl
  · rw [List.all_eq_true]
    intro x hx
    obtain ⟨w, hw, k, hk, rfl⟩ := mem_keys.mp hx
    have h7 := hg.n7
    have hl := hg.len w hw
    have hs := line_ge
    have hp := pre_len w k
    simp only [decide_eq_true_eq]
    omega
theorem leV_all_states (ds : List Dt) (d : Dt) (h : m_all_states ds = some d) : fV F_all_states ds = some d := by
  unfold m_all_states at h
  split at h
  · obtain ⟨ws, n, rfl, hg, _, rfl⟩ := w1_of h
    exact fV_lst (run_states hg) rfl (noRefs_str _)
  · cases h
theorem leR_all_states (ds : List Dt) (d : Dt) (h : m_all_states ds = some d) : fR F_all_states ds = some d := by
  unfold m_all_states at h
  split at h
  · obtain ⟨ws, n, rfl, hg, _, rfl⟩ := w1_of h
    exact fR_lst (run_states hg) rfl (noRefs_str _)
  · cases h
/-! ### states, check_state -/
theorem run_st {ws : List Str} (hg : goodW ws = true) : F_states [WL ws] [] = some (.ref 0, [some (WL (allSt ws))]) := by
  refine b_rt ?_
  refine s_seq (s_ex (d := .non) (st1 := []) (by exact v_N (v_one (v_var rfl)) (v_gF rfl (v_V (d := .non) (by exact (Bool.and_eq_true _ _).mpr ⟨noRef_lstS ws, rfl⟩) (w1_self hg))))) (s_ret ?_)
  exact v_N (v_one (v_var rfl)) (v_gF rfl (v_R (st := []) (by exact (Bool.and_eq_true _ _).mpr ⟨noRef_lstS ws, rfl⟩) (w1_self hg)))
theorem leV_states (ds : List Dt) (d : Dt) (h : m_states ds = some d) : fV F_states ds = some d := by
  unfold m_states m_all_states at h
  split at h
  · obtain ⟨ws, n, rfl, _, hg, rfl⟩ := w1_of h
    exact fV_lst (run_st hg) rfl (noRefs_str _)
  · cases h
theorem leR_states (ds : List Dt) (d : Dt) (h : m_states ds = some d) : fR F_states ds = some d := by
  unfold m_states m_all_states at h
  split at h
  · obtain ⟨ws, n, rfl, _, hg, rfl⟩ := w1_of h
    exact fR_lst (run_st hg) rfl (noRefs_str _)
  · cases h
end K01

set_option Elab.async false
set_option linter.all false
set_option maxRecDepth 100000
set_option maxHeartbeats 1000000
namespace K01
open PySem PySem.Spec PyProof.Rows L2 HB
theorem mem_all {ws : List Str} {x : Str} : x ∈ allSt ws ↔ x ∈ keysOf ws := (List.mergeSort_perm (keysOf ws) keyLe).mem_iff
theorem all_nodup (ws : List Str) : (allSt ws).Nodup := (List.mergeSort_perm (keysOf ws) keyLe).nodup_iff.mpr (keys_nodup ws)
theorem all_len7 {ws : List Str} {n : Nat} (hg : Good ws n) {x : Str} (h : x ∈ allSt ws) : x.length ≤ 7 := by
  obtain ⟨w, hw, k, hk, rfl⟩ := mem_keys.mp (mem_all.mp h)
  have := hg.len w hw
  have := hg.n7
  have := pre_len w k
  omega
theorem all_line {ws : List Str} {n : Nat} (hg : Good ws n) {x : Str} (h : x ∈ allSt ws) : x.length ≤ sizeLine := Nat.le_trans (all_len7 hg h) (Nat.le_trans (by decide) line_ge)
theorem all_few {ws : List Str} {n : Nat} (hg : Good ws n) : (allSt ws).length ≤ 40 := by
  have e : (allSt ws).length = (keysOf ws).length := (List.mergeSort_perm (keysOf ws) keyLe).length_eq
  have h := fold_len (ws.flatMap preOf) []
  have h2 : (ws.flatMap preOf).length ≤ 8 * ws.length := by
    have : ∀ l : List Str, (∀ w ∈ l, w.length ≤ 7) → (l.flatMap preOf).length ≤ 8 * l.length := by
      intro l
      induction l with
      | nil => simp
      | cons w l ih =>
        intro h
        rw [List.flatMap_cons, List.length_append, List.length_cons]
        have := ih fun v hv => h v (by simp [hv])
        have h7 := h w (by simp)
        have : (preOf w).length = w.length + 1 := by unfold preOf; simp
        omega
    exact this ws fun w hw => by rw [hg.len w hw]; exact hg.n7
  have h5 := hg.l5
  have : (keysOf ws).length = ((ws.flatMap preOf).foldl (fun l k => ins2 k l) []).length := rfl
  rw [List.length_nil, Nat.zero_add] at h
  omega
theorem nr1 (ws : List Str) : noRefs [WL ws] = true := (Bool.and_eq_true _ _).mpr ⟨noRef_lstS ws, rfl⟩
theorem nr2 (s : Str) (ws : List Str) : noRefs [.str s, WL ws] = true := (Bool.and_eq_true _ _).mpr ⟨rfl, nr1 ws⟩
theorem nr3 (s : Str) (ws : List Str) : noRefs [WL ws, .str s] = true := (Bool.and_eq_true _ _).mpr ⟨noRef_lstS ws, rfl⟩
theorem c_all {ws : List Str} {f : SE} {r : Evr} {st st1 : Sto} (hg : goodW ws = true) (h : f r st = some (WL ws, st1)) : eN (gF 1 (liftV m_all_states)) (aCons f aNil) r st = some (WL (allSt ws), st1) := v_N (v_one h) (v_gF rfl (v_V (nr1 ws) (w1_self hg)))
theorem c_words {ws : List Str} {f : SE} {r : Evr} {st st1 : Sto} (hg : goodW ws = true) (h : f r st = some (WL ws, st1)) : eN (gF 1 (liftV m_check_words)) (aCons f aNil) r st = some (.non, st1) := v_N (v_one h) (v_gF rfl (v_V (nr1 ws) (w1_self hg)))
theorem leV_check_state (ds : List Dt) (d : Dt) (h : m_check_state ds = some d) : fV F_check_state ds = some d := by
  unfold m_check_state at h
  split at h
  · rename_i s ds
    obtain ⟨ws, h1, h2⟩ := bind_some' h
    split at h2
    · rename_i hg
      cases h2
      have := strs_inv h1
      subst this
      have e : g_check_state (startD 2 [.str s, WL ws]) [] = some (.nx (startD 2 [.str s, WL ws]) []) := by
        unfold g_check_state
        rw [show startD 2 [.str s, WL ws] = [some (.str s), some (WL ws)] from rfl]
        exact s_ifF (t_orF (t_nT (t_B (v_N (v_one (v_var rfl)) (isi_str _ _)))) (t_B (v_op (v_var rfl) (c_all hg.1 (v_var rfl)) (v_ninF rfl hg.2)))) rfl
      exact fV_of (b_nx e) (deref_no rfl)
    · cases h2
  · cases h
theorem run_ends_in {ws : List Str} {s : Str} {n : Nat} (hg : goodW ws = true) (hn : Good ws n) (hs : s ∈ allSt ws) : F_ends_in [WL ws, .str s] [] = some (.ref 0, [some (WL (below ws s))]) := by
  refine b_rt (s_ret (v_toR0 ?_))
  rw [show startD 3 [WL ws, .str s] = [some (WL ws), some (.str s), none] from rfl]
  refine lc_pure (D := Dt.str) (q := Dt.str) (p := fun o => decide (o.length < s.length) && Txt.endswith s o) (allSt ws) (v_iE (c_all hg (v_var rfl)) rfl) (fun o ho => ⟨[some (WL ws), some (.str s), some (.str o)], rfl, ?_, fun _ => v_var rfl⟩) (Nat.le_trans (all_few hn) (Nat.le_trans (by decide) line_ge))
  have l1 := v_lenS (st := []) (all_line hn ho)
  have l2 := v_lenS (st := []) (all_line hn hs)
  have lt : eOp2 gLt (eN gLen (aCons (eVar 2) aNil)) (eN gLen (aCons (eVar 1) aNil)) [some (WL ws), some (.str s), some (.str o)] [] = some (.bl (decide (o.length < s.length)), []) := by
    refine v_op (v_N (v_one (v_var rfl)) l1) (v_N (v_one (v_var rfl)) l2) ?_
    show some (Dt.bl (decide ((o.length : Int) < (s.length : Int))), _) = _
    simp
  have en : eM isS gEnds (eVar 1) (aCons (eVar 2) aNil) [some (WL ws), some (.str s), some (.str o)] [] = some (.bl (Txt.endswith s o), []) := rfl
  cases hc : decide (o.length < s.length) with
  | true => rw [hc] at lt; exact t_andT (t_B lt) (t_B en)
  | false => rw [hc] at lt; exact t_andF (t_B lt)
theorem m2_of {ds : List Dt} {s : Str} {f : List Str → Dt} {d : Dt} (h : ((strs' ds).bind fun ws => if goodW ws = true ∧ s ∈ allSt ws then some (f ws) else none) = some d) : ∃ ws n, ds = ws.map .str ∧ Good ws n ∧ goodW ws = true ∧ s ∈ allSt ws ∧ d = f ws := by
  obtain ⟨ws, h1, h2⟩ := bind_some' h
  split at h2
  · rename_i hg
    cases h2
    obtain ⟨n, hn⟩ := good_of hg.1
    exact ⟨ws, n, strs_inv h1, hn, hg.1, hg.2, rfl⟩
  · cases h2
theorem m2_self {ws : List Str} {s : Str} {f : List Str → Dt} (hg : goodW ws = true) (hs : s ∈ allSt ws) : ((strs' (ws.map Dt.str)).bind fun ws => if goodW ws = true ∧ s ∈ allSt ws then some (f ws) else none) = some (f ws) := by
  rw [strs_self]
  exact if_pos ⟨hg, hs⟩
theorem leR_ends_in (ds : List Dt) (d : Dt) (h : m_ends_in ds = some d) : fR F_ends_in ds = some d := by
  unfold m_ends_in at h
  split at h
  · obtain ⟨ws, n, rfl, hn, hg, hs, rfl⟩ := m2_of h
    exact fR_lst (run_ends_in hg hn hs) rfl (noRefs_str _)
  · cases h
theorem c_state {ws : List Str} {s : Str} {f f2 : SE} {r : Evr} {st st1 st2 : Sto} (hg : goodW ws = true) (hs : s ∈ allSt ws) (h : f r st = some (.str s, st1)) (h2 : f2 r st1 = some (WL ws, st2)) : eN (gF 2 (liftV m_check_state)) (aCons f (aCons f2 aNil)) r st = some (.non, st2) := v_N (v_cons h (v_one h2)) (v_gF rfl (v_V (nr2 s ws) (m2_self hg hs)))
theorem run_ends {ws : List Str} {s : Str} (hg : goodW ws = true) (hs : s ∈ allSt ws) : F_ends [WL ws, .str s] [] = some (.ref 0, [some (WL (below ws s))]) := by
  refine b_rt ?_
  rw [show startD 2 [WL ws, .str s] = [some (WL ws), some (.str s)] from rfl]
  refine s_seq (s_ex (c_words hg (v_var rfl))) (s_seq (s_ex (c_state hg hs (v_var rfl) (v_var rfl))) (s_ret ?_))
  exact v_N (v_cons (v_var rfl) (v_one (v_var rfl))) (v_gF rfl (v_R (st := []) (nr3 s ws) (m2_self hg hs)))
theorem leV_ends (ds : List Dt) (d : Dt) (h : m_ends ds = some d) : fV F_ends ds = some d := by
  unfold m_ends m_ends_in at h
  split at h
  · obtain ⟨ws, n, rfl, hn, hg, hs, rfl⟩ := m2_of h
    exact fV_lst (run_ends hg hs) rfl (noRefs_str _)
  · cases h
theorem leR_ends (ds : List Dt) (d : Dt) (h : m_ends ds = some d) : fR F_ends ds = some d := by
  unfold m_ends m_ends_in at h
  split at h
  · obtain ⟨ws, n, rfl, hn, hg, hs, rfl⟩ := m2_of h
    exact fR_lst (run_ends hg hs) rfl (noRefs_str _)
  · cases h
end K01

set_option Elab.async false
set_option linter.all false
set_option maxRecDepth 100000
set_option maxHeartbeats 1000000
namespace K01
open PySem PySem.Spec PyProof.Rows L2 HB
theorem v_neg1 {r : Evr} {st : Sto} : eNeg (eC (.int 1)) r st = some (.int (-1), st) := rfl
theorem str_len (z : Str) : z.length = z.cps.toList.length := by simp [Str.length]
theorem cutS_m1 (z : Str) : cutS z none (some (-1)) = pre z (z.length - 1) := by
  unfold cutS pre
  rw [sIx0]
  have : HT.sIx z.length z.length (some (-1)) = z.length - 1 := by
    show (if (-1 : Int) < 0 then (-1 + (z.length : Int)).toNat else min (-1 : Int).toNat z.length) = _
    rw [if_pos (by decide)]
    omega
  rw [this, List.drop_zero, Nat.sub_zero]
theorem str_ne {z : Str} (h : z ≠ ("" : Str)) : z.cps.toList ≠ [] := fun e => h (by
  cases z with
  | mk c =>
    have : c = #[] := by simpa using e
    subst this
    rfl)
theorem at_m1 {z : Str} (h : z ≠ ("" : Str)) : atI z.cps.toList (-1) = some (z.cps.toList.getLastD 0) := by
  have hne := str_ne h
  have hl : 0 < z.cps.toList.length := List.length_pos_iff.mpr hne
  unfold atI ixN
  rw [if_neg (by decide), if_pos (by omega)]
  show z.cps.toList[(-1 + (z.cps.toList.length : Int)).toNat]? = _
  have : (-1 + (z.cps.toList.length : Int)).toNat = z.cps.toList.length - 1 := by omega
  rw [this, ← List.getLast?_eq_getElem?]
  rw [List.getLast?_eq_some_getLast hne]
  congr 1
  exact (List.getLastD_eq_getLast? ..).symm ▸ (by rw [List.getLast?_eq_some_getLast hne]; rfl)
theorem run_inner {ws : List Str} {n : Nat} (hn : Good ws n) {s : Str} (st : Sto) : lc (iE itL (eVar 1)) [3] (kName 3) (cAnd (cB (eOp2 gNe (eVar 3) (eC (.str "")))) (cB (eOp2 gEq (eSl (eVar 3) oNo (oE (eNeg (eC (.int 1))))) (eVar 2)))) (eOp2 gIx (eVar 3) (eNeg (eC (.int 1)))) [some (WL ws), some (WL (allSt ws)), some (.str s), none] st = some ((after ws s).map Dt.str, st) := by
  have e := lc_pure (r := [some (WL ws), some (WL (allSt ws)), some (.str s), none]) (st := st) (st1 := st) (fi := iE itL (eVar 1)) (own := [3]) (kt := kName 3) (c := cAnd (cB (eOp2 gNe (eVar 3) (eC (.str "")))) (cB (eOp2 gEq (eSl (eVar 3) oNo (oE (eNeg (eC (.int 1))))) (eVar 2)))) (f := eOp2 gIx (eVar 3) (eNeg (eC (.int 1))))
    (D := Dt.str) (q := fun o => .str (lastS o)) (p := fun (o : Str) => decide (o ≠ ("" : Str)) && decide (pre o (o.length - 1) = s)) (allSt ws) (v_iE (v_var rfl) rfl) (fun o ho => ⟨[some (WL ws), some (WL (allSt ws)), some (.str s), some (.str o)], rfl, ?_, fun hp => ?_⟩) (Nat.le_trans (all_few hn) (Nat.le_trans (by decide) line_ge))
  · rw [e]
    unfold after
    rw [List.map_map]
    rfl
  · have n1 : eOp2 gNe (eVar 3) (eC (.str "")) [some (WL ws), some (WL (allSt ws)), some (.str s), some (.str o)] st = some (.bl (decide (o ≠ ("" : Str))), st) := by
      refine v_op (v_var rfl) rfl ?_
      rw [v_neS]
      congr 3
      by_cases h : o = ("" : Str) <;> simp [h]
    have n2 : eOp2 gEq (eSl (eVar 3) oNo (oE (eNeg (eC (.int 1))))) (eVar 2) [some (WL ws), some (WL (allSt ws)), some (.str s), some (.str o)] st = some (.bl (decide (pre o (o.length - 1) = s)), st) :=
      v_op (v_sl (v_var rfl) rfl (v_oE v_neg1) (by rw [v_slS (all_line hn ho), cutS_m1])) (v_var rfl) v_eqS
    cases hc : decide (o ≠ ("" : Str)) with
    | true => rw [hc] at n1; exact t_andT (t_B n1) (t_B n2)
    | false => rw [hc] at n1; exact t_andF (t_B n1)
  · have ho' : o ≠ ("" : Str) := by
      simp only [Bool.and_eq_true, decide_eq_true_eq] at hp
      exact hp.1
    exact v_op (v_var rfl) v_neg1 (v_ixS (all_line hn ho) (at_m1 ho'))
/-- the rows so far -/
abbrev rows (ws l : List Str) : Sto := l.map fun s => some (WL (after ws s))
abbrev refsN (n : Nat) : List Dt := (List.range n).map Dt.ref
theorem put_new (k : Str) (d : Dt) (l : List Str) (h : k ∉ l) (es : List Dt) : pPut (Sum.inr k) d (l.map (Sum.inr : Str → Key)) es = ((l ++ [k]).map Sum.inr, es ++ [d]) := by
  unfold pPut
  rw [if_neg]
  · simp
  · intro z
    rw [List.any_eq_true] at z
    obtain ⟨y, hy, e⟩ := z
    obtain ⟨x, hx, rfl⟩ := List.mem_map.mp hy
    simp at e
    exact h (e ▸ hx)
theorem dc_loop {ws : List Str} {n : Nat} (hn : Good ws n) : ∀ (rest done : List Str), allSt ws = done ++ rest → dcGo (kName 2) cYes (eVar 2) (toR (lc (iE itL (eVar 1)) [3] (kName 3) (cAnd (cB (eOp2 gNe (eVar 3) (eC (.str "")))) (cB (eOp2 gEq (eSl (eVar 3) oNo (oE (eNeg (eC (.int 1))))) (eVar 2)))) (eOp2 gIx (eVar 3) (eNeg (eC (.int 1))))))
    [some (WL ws), some (WL (allSt ws)), none, none] (rest.map Dt.str) (rows ws done) (done.map Sum.inr) (refsN done.length) = some (((allSt ws).map Sum.inr, refsN (allSt ws).length), rows ws (allSt ws))
  | [], done, e => by
    rw [List.append_nil] at e
    rw [e]
    rfl
  | s :: rest, done, e => by
    have ih := dc_loop hn rest (done ++ [s]) (by rw [e]; simp)
    rw [List.map_cons]
    show (toR _ [some (WL ws), some (WL (allSt ws)), some (.str s), none] (rows ws done)).bind _ = _
    rw [v_toR (run_inner hn _)]
    have nd : s ∉ done := by
      have := all_nodup ws
      rw [e] at this
      intro hm
      exact (List.nodup_append.mp this).2.2 s hm s (by simp) rfl
    have hl : done.length < sizeLine := by
      have := all_few hn
      rw [e, List.length_append] at this
      have := line_ge
      omega
    show (if (done.map (Sum.inr : Str → Key)).length < sizeLine then dcGo (kName 2) cYes (eVar 2) _ _ (rest.map Dt.str) (rows ws done ++ [some (WL (after ws s))]) (pPut (Sum.inr s) (.ref (rows ws done).length) (done.map Sum.inr) (refsN done.length)).1 (pPut (Sum.inr s) (.ref (rows ws done).length) (done.map Sum.inr) (refsN done.length)).2 else none) = _
    rw [if_pos (by rw [List.length_map]; exact hl), put_new s _ done nd]
    have e1 : rows ws done ++ [some (WL (after ws s))] = rows ws (done ++ [s]) := by simp [rows]
    have e2 : refsN done.length ++ [.ref (rows ws done).length] = refsN (done ++ [s]).length := by simp [refsN, rows, List.range_succ]
    rw [e1, e2]
    exact ih
theorem run_letters {ws : List Str} {n : Nat} (hg : goodW ws = true) (hn : Good ws n) : F_letters_behind [WL ws] [] = some (.dic ((allSt ws).map Sum.inr) (refsN (allSt ws).length), rows ws (allSt ws)) := by
  refine b_rt ?_
  rw [show startD 4 [WL ws] = [some (WL ws), none, none, none] from rfl]
  refine s_seq (s_set (c_all hg (v_var rfl))) (s_ret ?_)
  unfold dToV dc
  rw [v_iE (xs := (allSt ws).map Dt.str) (st1 := []) (d := WL (allSt ws)) (v_var rfl) rfl]
  show (dcGo (kName 2) cYes (eVar 2) _ [some (WL ws), some (WL (allSt ws)), none, none] ((allSt ws).map Dt.str) (rows ws []) (([] : List Str).map Sum.inr) (refsN ([] : List Str).length)).bind _ = _
  rw [dc_loop hn (allSt ws) [] rfl]
  rfl
theorem pGet_ix : ∀ (l : List Str) (s : Str) (f : Nat → Dt), s ∈ l → ∃ j, l[j]? = some s ∧ pGet (Sum.inr s) (l.map (Sum.inr : Str → Key)) ((List.range l.length).map f) = some (f j)
  | [], _, _, h => by simp at h
  | x :: l, s, f, h => by
    rw [List.length_cons, List.range_succ_eq_map, List.map_cons, List.map_cons, List.map_map]
    by_cases e : x = s
    · subst e
      exact ⟨0, rfl, by simp [pGet]⟩
    · obtain ⟨j, h1, h2⟩ := pGet_ix l s (f ∘ Nat.succ) ((List.mem_cons.mp h).resolve_left fun z => e z.symm)
      refine ⟨j + 1, by simpa using h1, ?_⟩
      have : pGet (Sum.inr s) (Sum.inr x :: l.map (Sum.inr : Str → Key)) (f 0 :: (List.range l.length).map (f ∘ Nat.succ)) = pGet (Sum.inr s) (l.map (Sum.inr : Str → Key)) ((List.range l.length).map (f ∘ Nat.succ)) := by
        simp [pGet, e]
      rw [this, h2]
      rfl
theorem run_goes {ws : List Str} {s : Str} {n : Nat} (hg : goodW ws = true) (hn : Good ws n) (hs : s ∈ allSt ws) : ∃ j, F_goes_on [WL ws, .str s] [] = some (.ref j, rows ws (allSt ws)) ∧ (rows ws (allSt ws))[j]? = some (some (WL (after ws s))) := by
  obtain ⟨j, h1, h2⟩ := pGet_ix (allSt ws) s Dt.ref hs
  refine ⟨j, ?_, by rw [List.getElem?_map, h1]; rfl⟩
  refine b_rt ?_
  rw [show startD 2 [WL ws, .str s] = [some (WL ws), some (.str s)] from rfl]
  refine s_seq (s_ex (c_words hg (v_var rfl))) (s_seq (s_ex (c_state hg hs (v_var rfl) (v_var rfl))) (s_ret ?_))
  refine v_op (v_N (v_one (v_var rfl)) (v_gF rfl (run_letters hg hn))) (v_var rfl) ?_
  show ((keyD (.str s)).bind fun k => (pGet k ((allSt ws).map Sum.inr) (refsN (allSt ws).length)).map fun d => (d, _)) = _
  show ((pGet (Sum.inr s) ((allSt ws).map Sum.inr) (refsN (allSt ws).length)).map fun d => (d, _)) = _
  rw [h2]
  rfl
theorem leV_goes_on (ds : List Dt) (d : Dt) (h : m_goes_on ds = some d) : fV F_goes_on ds = some d := by
  unfold m_goes_on at h
  split at h
  · obtain ⟨ws, n, rfl, hn, hg, hs, rfl⟩ := m2_of h
    obtain ⟨j, h1, h2⟩ := run_goes hg hn hs
    exact fV_lst h1 h2 (noRefs_str _)
  · cases h
theorem leR_goes_on (ds : List Dt) (d : Dt) (h : m_goes_on ds = some d) : fR F_goes_on ds = some d := by
  unfold m_goes_on at h
  split at h
  · obtain ⟨ws, n, rfl, hn, hg, hs, rfl⟩ := m2_of h
    obtain ⟨j, h1, h2⟩ := run_goes hg hn hs
    exact fR_lst h1 h2 (noRefs_str _)
  · cases h
end K01

set_option Elab.async false
set_option linter.all false
set_option maxRecDepth 100000
set_option maxHeartbeats 1000000
namespace K01
open PySem PySem.Spec PyProof.Rows L2 HB
/-! ### orders -/
theorem keyLe_iff {a b : Str} : keyLe a b = true ↔ a.length < b.length ∨ (a.length = b.length ∧ strLe a b = true) := by
  unfold keyLe
  simp [Bool.or_eq_true, Bool.and_eq_true]
theorem keyLe_trans (a b c : Str) (h : keyLe a b = true) (h' : keyLe b c = true) : keyLe a c = true := by
  rw [keyLe_iff] at *
  rcases h with h | ⟨h, s⟩ <;> rcases h' with h' | ⟨h', s'⟩
  · left; omega
  · left; omega
  · left; omega
  · exact .inr ⟨by omega, strLe_trans a b c s s'⟩
theorem keyLe_total (a b : Str) : (keyLe a b || keyLe b a) = true := by
  rw [Bool.or_eq_true, keyLe_iff, keyLe_iff]
  rcases Nat.lt_trichotomy a.length b.length with h | h | h
  · exact .inl (.inl h)
  · have := strLe_total a b
    rw [Bool.or_eq_true] at this
    rcases this with t | t
    · exact .inl (.inr ⟨h, t⟩)
    · exact .inr (.inr ⟨h.symm, t⟩)
  · exact .inr (.inl h)
theorem keyLe_anti (a b : Str) (h : keyLe a b = true) (h' : keyLe b a = true) : a = b := by
  rw [keyLe_iff] at *
  rcases h with h | ⟨h, s⟩ <;> rcases h' with h' | ⟨h', s'⟩
  · omega
  · omega
  · omega
  · exact strLe_anti a b s s'
theorem all_sorted (ws : List Str) : (allSt ws).Pairwise fun a b => keyLe a b = true := List.pairwise_mergeSort keyLe_trans keyLe_total _
theorem perm_same {l m : List Str} (hl : l.Nodup) (hm : m.Nodup) (h : ∀ x, x ∈ l ↔ x ∈ m) : l.Perm m := (List.perm_ext_iff_of_nodup hl hm).mpr fun {x} => h x
theorem sorted_one {l m : List Str} (hl : l.Nodup) (hm : m.Nodup) (h : ∀ x, x ∈ l ↔ x ∈ m) (sl : l.Pairwise fun a b => keyLe a b = true) (sm : m.Pairwise fun a b => keyLe a b = true) : l = m :=
  List.Perm.eq_of_pairwise (le := fun a b => keyLe a b = true) (fun a b _ _ h1 h2 => keyLe_anti a b h1 h2) sl sm (perm_same hl hm h)
/-! ### the states, length by length -/
def blk (ws : List Str) (i : Nat) : List Str := sortS (setL (ws.map fun w => pre w i))
theorem blk_mem {ws : List Str} {i : Nat} {x : Str} : x ∈ blk ws i ↔ ∃ w ∈ ws, pre w i = x := by
  unfold blk
  rw [(sortS_perm _).mem_iff, setL_mem, List.mem_map]
theorem blk_nodup (ws : List Str) (i : Nat) : (blk ws i).Nodup := (sortS_perm _).nodup_iff.mpr (setL_nodup _)
theorem blk_len {ws : List Str} {n i : Nat} (hn : Good ws n) (hi : i ≤ n) {x : Str} (h : x ∈ blk ws i) : x.length = i := by
  obtain ⟨w, hw, rfl⟩ := blk_mem.mp h
  rw [pre_len, hn.len w hw]
  omega
theorem blk_few {ws : List Str} {n : Nat} (hn : Good ws n) (i : Nat) : (blk ws i).length ≤ 5 := by
  unfold blk
  have h := setL_len (ws.map fun w => pre w i)
  rw [List.length_map] at h
  rw [sortS_len]
  have := hn.l5
  omega
def lawSt (ws : List Str) (n : Nat) : List Str := (List.range (n + 1)).flatMap (blk ws)
theorem law_st {ws : List Str} {n : Nat} (hn : Good ws n) : lawSt ws n = allSt ws := by
  have mem : ∀ x, x ∈ lawSt ws n ↔ x ∈ allSt ws := fun x => by
    unfold lawSt
    rw [mem_all, mem_keys, List.mem_flatMap]
    constructor
    · rintro ⟨i, hi, h⟩
      obtain ⟨w, hw, rfl⟩ := blk_mem.mp h
      rw [List.mem_range] at hi
      exact ⟨w, hw, i, by rw [hn.len w hw]; omega, rfl⟩
    · rintro ⟨w, hw, i, hi, rfl⟩
      rw [hn.len w hw] at hi
      exact ⟨i, List.mem_range.mpr (by omega), blk_mem.mpr ⟨w, hw, rfl⟩⟩
  have lt : (List.range (n + 1)).Pairwise fun a b => ∀ x ∈ blk ws a, ∀ y ∈ blk ws b, x.length < y.length := by
    refine (List.pairwise_lt_range).imp_of_mem ?_
    intro a b ha hb hab x hx y hy
    rw [List.mem_range] at ha hb
    rw [blk_len hn (by omega) hx, blk_len hn (by omega) hy]
    exact hab
  refine sorted_one ?_ (all_nodup ws) mem ?_ (all_sorted ws)
  · unfold lawSt
    rw [List.Nodup, List.pairwise_flatMap]
    exact ⟨fun i _ => blk_nodup ws i, lt.imp fun h x hx y hy e => by have := h x hx y hy; rw [e] at this; omega⟩
  · unfold lawSt
    rw [List.pairwise_flatMap]
    refine ⟨fun i hi => ?_, lt.imp fun h x hx y hy => keyLe_iff.mpr (.inl (h x hx y hy))⟩
    rw [List.mem_range] at hi
    refine (sortS_sorted _).imp_of_mem ?_
    intro x y hx hy s
    exact keyLe_iff.mpr (.inr ⟨(blk_len hn (by omega) hx).trans (blk_len hn (by omega) hy).symm, s⟩)
theorem c_ss {f : SE} {r : Evr} {st st1 : Sto} {l : List Str} (h : f r st = some (.lst (l.map Dt.str), st1)) (hl : l.length ≤ 5) : eN gSS (aCons f aNil) r st = some (.lst ((sortS (setL l)).map Dt.str), st1) := by
  refine v_N (v_one h) ?_
  show ((strs' (l.map Dt.str)).bind fun ys => if ys.length + 1 < scanBound then _ else none) = _
  rw [strs_self]
  show (if l.length + 1 < scanBound then _ else none) = _
  rw [if_pos (by unfold scanBound; omega)]
theorem ls_loop {ws : List Str} {n : Nat} (hn : Good ws n) : ∀ (is : List Nat) (l : List Str) (c : Option Dt), l.length + 5 * is.length ≤ 1000000 → ∃ c', sForGo (kName 2) (sSet 1 (eOp2 gAdd (eVar 1) (eN gSS (aCons (toV (lc (iE itL (eVar 0)) [3] (kName 3) cYes (eSl (eVar 3) oNo (oE (eVar 2))))) aNil)))) (is.map fun i => Dt.int (0 + (i : Nat))) [some (WL ws), some (WL l), c, none] [] =
    some (.nx [some (WL ws), some (WL (l ++ is.flatMap (blk ws))), c', none] [])
  | [], l, c, _ => ⟨c, by rw [List.flatMap_nil, List.append_nil]; rfl⟩
  | i :: is, l, c, hl => by
    have hb := blk_few hn i
    rw [List.length_cons] at hl
    have hsz := line_ge
    obtain ⟨c', ih⟩ := ls_loop hn is (l ++ blk ws i) (some (.int (0 + (i : Nat)))) (by rw [List.length_append]; omega)
    refine ⟨c', ?_⟩
    rw [List.map_cons, List.flatMap_cons, ← List.append_assoc]
    refine for_cons (r1 := [some (WL ws), some (WL l), some (.int (0 + (i : Nat))), none]) (r2 := [some (WL ws), some (WL (l ++ blk ws i)), some (.int (0 + (i : Nat))), none]) (st1 := []) rfl ?_ ih
    have e : lc (iE itL (eVar 0)) [3] (kName 3) cYes (eSl (eVar 3) oNo (oE (eVar 2))) [some (WL ws), some (WL l), some (.int (0 + (i : Nat))), none] [] = some ((ws.map fun w => pre w i).map Dt.str, []) := by
      rw [List.map_map]
      refine lc_map (D := Dt.str) (q := Dt.str ∘ fun w => pre w i) ws (v_iE (v_var rfl) rfl) (fun w hw => ⟨[some (WL ws), some (WL l), some (.int (0 + (i : Nat))), some (.str w)], rfl, ?_⟩) (Nat.le_trans hn.l5 (Nat.le_trans (by decide) line_ge))
      exact v_sl (v_var rfl) rfl (v_oE (v_var rfl)) (by rw [v_slS (good_len hn hw), Int.zero_add, cutS_pre]; rfl)
    have s := s_set (i := 1) (r := [some (WL ws), some (WL l), some (.int (0 + (i : Nat))), none]) (st := []) (st1 := []) (d := WL (l ++ blk ws i)) (fa := eOp2 gAdd (eVar 1) (eN gSS (aCons (toV (lc (iE itL (eVar 0)) [3] (kName 3) cYes (eSl (eVar 3) oNo (oE (eVar 2))))) aNil)))
      (v_op (v_var rfl) (c_ss (v_toV e) (by rw [List.length_map]; exact hn.l5)) (by
        show (if (l.map Dt.str).length + ((blk ws i).map Dt.str).length ≤ sizeLine then some (Dt.lst (l.map Dt.str ++ (blk ws i).map Dt.str), _) else none) = _
        rw [if_pos (by rw [List.length_map, List.length_map]; omega), ← List.map_append]))
    exact s
theorem leV__law_states (ds : List Dt) (d : Dt) (h : m__law_states ds = some d) : fV F__law_states ds = some d := by
  unfold m__law_states m_all_states at h
  split at h
  · obtain ⟨ws, n, rfl, hn, _, rfl⟩ := w1_of h
    have h7 := hn.n7
    obtain ⟨w0, ws', ew⟩ : ∃ w0 ws', ws = w0 :: ws' := by
      have := hn.l1
      cases ws with
      | nil => simp at this
      | cons x y => exact ⟨x, y, rfl⟩
    have h0 := hn.len w0 (by rw [ew]; simp)
    obtain ⟨c', e⟩ := ls_loop hn (List.range (n + 1)) [] none (by rw [List.length_range, List.length_nil]; omega)
    have e2 : g__law_states (startD 4 [WL ws]) [] = some (.rt (WL (lawSt ws n)) []) := by
      unfold g__law_states
      rw [show startD 4 [WL ws] = [some (WL ws), none, none, none] from rfl]
      refine s_seq (r1 := [some (WL ws), some (WL []), none, none]) (st1 := []) rfl (s_seq (s_for (v_rg (n := n + 1) (v_one (v_op (v_N (v_one (v_op (v_var rfl) rfl (v_ixL (d := .str w0) (by rw [ew]; exact atI_zero _ _)))) (v_lenS (good_len hn (by rw [ew]; simp)))) rfl (by rw [h0]; rfl))) (by omega)) e) (s_ret (v_var rfl)))
    rw [law_st hn] at e2
    exact fV_of (b_rt e2) (deref_no (noRef_lstS _))
  · cases h
end K01

set_option Elab.async false
set_option linter.all false
set_option maxRecDepth 100000
set_option maxHeartbeats 1000000
namespace K01
open PySem PySem.Spec PyProof.Rows L2 HB
theorem pre_toList (w : Str) (n : Nat) : (pre w n).cps.toList = w.cps.toList.take n := by unfold pre; simp
theorem pre_pre (w : Str) (k j : Nat) (h : j ≤ k) : pre (pre w k) j = pre w j := by
  refine str_ext ?_
  rw [pre_toList, pre_toList, pre_toList, List.take_take, Nat.min_eq_left h]
theorem pre_full {w : Str} {n : Nat} (h : w.length ≤ n) : pre w n = w := by
  refine str_ext ?_
  rw [pre_toList, List.take_of_length_le (by rw [← str_len]; exact h)]
theorem nonempty_iff {o : Str} : o ≠ ("" : Str) ↔ 1 ≤ o.length := by
  constructor
  · intro h
    have := List.length_pos_iff.mpr (str_ne h)
    rw [str_len]; omega
  · intro h e
    rw [e] at h
    exact absurd h (by decide)
def lawT (ws : List Str) (s : Str) : List Str := sortS (setL ((ws.filter fun w => decide (pre w s.length = s) && decide (s.length < w.length)).map fun w => pre w (s.length + 1)))
theorem lawT_mem {ws : List Str} {s o : Str} : o ∈ lawT ws s ↔ ∃ w ∈ ws, pre w s.length = s ∧ s.length < w.length ∧ o = pre w (s.length + 1) := by
  unfold lawT
  rw [(sortS_perm _).mem_iff, setL_mem, List.mem_map]
  constructor
  · rintro ⟨w, hw, rfl⟩
    rw [List.mem_filter, Bool.and_eq_true, decide_eq_true_eq, decide_eq_true_eq] at hw
    exact ⟨w, hw.1, hw.2.1, hw.2.2, rfl⟩
  · rintro ⟨w, hw, h1, h2, rfl⟩
    exact ⟨w, List.mem_filter.mpr ⟨hw, by rw [Bool.and_eq_true, decide_eq_true_eq, decide_eq_true_eq]; exact ⟨h1, h2⟩⟩, rfl⟩
theorem lawT_len {ws : List Str} {s o : Str} (h : o ∈ lawT ws s) : o.length = s.length + 1 := by
  obtain ⟨w, hw, h1, h2, rfl⟩ := lawT_mem.mp h
  rw [pre_len]; omega
theorem lawT_eq {ws : List Str} {n : Nat} (hn : Good ws n) (s : Str) : lawT ws s = (allSt ws).filter fun (o : Str) => decide (o ≠ ("" : Str)) && decide (pre o (o.length - 1) = s) := by
  refine sorted_one ((sortS_perm _).nodup_iff.mpr (setL_nodup _)) ((all_nodup ws).filter _) (fun x => ?_) ?_ ((all_sorted ws).filter _)
  · rw [List.mem_filter, Bool.and_eq_true, decide_eq_true_eq, decide_eq_true_eq, nonempty_iff, lawT_mem, mem_all, mem_keys]
    constructor
    · rintro ⟨w, hw, h1, h2, rfl⟩
      have hl : (pre w (s.length + 1)).length = s.length + 1 := by rw [pre_len]; omega
      refine ⟨⟨w, hw, s.length + 1, by omega, rfl⟩, by omega, ?_⟩
      rw [hl, pre_pre w _ _ (by omega)]
      exact h1
    · rintro ⟨⟨w, hw, k, hk, rfl⟩, h1, h2⟩
      have hl : (pre w k).length = k := by rw [pre_len]; omega
      rw [hl] at h1 h2
      rw [pre_pre w _ _ (by omega)] at h2
      have hs : s.length = k - 1 := by rw [← h2, pre_len]; omega
      refine ⟨w, hw, ?_, by omega, ?_⟩
      · rw [hs]; exact h2
      · rw [hs]
        congr 1
        omega
  · refine (sortS_sorted _).imp_of_mem ?_
    intro x y hx hy h
    exact keyLe_iff.mpr (.inr ⟨(lawT_len hx).trans (lawT_len hy).symm, h⟩)
theorem run_behind {ws : List Str} {s : Str} {n : Nat} (hn : Good ws n) (hs : s ∈ allSt ws) : F__law_behind [WL ws, .str s] [] = some (.ref 0, [some (WL (after ws s))]) := by
  have ls := all_line hn hs
  have hsz := line_ge
  have lw : ws.length ≤ sizeLine := Nat.le_trans hn.l5 (Nat.le_trans (by decide) line_ge)
  refine b_rt ?_
  rw [show startD 5 [WL ws, .str s] = [some (WL ws), some (.str s), none, none, none] from rfl]
  have e : lc (iE itL (eVar 0)) [4] (kName 4) (cAnd (cB (eOp2 gEq (eSl (eVar 4) oNo (oE (eN gLen (aCons (eVar 1) aNil)))) (eVar 1))) (cB (eOp2 gGt (eN gLen (aCons (eVar 4) aNil)) (eN gLen (aCons (eVar 1) aNil))))) (eSl (eVar 4) oNo (oE (eOp2 gAdd (eN gLen (aCons (eVar 1) aNil)) (eC (.int 1))))) [some (WL ws), some (.str s), none, none, none] [] =
      some (((ws.filter fun w => decide (pre w s.length = s) && decide (s.length < w.length)).map fun w => pre w (s.length + 1)).map Dt.str, []) := by
    rw [List.map_map]
    refine lc_pure (D := Dt.str) (p := fun w => decide (pre w s.length = s) && decide (s.length < w.length)) (q := Dt.str ∘ fun w => pre w (s.length + 1)) ws (v_iE (v_var rfl) rfl) (fun w hw => ⟨[some (WL ws), some (.str s), none, none, some (.str w)], rfl, ?_, fun _ => ?_⟩) lw
    · have n1 : eOp2 gEq (eSl (eVar 4) oNo (oE (eN gLen (aCons (eVar 1) aNil)))) (eVar 1) [some (WL ws), some (.str s), none, none, some (.str w)] [] = some (.bl (decide (pre w s.length = s)), []) :=
        v_op (v_sl (v_var rfl) rfl (v_oE (v_N (v_one (v_var rfl)) (v_lenS ls))) (by rw [v_slS (good_len hn hw), cutS_pre])) (v_var rfl) v_eqS
      have n2 : eOp2 gGt (eN gLen (aCons (eVar 4) aNil)) (eN gLen (aCons (eVar 1) aNil)) [some (WL ws), some (.str s), none, none, some (.str w)] [] = some (.bl (decide (s.length < w.length)), []) := by
        refine v_op (v_N (v_one (v_var rfl)) (v_lenS (good_len hn hw))) (v_N (v_one (v_var rfl)) (v_lenS ls)) ?_
        show some (Dt.bl (decide ((s.length : Int) < (w.length : Int))), _) = _
        simp
      cases hc : decide (pre w s.length = s) with
      | true => rw [hc] at n1; exact t_andT (t_B n1) (t_B n2)
      | false => rw [hc] at n1; exact t_andF (t_B n1)
    · exact v_sl (v_var rfl) rfl (v_oE (i := ((s.length + 1 : Nat) : Int)) (v_op (v_N (v_one (v_var rfl)) (v_lenS ls)) rfl rfl)) (by rw [v_slS (good_len hn hw), cutS_pre]; rfl)
  have hfew : (((ws.filter fun w => decide (pre w s.length = s) && decide (s.length < w.length)).map fun w => pre w (s.length + 1))).length ≤ 5 := by
    rw [List.length_map]
    exact Nat.le_trans (List.length_filter_le _ _) hn.l5
  refine s_seq (s_set (c_ss (v_toV e) hfew)) (s_ret (v_toR0 ?_))
  have e2 := lc_map (r := [some (WL ws), some (.str s), some (WL (lawT ws s)), none, none]) (st := []) (st1 := []) (fi := iE itL (eVar 2)) (own := [3]) (kt := kName 3) (f := eOp2 gIx (eVar 3) (eNeg (eC (.int 1)))) (D := Dt.str) (q := fun o => .str (lastS o)) (lawT ws s) (v_iE (v_var rfl) rfl)
    (fun o ho => ⟨[some (WL ws), some (.str s), some (WL (lawT ws s)), some (.str o), none], rfl, v_op (v_var rfl) v_neg1 (v_ixS (by rw [lawT_len ho]; have := all_len7 hn hs; omega) (at_m1 (nonempty_iff.mpr (by rw [lawT_len ho]; omega))))⟩) (by
      rw [lawT_eq hn]
      exact Nat.le_trans (List.length_filter_le _ _) (Nat.le_trans (all_few hn) (Nat.le_trans (by decide) line_ge)))
  have e3 : (lawT ws s).map (fun o => Dt.str (lastS o)) = (after ws s).map Dt.str := by
    unfold after
    rw [lawT_eq hn, List.map_map]
    rfl
  rw [e3] at e2
  exact e2
theorem leV__law_behind (ds : List Dt) (d : Dt) (h : m__law_behind ds = some d) : fV F__law_behind ds = some d := by
  unfold m__law_behind m_goes_on at h
  split at h
  · obtain ⟨ws, n, rfl, hn, hg, hs, rfl⟩ := m2_of h
    exact fV_lst (run_behind hn hs) rfl (noRefs_str _)
  · cases h
end K01

set_option Elab.async false
set_option linter.all false
set_option maxRecDepth 100000
set_option maxHeartbeats 1000000
namespace K01
open PySem PySem.Spec PyProof.Rows L2 HB
/-! ### short plain texts -/
def Sm (x : Str) : Prop := x.length ≤ 7 ∧ ∀ c ∈ x.cps.toList, c < 128
theorem letB_lt {c : Nat} (h : letB ⟨#[c]⟩ = true) : c < 128 := by
  unfold letB at h
  rw [Bool.and_eq_true] at h
  have h2 := h.2
  rw [Bool.not_eq_true', decide_eq_false_iff_not] at h2
  have e : ("~" : Str).cps.toList = [126] := by decide +kernel
  rw [e] at h2
  by_cases hc : c < 128
  · exact hc
  · exfalso
    apply h2
    show [126] < [c]
    exact List.Lex.rel (by omega)
theorem sm_word {ws : List Str} {n : Nat} (hn : Good ws n) {w : Str} (hw : w ∈ ws) : Sm w := ⟨by rw [hn.len w hw]; exact hn.n7, fun c hc => letB_lt (hn.let_ w hw c hc)⟩
theorem sm_pre {w : Str} (h : Sm w) (k : Nat) : Sm (pre w k) := ⟨by rw [pre_len]; have := h.1; omega, fun c hc => h.2 c (by rw [pre_toList] at hc; exact List.mem_of_mem_take hc)⟩
theorem sm_all {ws : List Str} {n : Nat} (hn : Good ws n) {x : Str} (h : x ∈ allSt ws) : Sm x := by
  obtain ⟨w, hw, k, hk, rfl⟩ := mem_keys.mp (mem_all.mp h)
  exact sm_pre (sm_word hn hw) k
theorem sm_last {z : Str} (h : Sm z) : Sm (lastS z) := by
  refine ⟨by unfold lastS; simp [Str.length], fun c hc => ?_⟩
  have e : c = z.cps.toList.getLastD 0 := List.mem_singleton.mp hc
  have m : z.cps.toList.getLastD 0 ∈ 0 :: z.cps.toList := List.getLastD_mem_cons
  rw [← e] at m
  rcases List.mem_cons.mp m with m | m
  · rw [m]; decide
  · exact h.2 c m
theorem sm_after {ws : List Str} {n : Nat} (hn : Good ws n) {s x : Str} (h : x ∈ after ws s) : Sm x := by
  unfold after at h
  obtain ⟨o, ho, rfl⟩ := List.mem_map.mp h
  exact sm_last (sm_all hn (List.mem_filter.mp ho).1)
theorem sm_below {ws : List Str} {n : Nat} (hn : Good ws n) {s x : Str} (h : x ∈ below ws s) : Sm x := sm_all hn (List.mem_filter.mp h).1
/-! ### shown -/
theorem text_up : ∀ (ts : List Str) (k : Nat) (acc : Str), (textFrom k acc ts).length ≤ acc.length + piled ts
  | [], k, acc => by show acc.length ≤ _; rw [piled_nil]; omega
  | t :: r, k, acc => by
    have h := text_up r (k + 1) (acc ++ (if k > 0 then ", " else "" : String) ++ t)
    rw [app_len, app_len] at h
    have e : ((if k > 0 then ", " else "" : String) : Str).length ≤ 2 := by
      split
      · decide
      · decide
    rw [piled_cons]
    show (textFrom (k + 1) _ r).length ≤ _
    omega
theorem list_up (ts : List Str) : (listText ts).length ≤ piled ts + 2 := by
  have h := text_up ts 0 "["
  unfold listText
  rw [app_len]
  have e1 : ("[" : Str).length = 1 := by decide +kernel
  have e2 : ("]" : Str).length = 1 := by decide +kernel
  rw [e1] at h
  rw [e2]
  omega
theorem rep_sm {x : Str} (h : Sm x) : (repT (.str x)).length ≤ 72 := by
  have := StrLaws.reprText_len x fun c hc => Nat.lt_of_lt_of_le (h.2 c hc) (by decide)
  have h7 := h.1
  show (reprText x).length ≤ 72
  omega
theorem piled_sm : ∀ l : List Str, (∀ x ∈ l, Sm x) → piled (repTs (l.map Dt.str)) ≤ 74 * l.length
  | [], _ => by decide
  | x :: l, h => by
    have ih := piled_sm l fun y hy => h y (by simp [hy])
    have hx := rep_sm (h x (by simp))
    rw [List.map_cons]
    show piled (repT (.str x) :: repTs (l.map Dt.str)) ≤ _
    rw [piled_cons, List.length_cons]
    omega
theorem rep_lst {l : List Str} (h : ∀ x ∈ l, Sm x) (hl : l.length ≤ 40) : (repT (WL l)).length ≤ 3000 := by
  have h1 := piled_sm l h
  have h2 := list_up (repTs (l.map Dt.str))
  show (listText (repTs (l.map Dt.str))).length ≤ 3000
  omega
theorem repOks_str : ∀ l : List Str, repOks (l.map Dt.str) = true
  | [] => by unfold repOks; rfl
  | x :: l => by
    rw [List.map_cons]
    unfold repOks
    rw [repOks_str l]
    unfold repOk
    rfl
theorem depDs_str : ∀ l : List Str, depDs (l.map Dt.str) = 0
  | [] => by unfold depDs; rfl
  | x :: l => by
    rw [List.map_cons]
    unfold depDs
    rw [depDs_str l]
    unfold depD
    rfl
/-- a list that may be shown -/
structure Fine (l : List Str) : Prop where
  sm : ∀ x ∈ l, Sm x
  few : l.length ≤ 40
theorem v_rep1 {st : Sto} {d : Dt} {l : List Str} (hd : deref st 8 d = some (WL l)) (h : Fine l) : gRep st [d] = some (.str (repT (WL l)), st) := by
  have hs := line_ge
  have := rep_lst h.sm h.few
  show ((deref st 8 d).bind fun d => if noRef d = true ∧ repOk d = true ∧ depD d ≤ 32 ∧ (repT d).length ≤ sizeLine then some (Dt.str (repT d), st) else none) = _
  rw [hd]
  refine if_pos ⟨noRef_lstS l, by unfold repOk; exact repOks_str l, by unfold depD; rw [depDs_str]; decide, by omega⟩
def LL (ls : List (List Str)) : Dt := .lst (ls.map WL)
theorem LL_ok : ∀ ls : List (List Str), (∀ l ∈ ls, Fine l) → noRefs (ls.map WL) = true ∧ repOks (ls.map WL) = true ∧ depDs (ls.map WL) ≤ 1 ∧ piled (repTs (ls.map WL)) ≤ 3002 * ls.length
  | [], _ => ⟨by unfold noRefs; rfl, by unfold repOks; rfl, by unfold depDs; decide, by decide⟩
  | l :: ls, h => by
    obtain ⟨h1, h2, h3, h4⟩ := LL_ok ls fun m hm => h m (by simp [hm])
    have hl := h l (by simp)
    have := rep_lst hl.sm hl.few
    rw [List.map_cons]
    refine ⟨?_, ?_, ?_, ?_⟩
    · unfold noRefs; rw [noRef_lstS, h1]; rfl
    · unfold repOks; rw [h2]; unfold repOk; rw [repOks_str]; rfl
    · unfold depDs; unfold depD; rw [depDs_str]; omega
    · show piled (repT (WL l) :: repTs (ls.map WL)) ≤ _
      rw [piled_cons, List.length_cons]
      omega
theorem v_rep2 {st : Sto} {d : Dt} {ls : List (List Str)} (hd : deref st 8 d = some (LL ls)) (h : ∀ l ∈ ls, Fine l) (hl : ls.length ≤ 4) : gRep st [d] = some (.str (repT (LL ls)), st) := by
  have hs := line_ge
  obtain ⟨h1, h2, h3, h4⟩ := LL_ok ls h
  have hu := list_up (repTs (ls.map WL))
  have he : (repT (LL ls)).length ≤ sizeLine := by
    show (listText (repTs (ls.map WL))).length ≤ sizeLine
    omega
  show ((deref st 8 d).bind fun d => if noRef d = true ∧ repOk d = true ∧ depD d ≤ 32 ∧ (repT d).length ≤ sizeLine then some (Dt.str (repT d), st) else none) = _
  rw [hd]
  refine if_pos ⟨by unfold LL noRef; exact h1, by unfold LL repOk; exact h2, by unfold LL depD; omega, he⟩
/-! ### endswith -/
theorem ends_cut {s o : Str} (h : o.length < s.length) : Txt.endswith s o = decide (cutS s (some ((s.length : Int) - (o.length : Int))) none = o) := by
  have e1 : HT.sIx s.length 0 (some ((s.length : Int) - (o.length : Int))) = s.length - o.length := by
    show (if (s.length : Int) - (o.length : Int) < 0 then _ else min ((s.length : Int) - (o.length : Int)).toNat s.length) = _
    rw [if_neg (by omega)]
    omega
  have e2 : (cutS s (some ((s.length : Int) - (o.length : Int))) none).cps.toList = s.cps.toList.drop (s.length - o.length) := by
    unfold cutS
    rw [e1, sIx0]
    simp only [List.toList_toArray]
    rw [List.take_of_length_le]
    rw [List.length_drop, ← str_len]
    omega
  unfold Txt.endswith
  rw [StrLaws.subAt_eq, decide_eq_true (show 0 + o.length ≤ s.length by omega), Bool.true_and]
  have e3 : (s.cps.toList.drop (s.length - o.length)).take o.length = s.cps.toList.drop (s.length - o.length) := by
    rw [List.take_of_length_le]
    rw [List.length_drop, ← str_len]
    omega
  rw [e3, ← e2]
  by_cases hc : cutS s (some ((s.length : Int) - (o.length : Int))) none = o
  · rw [decide_eq_true hc, hc]
    simp
  · rw [decide_eq_false hc, beq_eq_false_iff_ne]
    exact fun z => hc (str_ext z)
/-! ### words go on by none -/
theorem after_nil {ws : List Str} {n : Nat} (hn : Good ws n) {s : Str} (hs : s ∈ allSt ws) : after ws s = [] ↔ s ∈ ws := by
  unfold after
  rw [List.map_eq_nil_iff, List.filter_eq_nil_iff]
  obtain ⟨w, hw, k, hk, e⟩ := mem_keys.mp (mem_all.mp hs)
  have hl := hn.len w hw
  constructor
  · intro h
    by_cases hkn : k = n
    · rw [e, hkn, pre_full (by omega)]; exact hw
    · exfalso
      refine h (pre w (k + 1)) (mem_all.mpr (mem_keys.mpr ⟨w, hw, k + 1, by omega, rfl⟩)) ?_
      have hp : (pre w (k + 1)).length = k + 1 := by rw [pre_len]; omega
      rw [Bool.and_eq_true, decide_eq_true_eq, decide_eq_true_eq, nonempty_iff, hp, pre_pre w _ _ (by omega)]
      exact ⟨by omega, by rw [e]; congr 1⟩
  · intro h o ho hp
    rw [Bool.and_eq_true, decide_eq_true_eq, decide_eq_true_eq, nonempty_iff] at hp
    obtain ⟨v, hv, j, hj, rfl⟩ := mem_keys.mp (mem_all.mp ho)
    have hlv := hn.len v hv
    have hls := hn.len s h
    have hp2 := pre_len v j
    have : (pre (pre v j) ((pre v j).length - 1)).length = s.length := by rw [hp.2]
    rw [pre_len] at this
    omega
theorem shaped_str : ∀ l : List Str, (∀ x ∈ l, Sm x) → PyData.canLayAll0 (l.map PyData.str) = true
  | [], _ => by unfold PyData.canLayAll0; rfl
  | x :: l, h => by
    rw [List.map_cons]
    unfold PyData.canLayAll0
    rw [shaped_str l fun y hy => h y (by simp [hy]), Bool.and_true]
    unfold PyData.canLay0
    have := (h x (by simp)).2
    unfold PyData.strOk
    rw [← Array.all_toList, List.all_eq_true]
    intro c hc
    exact decide_eq_true (Nat.lt_trans (this c hc) (by decide))
theorem depth_str : ∀ l : List Str, PyData.depthAll (l.map PyData.str) = 0
  | [] => by unfold PyData.depthAll; rfl
  | x :: l => by
    rw [List.map_cons]
    unfold PyData.depthAll
    rw [depth_str l]
    unfold PyData.depth
    rfl
theorem mapM_str (st : Sto) (n : Nat) : ∀ l : List Str, (l.map Dt.str).mapM (py st (n + 1)) = some (l.map PyData.str)
  | [] => rfl
  | x :: l => by
    rw [List.map_cons, List.mapM_cons, mapM_str st n l]
    rfl
theorem eqv_str : ∀ l m : List Str, PyData.eqvAll (l.map PyData.str) (m.map PyData.str) = decide (l = m)
  | [], [] => by unfold PyData.eqvAll; rfl
  | [], _ :: _ => by rw [List.map_cons, List.map_nil]; unfold PyData.eqvAll; rfl
  | _ :: _, [] => by rw [List.map_cons, List.map_nil]; unfold PyData.eqvAll; rfl
  | x :: l, y :: m => by
    rw [List.map_cons, List.map_cons]
    unfold PyData.eqvAll
    rw [eqv_str l m]
    unfold PyData.eqv
    by_cases h1 : x = y
    · subst h1
      by_cases h2 : l = m
      · subst h2; simp
      · simp [h2]
    · have : (x == y) = false := by simpa using h1
      rw [this]
      simp [h1]
theorem v_eqL {st : Sto} {l m : List Str} (hl : ∀ x ∈ l, Sm x) (hm : ∀ x ∈ m, Sm x) : eqD st (WL l) (WL m) = some (decide (l = m)) := by
  have p : ∀ k : List Str, py st 8 (WL k) = some (.list (k.map PyData.str)) := fun k => by
    show ((k.map Dt.str).mapM (py st 7)).map _ = _
    rw [mapM_str st 6 k]
    rfl
  have sh : ∀ k : List Str, (∀ x ∈ k, Sm x) → SeqAt.shaped (.list (k.map PyData.str)) = true := fun k hk => by
    unfold SeqAt.shaped
    rw [Bool.and_eq_true, decide_eq_true_eq]
    refine ⟨by unfold PyData.canLay0; exact shaped_str k hk, by unfold PyData.depth; rw [depth_str]; decide⟩
  show ((py st 8 (WL l)).bind fun a => (py st 8 (WL m)).bind fun b => if (SeqAt.shaped a && SeqAt.shaped b) = true then some (PyData.eqv a b) else none) = _
  rw [p l, p m]
  show (if (SeqAt.shaped _ && SeqAt.shaped _) = true then some (PyData.eqv _ _) else none) = _
  rw [if_pos (by rw [sh l hl, sh m hm]; rfl)]
  unfold PyData.eqv
  rw [eqv_str]
end K01

set_option Elab.async false
set_option linter.all false
set_option maxRecDepth 100000
set_option maxHeartbeats 1000000
namespace K01
open PySem PySem.Spec PyProof.Rows L2 HB
theorem deref4 {st : Sto} {a b c d : Nat} {A B C D : Dt} (h1 : st[a]? = some (some A)) (h2 : st[b]? = some (some B)) (h3 : st[c]? = some (some C)) (h4 : st[d]? = some (some D)) (n1 : noRef A = true) (n2 : noRef B = true) (n3 : noRef C = true) (n4 : noRef D = true) : deref st 8 (.lst [.ref a, .ref b, .ref c, .ref d]) = some (.lst [A, B, C, D]) := by
  unfold deref
  rw [if_neg (by unfold noRef noRefs noRef; simp)]
  show (derefs st 7 [.ref a, .ref b, .ref c, .ref d]).map _ = _
  unfold derefs
  rw [deref_ref (n := 5) h1 n1]
  show ((derefs st 6 [.ref b, .ref c, .ref d]).map _).map _ = _
  unfold derefs
  rw [deref_ref (n := 4) h2 n2]
  show (((derefs st 5 [.ref c, .ref d]).map _).map _).map _ = _
  unfold derefs
  rw [deref_ref (n := 3) h3 n3]
  show ((((derefs st 4 [.ref d]).map _).map _).map _).map _ = _
  unfold derefs
  rw [deref_ref (n := 2) h4 n4]
  show (((((derefs st 3 []).map _).map _).map _).map _).map _ = _
  unfold derefs
  rfl
theorem deref2 {st : Sto} {a b : Nat} {A B : Dt} (h1 : st[a]? = some (some A)) (h2 : st[b]? = some (some B)) (n1 : noRef A = true) (n2 : noRef B = true) : deref st 8 (.lst [.ref a, .ref b]) = some (.lst [A, B]) := by
  unfold deref
  rw [if_neg (by unfold noRef noRefs noRef; simp)]
  show (derefs st 7 [.ref a, .ref b]).map _ = _
  unfold derefs
  rw [deref_ref (n := 5) h1 n1]
  show ((derefs st 6 [.ref b]).map _).map _ = _
  unfold derefs
  rw [deref_ref (n := 4) h2 n2]
  show (((derefs st 5 []).map _).map _).map _ = _
  unfold derefs
  rfl
theorem get_at (st l : Sto) (i : Nat) : (st ++ l)[st.length + i]? = l[i]? := by
  rw [List.getElem?_append_right (by omega)]
  congr 1
  omega
theorem c_R {m : List Dt → Option Dt} {ds : List Dt} {d : Dt} (st p : Sto) (hn : noRefs ds = true) (h : m ds = some d) : liftR m ds (st ++ p) = some (.ref (st.length + p.length), st ++ (p ++ [some d])) := by
  rw [v_R hn h, List.length_append, List.append_assoc]
theorem v_app {fo : SE} {r : Evr} {st st1 : Sto} {k : Nat} {es : List Dt} (h : fo r st = some (.ref k, st1)) (hk : st1[k]? = some (some (.lst es))) (hz : es.length < sizeLine) : eM isL gApp fo (aCons (eC .non) aNil) r st = some (.non, st1.set k (some (.lst (es ++ [.non])))) := by
  unfold eM
  rw [h]
  show (if isL st1 (.ref k) = true then _ else none) = _
  have e : asL st1 (.ref k) = some es := by
    show (match st1[k]? with
      | some (some (.lst ds)) => some ds
      | _ => none) = _
    rw [hk]
  rw [if_pos (by unfold isL; rw [e]; rfl)]
  show gApp st1 (.ref k) [.non] = _
  show (match st1[k]? with
    | some (some (.lst ds)) => if ds.length < sizeLine then some (Dt.non, st1.set k (some (.lst (ds ++ [Dt.non])))) else none
    | _ => none) = _
  rw [hk]
  exact if_pos hz
theorem v_k1 {F : List Dt → Sto → Option (Dt × Sto)} {st : Sto} {a : Dt} {q : Dt × Sto} (h : F [a] st = some q) : gFk 1 [0] F st [a] = some q := h
theorem v_k2 {F : List Dt → Sto → Option (Dt × Sto)} {st : Sto} {a b : Dt} {q : Dt × Sto} (h : F [a, b] st = some q) : gFk 2 [1, 0] F st [b, a] = some q := h
theorem v_eqF {st : Sto} {x y : Str} (h : x = y) : gNe st (.str x) (.str y) = some (.bl false, st) := by rw [v_neS, decide_eq_true h]; rfl
theorem v_eqT {st : Sto} {x y : Str} (h : x = y) : gEq st (.str x) (.str y) = some (.bl true, st) := by rw [v_eqS, decide_eq_true h]
section
variable {ws : List Str} {n : Nat}
theorem fine_all (hn : Good ws n) : Fine (allSt ws) := ⟨fun x hx => sm_all hn hx, all_few hn⟩
theorem fine_ws (hn : Good ws n) : Fine ws := ⟨fun x hx => sm_word hn hx, by have := hn.l5; omega⟩
theorem fine_after (hn : Good ws n) (s : Str) : Fine (after ws s) := ⟨fun x hx => sm_after hn hx, by
  unfold after
  rw [List.length_map]
  exact Nat.le_trans (List.length_filter_le _ _) (all_few hn)⟩
theorem fine_below (hn : Good ws n) (s : Str) : Fine (below ws s) := ⟨fun x hx => sm_below hn hx, Nat.le_trans (List.length_filter_le _ _) (all_few hn)⟩
theorem law_below (hn : Good ws n) {s : Str} (hs : s ∈ allSt ws) {k t y5 y6 y7 : Option Dt} (st : Sto) : lc (iE itL (eVar 2)) [8] (kName 8) (cAnd (cB (eOp2 gLt (eN gLen (aCons (eVar 8) aNil)) (eN gLen (aCons (eVar 4) aNil)))) (cB (eOp2 gEq (eSl (eVar 4) (oE (eOp2 gMin (eN gLen (aCons (eVar 4) aNil)) (eN gLen (aCons (eVar 8) aNil)))) oNo) (eVar 8)))) (eVar 8)
    [some (WL ws), k, some (WL (allSt ws)), t, some (.str s), y5, y6, y7, none] st = some ((below ws s).map Dt.str, st) := by
  have e := lc_pure (r := [some (WL ws), k, some (WL (allSt ws)), t, some (.str s), y5, y6, y7, none]) (st := st) (st1 := st) (fi := iE itL (eVar 2)) (own := [8]) (kt := kName 8) (c := cAnd (cB (eOp2 gLt (eN gLen (aCons (eVar 8) aNil)) (eN gLen (aCons (eVar 4) aNil)))) (cB (eOp2 gEq (eSl (eVar 4) (oE (eOp2 gMin (eN gLen (aCons (eVar 4) aNil)) (eN gLen (aCons (eVar 8) aNil)))) oNo) (eVar 8)))) (f := eVar 8)
    (D := Dt.str) (q := Dt.str) (p := fun (o : Str) => decide (o.length < s.length) && Txt.endswith s o) (allSt ws) (v_iE (v_var rfl) rfl) (fun o ho => ⟨[some (WL ws), k, some (WL (allSt ws)), t, some (.str s), y5, y6, y7, some (.str o)], rfl, ?_, fun _ => v_var rfl⟩) (Nat.le_trans (all_few hn) (Nat.le_trans (by decide) line_ge))
  · exact e
  · have l1 := v_lenS (st := st) (all_line hn ho)
    have l2 := v_lenS (st := st) (all_line hn hs)
    have lt : eOp2 gLt (eN gLen (aCons (eVar 8) aNil)) (eN gLen (aCons (eVar 4) aNil)) [some (WL ws), k, some (WL (allSt ws)), t, some (.str s), y5, y6, y7, some (.str o)] st = some (.bl (decide (o.length < s.length)), st) := by
      refine v_op (v_N (v_one (v_var rfl)) l1) (v_N (v_one (v_var rfl)) l2) ?_
      show some (Dt.bl (decide ((o.length : Int) < (s.length : Int))), _) = _
      simp
    have en : eOp2 gEq (eSl (eVar 4) (oE (eOp2 gMin (eN gLen (aCons (eVar 4) aNil)) (eN gLen (aCons (eVar 8) aNil)))) oNo) (eVar 8) [some (WL ws), k, some (WL (allSt ws)), t, some (.str s), y5, y6, y7, some (.str o)] st = some (.bl (decide (cutS s (some ((s.length : Int) - (o.length : Int))) none = o)), st) :=
      v_op (v_sl (v_var rfl) (v_oE (v_op (v_N (v_one (v_var rfl)) l2) (v_N (v_one (v_var rfl)) l1) (v_gI rfl))) rfl (v_slS (all_line hn hs))) (v_var rfl) v_eqS
    cases hc : decide (o.length < s.length) with
    | true =>
      rw [hc] at lt
      rw [← ends_cut (of_decide_eq_true hc)] at en
      exact t_andT (t_B lt) (t_B en)
    | false => rw [hc] at lt; exact t_andF (t_B lt)
end
end K01

set_option Elab.async false
set_option linter.all false
set_option maxRecDepth 100000
set_option maxHeartbeats 1000000
namespace K01
open PySem PySem.Spec PyProof.Rows L2 HB
/-- the body of the law's loop -/
def gBody : SS :=
  (sSeq (sSet 5 (eN (gF 2 (liftV m__law_behind)) (aCons (eVar 0) (aCons (eVar 4) aNil))))
  (sSeq (sSet 6 (toV (lc (iE itL (eVar 2)) [8] (kName 8) (cAnd (cB (eOp2 gLt (eN gLen (aCons (eVar 8) aNil)) (eN gLen (aCons (eVar 4) aNil)))) (cB (eOp2 gEq (eSl (eVar 4) (oE (eOp2 gMin (eN gLen (aCons (eVar 4) aNil)) (eN gLen (aCons (eVar 8) aNil)))) oNo) (eVar 8)))) (eVar 8))))
  (sSeq (sSet 7 (toV (small (aCons (eN (gF 2 (liftR m_goes_on)) (aCons (eVar 0) (aCons (eVar 4) aNil))) (aCons (eN (gFk 2 [1, 0] (liftR m_goes_on)) (aCons (eVar 4) (aCons (eVar 0) aNil))) (aCons (eN (gF 2 (liftR m_ends)) (aCons (eVar 0) (aCons (eVar 4) aNil))) (aCons (eN (gFk 2 [1, 0] (liftR m_ends)) (aCons (eVar 4) (aCons (eVar 0) aNil))) aNil)))))))
  (sSeq (sIf (cOr (cB (eOp2 gNe (eN gRep (aCons (eVar 7) aNil)) (eN gRep (aCons (toV (small (aCons (eVar 5) (aCons (eVar 5) (aCons (eVar 6) (aCons (eVar 6) aNil)))))) aNil)))) (cB (eOp2 gNe (eOp2 gEq (eVar 5) (toV (small aNil))) (eOp2 (gIn false) (eVar 4) (eVar 0)))))
  (sRet (eC (.bl false)))
  sNx)
  (sSeq (sEx (eM isL gApp (eOp2 gIx (eVar 7) (eC (.int 0))) (aCons (eC .non) aNil)))
  (sSeq (sEx (eM isL gApp (eOp2 gIx (eVar 7) (eC (.int 2))) (aCons (eC .non) aNil)))
  (sIf (cB (eOp2 gNe (eN gRep (aCons (toV (small (aCons (eN (gF 2 (liftV m_goes_on)) (aCons (eVar 0) (aCons (eVar 4) aNil))) (aCons (eN (gF 2 (liftV m_ends)) (aCons (eVar 0) (aCons (eVar 4) aNil))) aNil)))) aNil)) (eN gRep (aCons (toV (small (aCons (eVar 5) (aCons (eVar 6) aNil)))) aNil))))
  (sRet (eC (.bl false)))
  sNx)))))))
section
variable {ws : List Str} {n : Nat}
theorem v_eqLe {st : Sto} {l m : List Str} (hl : ∀ x ∈ l, Sm x) (hm : ∀ x ∈ m, Sm x) : gEq st (WL l) (WL m) = some (.bl (decide (l = m)), st) := by
  unfold gEq
  rw [v_eqL hl hm]
  rfl
theorem lt4 : ([Dt.non, Dt.non, Dt.non, Dt.non] : List Dt).length ≤ sizeLine := by decide
theorem body_ok (hg : goodW ws = true) (hn : Good ws n) {s : Str} (hs : s ∈ allSt ws) {k t y5 y6 y7 : Option Dt} (st : Sto) : ∃ z5 z6 z7 st2, gBody [some (WL ws), k, some (WL (allSt ws)), t, some (.str s), y5, y6, y7, none] st = some (.nx [some (WL ws), k, some (WL (allSt ws)), t, some (.str s), z5, z6, z7, none] st2) := by
  let A : Dt := WL (after ws s)
  let B : Dt := WL (below ws s)
  let row : Dt := .lst [.ref (st.length + 0), .ref (st.length + 1), .ref (st.length + 2), .ref (st.length + 3)]
  let st4 : Sto := st ++ [some A, some A, some B, some B]
  have fA := fine_after hn s
  have fB := fine_below hn s
  have nA : noRef A = true := noRef_lstS _
  have nB : noRef B = true := noRef_lstS _
  have q0 : st4[st.length + 0]? = some (some A) := get_at st _ 0
  have q1 : st4[st.length + 1]? = some (some A) := get_at st _ 1
  have q2 : st4[st.length + 2]? = some (some B) := get_at st _ 2
  have q3 : st4[st.length + 3]? = some (some B) := get_at st _ 3
  have hl4 : ∀ a b c d : Dt, ([a, b, c, d] : List Dt).length ≤ sizeLine := fun _ _ _ _ => by show 4 ≤ sizeLine; decide
  have hl2 : ∀ a b : Dt, ([a, b] : List Dt).length ≤ sizeLine := fun _ _ => by show 2 ≤ sizeLine; decide
  have hlA : ((after ws s).map Dt.str).length < sizeLine := by rw [List.length_map]; have := fA.few; have := line_ge; omega
  have hlB : ((below ws s).map Dt.str).length < sizeLine := by rw [List.length_map]; have := fB.few; have := line_ge; omega
  let r7 : Evr := [some (WL ws), k, some (WL (allSt ws)), t, some (.str s), some A, some B, some row, none]
  -- the row
  have hrow : toV (small (aCons (eN (gF 2 (liftR m_goes_on)) (aCons (eVar 0) (aCons (eVar 4) aNil))) (aCons (eN (gFk 2 [1, 0] (liftR m_goes_on)) (aCons (eVar 4) (aCons (eVar 0) aNil))) (aCons (eN (gF 2 (liftR m_ends)) (aCons (eVar 0) (aCons (eVar 4) aNil))) (aCons (eN (gFk 2 [1, 0] (liftR m_ends)) (aCons (eVar 4) (aCons (eVar 0) aNil))) aNil))))) [some (WL ws), k, some (WL (allSt ws)), t, some (.str s), some A, some B, y7, none] st = some (row, st4) := by
    have c1 := c_R (m := m_goes_on) (d := A) st [] (nr3 s ws) (m2_self hg hs)
    rw [List.append_nil] at c1
    have c2 := c_R (m := m_goes_on) (d := A) st [some A] (nr3 s ws) (m2_self hg hs)
    have c3 := c_R (m := m_ends) (d := B) st [some A, some A] (nr3 s ws) (m2_self hg hs)
    have c4 := c_R (m := m_ends) (d := B) st [some A, some A, some B] (nr3 s ws) (m2_self hg hs)
    exact v_toV (v_small (v_cons (v_N (v_cons (v_var rfl) (v_one (v_var rfl))) (v_gF rfl c1)) (v_cons (v_N (v_cons (v_var rfl) (v_one (v_var rfl))) (v_k2 c2)) (v_cons (v_N (v_cons (v_var rfl) (v_one (v_var rfl))) (v_gF rfl c3)) (v_one (v_N (v_cons (v_var rfl) (v_one (v_var rfl))) (v_k2 c4)))))) (hl4 _ _ _ _))
  -- what is shown
  have rep1 : gRep st4 [row] = some (.str (repT (LL [after ws s, after ws s, below ws s, below ws s])), st4) := v_rep2 (ls := [after ws s, after ws s, below ws s, below ws s]) (deref4 q0 q1 q2 q3 nA nA nB nB) (fun l hl => by
    simp only [List.mem_cons, List.not_mem_nil, or_false] at hl
    rcases hl with rfl | rfl | rfl | rfl
    · exact fA
    · exact fA
    · exact fB
    · exact fB) (by simp)
  have repV : ∀ (stx : Sto), gRep stx [.lst [A, A, B, B]] = some (.str (repT (LL [after ws s, after ws s, below ws s, below ws s])), stx) := fun stx => v_rep2 (ls := [after ws s, after ws s, below ws s, below ws s]) (deref_no (by unfold noRef noRefs; rw [nA]; unfold noRefs; rw [nA]; unfold noRefs; rw [nB]; unfold noRefs; rw [nB]; unfold noRefs; rfl)) (fun l hl => by
    simp only [List.mem_cons, List.not_mem_nil, or_false] at hl
    rcases hl with rfl | rfl | rfl | rfl
    · exact fA
    · exact fA
    · exact fB
    · exact fB) (by simp)
  have repW : ∀ (stx : Sto), gRep stx [.lst [A, B]] = some (.str (repT (LL [after ws s, below ws s])), stx) := fun stx => v_rep2 (ls := [after ws s, below ws s]) (deref_no (by unfold noRef noRefs; rw [nA]; unfold noRefs; rw [nB]; unfold noRefs; rfl)) (fun l hl => by
    simp only [List.mem_cons, List.not_mem_nil, or_false] at hl
    rcases hl with rfl | rfl
    · exact fA
    · exact fB) (by simp)
  have dec : decide (after ws s = []) = decide (s ∈ ws) := by
    by_cases h : s ∈ ws
    · rw [decide_eq_true h, decide_eq_true ((after_nil hn hs).mpr h)]
    · rw [decide_eq_false h, decide_eq_false fun z => h ((after_nil hn hs).mp z)]
  refine ⟨some A, some B, some row, (st4.set (st.length + 0) (some (.lst ((after ws s).map Dt.str ++ [.non])))).set (st.length + 2) (some (.lst ((below ws s).map Dt.str ++ [.non]))), ?_⟩
  unfold gBody
  refine s_seq (s_set (d := A) (st1 := st) (v_N (v_cons (v_var rfl) (v_one (v_var rfl))) (v_gF rfl (v_V (nr3 s ws) (m2_self hg hs))))) ?_
  refine s_seq (s_set (d := B) (st1 := st) (v_toV (law_below hn hs st))) ?_
  refine s_seq (s_set hrow) ?_
  refine s_seq (r1 := r7) (st1 := st4) (s_ifF (t_orF (t_B (v_op (v_N (v_one (v_var rfl)) rep1) (v_N (v_one (v_toV (v_small (v_cons (v_var rfl) (v_cons (v_var rfl) (v_cons (v_var rfl) (v_one (v_var rfl))))) (hl4 _ _ _ _)))) (repV _)) (v_eqF rfl))) (t_B (v_op (v_op (v_var rfl) (v_toV (ds := ([] : List Str).map Dt.str) (v_small v_nil (by decide))) (v_eqLe fA.sm (by simp))) (v_op (v_var rfl) (v_var rfl) (v_inS (neg := false) (l := ws) rfl)) ?_))) rfl) ?_
  · rw [v_neB]
    simp [dec]
    rfl
  refine s_seq (r1 := r7) (s_ex (v_app (k := st.length + 0) (es := (after ws s).map Dt.str) (v_op (v_var rfl) rfl (v_ixL rfl)) q0 hlA)) ?_
  refine s_seq (r1 := r7) (s_ex (v_app (k := st.length + 2) (es := (below ws s).map Dt.str) (v_op (v_var rfl) rfl (v_ixL rfl)) (by rw [List.getElem?_set_ne (by omega)]; exact q2) hlB)) ?_
  exact s_ifF (t_B (v_op (v_N (v_one (v_toV (v_small (v_cons (v_N (v_cons (v_var rfl) (v_one (v_var rfl))) (v_gF rfl (v_V (d := A) (nr3 s ws) (m2_self hg hs)))) (v_one (v_N (v_cons (v_var rfl) (v_one (v_var rfl))) (v_gF rfl (v_V (d := B) (nr3 s ws) (m2_self hg hs)))))) (hl2 _ _)))) (repW _)) (v_N (v_one (v_toV (v_small (v_cons (v_var rfl) (v_one (v_var rfl))) (hl2 _ _)))) (repW _)) (v_eqF rfl))) rfl
end
end K01

set_option Elab.async false
set_option linter.all false
set_option maxRecDepth 100000
set_option maxHeartbeats 1000000
namespace K01
open PySem PySem.Spec PyProof.Rows L2 HB
section
variable {ws : List Str} {n : Nat}
theorem right_loop (hg : goodW ws = true) (hn : Good ws n) {k t : Option Dt} : ∀ (l : List Str), (∀ s ∈ l, s ∈ allSt ws) → ∀ (y4 y5 y6 y7 : Option Dt) (st : Sto), ∃ z4 z5 z6 z7 st2, sForGo (kName 4) gBody (l.map Dt.str) [some (WL ws), k, some (WL (allSt ws)), t, y4, y5, y6, y7, none] st = some (.nx [some (WL ws), k, some (WL (allSt ws)), t, z4, z5, z6, z7, none] st2)
  | [], _, y4, y5, y6, y7, st => ⟨y4, y5, y6, y7, st, rfl⟩
  | s :: l, h, y4, y5, y6, y7, st => by
    obtain ⟨z5, z6, z7, st2, e⟩ := body_ok hg hn (h s (by simp)) (k := k) (t := t) (y5 := y5) (y6 := y6) (y7 := y7) st
    obtain ⟨u4, u5, u6, u7, st3, e2⟩ := right_loop hg hn (k := k) (t := t) l (fun x hx => h x (by simp [hx])) (some (.str s)) z5 z6 z7 st2
    refine ⟨u4, u5, u6, u7, st3, ?_⟩
    rw [List.map_cons]
    exact for_cons (r1 := [some (WL ws), k, some (WL (allSt ws)), t, some (.str s), y5, y6, y7, none]) rfl e e2
theorem run_right (hg : goodW ws = true) (hn : Good ws n) : ∃ st', F__law_right [WL ws] [] = some (.bl true, st') := by
  let D : Dt := WL (allSt ws)
  let told : Dt := .lst [.ref 0, .ref 1]
  let kept : Dt := .str (repT (WL ws))
  have fD := fine_all hn
  have nD : noRef D = true := noRef_lstS _
  have hl2 : ∀ a b : Dt, ([a, b] : List Dt).length ≤ sizeLine := fun _ _ => by show 2 ≤ sizeLine; decide
  have hlD : ((allSt ws).map Dt.str).length < sizeLine := by rw [List.length_map]; have := fD.few; have := line_ge; omega
  have repW : ∀ stx : Sto, gRep stx [WL ws] = some (kept, stx) := fun stx => v_rep1 (deref_no (noRef_lstS _)) (fine_ws hn)
  have repD : ∀ stx : Sto, gRep stx [D] = some (.str (repT D), stx) := fun stx => v_rep1 (deref_no nD) fD
  have two : ∀ l ∈ [allSt ws, allSt ws], Fine l := fun l hl => by
    simp only [List.mem_cons, List.not_mem_nil, or_false] at hl
    rcases hl with rfl | rfl <;> exact fD
  have rep2 : gRep [some D, some D] [told] = some (.str (repT (LL [allSt ws, allSt ws])), [some D, some D]) := v_rep2 (ls := [allSt ws, allSt ws]) (deref2 rfl rfl nD nD) two (by simp)
  have repV : ∀ stx : Sto, gRep stx [.lst [D, D]] = some (.str (repT (LL [allSt ws, allSt ws])), stx) := fun stx => v_rep2 (ls := [allSt ws, allSt ws]) (deref_no (by unfold noRef noRefs; rw [nD]; unfold noRefs; rw [nD]; unfold noRefs; rfl)) two (by simp)
  let st1 : Sto := [some (.lst ((allSt ws).map Dt.str ++ [.non])), some D]
  obtain ⟨z4, z5, z6, z7, st2, e⟩ := right_loop hg hn (k := some kept) (t := some told) (allSt ws) (fun _ h => h) none none none none st1
  refine ⟨st2, b_rt ?_⟩
  rw [show startD 9 [WL ws] = [some (WL ws), none, none, none, none, none, none, none, none] from rfl]
  unfold g__law_right
  refine s_seq (s_set (d := kept) (st1 := []) (v_N (v_one (v_var rfl)) (repW _))) ?_
  refine s_seq (s_set (d := D) (st1 := []) (v_N (v_one (v_var rfl)) (v_gF rfl (v_V (nr1 ws) (w1_self hg))))) ?_
  have c1 := c_R (m := m_states) (d := D) [] [] (nr1 ws) (w1_self hg)
  have c2 := c_R (m := m_states) (d := D) [] [some D] (nr1 ws) (w1_self hg)
  refine s_seq (s_set (d := told) (st1 := [some D, some D]) (v_toV (v_small (v_cons (v_N (v_one (v_var rfl)) (v_gF rfl c1)) (v_one (v_N (v_one (v_var rfl)) (v_k1 c2)))) (hl2 _ _)))) ?_
  refine s_seq (r1 := [some (WL ws), some kept, some D, some told, none, none, none, none, none]) (st1 := [some D, some D]) (s_ifF (t_orF (t_B (v_op (v_N (v_one (v_var rfl)) rep2) (v_N (v_one (v_toV (v_small (v_cons (v_var rfl) (v_one (v_var rfl))) (hl2 _ _)))) (repV _)) (v_eqF rfl))) (t_B (v_op (v_N (v_one (v_var rfl)) (repW _)) (v_var rfl) (v_eqF rfl)))) rfl) ?_
  refine s_seq (r1 := [some (WL ws), some kept, some D, some told, none, none, none, none, none]) (st1 := st1) (s_ex (v_app (st1 := [some D, some D]) (k := 0) (es := (allSt ws).map Dt.str) (v_op (v_var rfl) rfl (v_ixL rfl)) rfl hlD)) ?_
  refine s_seq (s_for (xs := (allSt ws).map Dt.str) (st1 := st1) (by exact v_iE (v_var rfl) rfl) e) ?_
  exact s_ret (v_and (v_op (v_N (v_one (v_N (v_one (v_var rfl)) (v_gF rfl (v_V (d := D) (nr1 ws) (w1_self hg))))) (repD _)) (v_N (v_one (v_var rfl)) (repD _)) (v_eqT rfl)) (v_op (v_N (v_one (v_var rfl)) (repW _)) (v_var rfl) (v_eqT rfl)))
end
theorem leV__law_right (ds : List Dt) (d : Dt) (h : m__law_right ds = some d) : fV F__law_right ds = some d := by
  unfold m__law_right at h
  split at h
  · obtain ⟨ws, n, rfl, hn, hg, rfl⟩ := w1_of h
    obtain ⟨st', e⟩ := run_right hg hn
    exact fV_of e (deref_no rfl)
  · cases h
end K01

set_option Elab.async false
set_option linter.all false
set_option maxRecDepth 100000
set_option maxHeartbeats 1000000
namespace K01
open PySem PySem.Spec PyProof.Rows L2 HB
theorem next_k (x : Drw) : (nextN x).2.k = x.k + 1 := by unfold nextN; split <;> rfl
theorem c_next {r : Evr} {st : Sto} {x : Drw} (hr : r[0]? = some (some (.ref 0))) (hx : st[0]? = some (some x.dt)) (hk : x.k < 1000000) : eN gInt (aCons (eN (gF 1 (liftE m__law_next)) (aCons (eVar 0) aNil)) aNil) r st = some (.int (nextN x).1, st.set 0 (some (nextN x).2.dt)) := by
  have e : m__law_next x.dt [] = some (.int (nextN x).1, (nextN x).2.dt) := by
    unfold m__law_next
    rw [drw_self hk]
    rfl
  exact v_N (v_one (v_N (v_one (v_var hr)) (v_gF rfl (v_Ee (ds := []) (c := x.dt) rfl hx rfl e)))) rfl
theorem at_mod {α : Type} (l : List α) (n m : Int) (hm : m = l.length) (h : 0 < m) (d : α) : atI l (n % m) = some (l.getD (n % m).toNat d) := by
  have h1 := Int.emod_nonneg n (show m ≠ 0 by omega)
  have h2 := Int.emod_lt_of_pos n h
  unfold atI ixN
  rw [if_pos h1, if_pos (by omega)]
  show l[(n % m).toNat]? = _
  rw [List.getD_eq_getElem?_getD]
  have : (n % m).toNat < l.length := by omega
  rw [List.getElem?_eq_getElem this]
  rfl
theorem lcGo_cons {kt : SG} {c : ST} {f : SE} {r r1 : Evr} {x y : Dt} {xs zs : List Dt} {st st1 st2 st3 : Sto} (hk : kt x r = some r1) (hc : c r1 st = some (true, st1)) (hf : f r1 st1 = some (y, st2)) (ht : lcGo kt c f r xs st2 = some (zs, st3)) : lcGo kt c f r (x :: xs) st = some (y :: zs, st3) := by
  show (kt x r).bind _ = _
  rw [hk]
  show (c r1 st).bind _ = _
  rw [hc]
  show (f r1 st1).bind _ = _
  rw [hf]
  show (lcGo kt c f r xs st2).bind _ = _
  rw [ht]
  rfl
/-- the letters -/
structure Sg (sg : Str) : Prop where
  l1 : 1 ≤ sg.length
  l3 : sg.length ≤ 3
theorem sg_line {sg : Str} (h : Sg sg) : sg.length ≤ sizeLine := Nat.le_trans h.l3 (by decide)
theorem word_lc {sg : Str} (hs : Sg sg) {m lg k w T : Option Dt} {t : Dt} : ∀ (xs : List Nat) (x : Drw), x.k + xs.length < 1000000 → lcGo (kName 7) cYes (eOp2 gIx (eVar 2) (eOp2 gMod (eN gInt (aCons (eN (gF 1 (liftE m__law_next)) (aCons (eVar 0) aNil)) aNil)) (eN gLen (aCons (eVar 2) aNil)))) [some (.ref 0), m, some (.str sg), lg, T, k, w, none] (xs.map fun i => Dt.int (0 + (i : Nat))) [some x.dt, some t] =
    some ((wordOf sg xs.length x).1.map (fun c => Dt.str ⟨#[c]⟩), [some (wordOf sg xs.length x).2.dt, some t])
  | [], x, _ => rfl
  | i :: xs, x, h => by
    rw [List.length_cons] at h
    have hk : x.k < 1000000 := by omega
    have ih := word_lc hs (m := m) (lg := lg) (k := k) (w := w) (T := T) (t := t) xs (nextN x).2 (by rw [next_k]; omega)
    have hl := hs.l1
    have e : eOp2 gIx (eVar 2) (eOp2 gMod (eN gInt (aCons (eN (gF 1 (liftE m__law_next)) (aCons (eVar 0) aNil)) aNil)) (eN gLen (aCons (eVar 2) aNil))) [some (.ref 0), m, some (.str sg), lg, T, k, w, some (.int (0 + (i : Nat)))] [some x.dt, some t] = some (.str ⟨#[sg.cps.toList.getD (((nextN x).1 % sg.length).toNat) 0]⟩, [some (nextN x).2.dt, some t]) :=
      v_op (v_var rfl) (v_op (c_next (x := x) rfl rfl hk) (v_N (v_one (v_var rfl)) (v_lenS (sg_line hs))) (v_gI (hMd _ _ (by omega)))) (v_ixS (sg_line hs) (at_mod sg.cps.toList (nextN x).1 sg.length (by rw [str_len]) (by omega) 0))
    rw [List.map_cons]
    exact lcGo_cons rfl rfl e ih
theorem word_k (sg : Str) : ∀ (n : Nat) (x : Drw), (wordOf sg n x).2.k = x.k + n
  | 0, x => rfl
  | n + 1, x => by
    show (wordOf sg n (nextN x).2).2.k = _
    rw [word_k sg n, next_k]
    omega
theorem word_len (sg : Str) : ∀ (n : Nat) (x : Drw), (wordOf sg n x).1.length = n
  | 0, x => rfl
  | n + 1, x => by
    show ((wordOf sg n (nextN x).2).1.length + 1) = _
    rw [word_len sg n]
theorem joinL_one : ∀ cs : List Nat, TL.joinL [] (cs.map fun c => [c]) = cs
  | [] => rfl
  | [c] => rfl
  | c :: d :: cs => by
    have ih := joinL_one (d :: cs)
    rw [List.map_cons] at ih
    rw [List.map_cons, List.map_cons]
    show [c] ++ ([] ++ TL.joinL [] ([d] :: cs.map fun c => [c])) = _
    rw [ih]
    rfl
theorem join_one (cs : List Nat) : Txt.join ("" : Str) (cs.map fun c => ⟨#[c]⟩) = ⟨cs.toArray⟩ := by
  refine str_ext ?_
  show TL.tl (Txt.join ("" : Str) (cs.map fun c => ⟨#[c]⟩)) = _
  rw [TL.join_eq, TL.tl_join, List.map_map]
  have e : TL.tl ("" : Str) = [] := by decide +kernel
  rw [e]
  show TL.joinL [] (cs.map fun c => [c]) = _
  rw [joinL_one]
theorem ones : ∀ cs : List Nat, (cs.map fun _ => 1).sum = cs.length
  | [] => rfl
  | c :: cs => by rw [List.map_cons, List.sum_cons, ones cs, List.length_cons]; omega
theorem v_M1 {g : Sto → Dt → Dt → Option (Dt × Sto)} {fo fe : SE} {r : Evr} {st st1 st2 : Sto} {a : Str} {y : Dt} {q : Dt × Sto} (h1 : fo r st = some (.str a, st1)) (h2 : fe r st1 = some (y, st2)) (h3 : g st2 (.str a) y = some q) : eM1 g fo fe r st = some q := by
  unfold eM1
  rw [h1]
  show (if isS st1 (.str a) = true then (fe r st1).bind _ else none) = _
  rw [if_pos (show isS st1 (Dt.str a) = true from rfl), h2]
  exact h3
theorem v_join (cs : List Nat) (h : cs.length ≤ 7) (st : Sto) : gJoin st (.str "") (.lst (cs.map fun c => Dt.str ⟨#[c]⟩)) = some (.str ⟨cs.toArray⟩, st) := by
  have e : strs' (cs.map fun c => Dt.str ⟨#[c]⟩) = some (cs.map fun c => (⟨#[c]⟩ : Str)) := strs_map (fun c => (⟨#[c]⟩ : Str)) cs
  show ((strs' (cs.map fun c => Dt.str ⟨#[c]⟩)).bind fun ys => if (ys.map (·.length)).sum + ys.length * ("" : Str).length ≤ 16777216 then some (Dt.str (Txt.join "" ys), st) else none) = _
  rw [e]
  show (if ((cs.map fun c => (⟨#[c]⟩ : Str)).map (·.length)).sum + (cs.map fun c => (⟨#[c]⟩ : Str)).length * ("" : Str).length ≤ 16777216 then some (Dt.str (Txt.join "" (cs.map fun c => (⟨#[c]⟩ : Str))), st) else none) = _
  have e2 : ((cs.map fun c => (⟨#[c]⟩ : Str)).map (·.length)).sum = cs.length := by
    rw [List.map_map]
    have : ((·.length) ∘ fun c => (⟨#[c]⟩ : Str)) = fun _ : Nat => 1 := rfl
    rw [this]
    exact ones cs
  have e3 : ("" : Str).length = 0 := by decide +kernel
  rw [e2, e3, Nat.mul_zero, if_pos (by omega), join_one]
/-- one word -/
abbrev wd (sg : Str) (lg : Nat) (x : Drw) : Str := ⟨(wordOf sg lg x).1.toArray⟩
theorem words_loop {sg : Str} (hs : Sg sg) {lg : Nat} (hlg : lg ≤ 7) {m : Option Dt} : ∀ (xs : List Nat) (l : List Str) (x : Drw) (k w : Option Dt), x.k + 8 * xs.length < 1000000 → l.length + xs.length < 1000000 → ∃ k' w', sForGo (kName 5) (sSeq (sSet 6 (eM1 gJoin (eC (.str "")) (toV (lc (iR rg1 (aCons (eVar 3) aNil)) [7] (kName 7) cYes (eOp2 gIx (eVar 2) (eOp2 gMod (eN gInt (aCons (eN (gF 1 (liftE m__law_next)) (aCons (eVar 0) aNil)) aNil)) (eN gLen (aCons (eVar 2) aNil))))))))
    (sIf (cB (eOp2 (gIn true) (eVar 6) (eVar 4))) (sEx (eM isL gApp (eVar 4) (aCons (eVar 6) aNil))) sNx)) (xs.map fun i => Dt.int (0 + (i : Nat))) [some (.ref 0), m, some (.str sg), some (.int (lg : Nat)), some (.ref 1), k, w, none] [some x.dt, some (WL l)] =
    some (.nx [some (.ref 0), m, some (.str sg), some (.int (lg : Nat)), some (.ref 1), k', w', none] [some (wordsOf sg lg xs.length l x).2.dt, some (WL (wordsOf sg lg xs.length l x).1)])
  | [], l, x, k, w, _, _ => ⟨k, w, rfl⟩
  | i :: xs, l, x, k, w, hk, hl => by
    rw [List.length_cons] at hk hl
    have hz := line_ge
    have hi := ins2_len (wd sg lg x) l
    obtain ⟨k', w', ih⟩ := words_loop hs hlg (m := m) xs (ins2 (wd sg lg x) l) (wordOf sg lg x).2 (some (.int (0 + (i : Nat)))) (some (.str (wd sg lg x))) (by rw [word_k]; omega) (by omega)
    refine ⟨k', w', ?_⟩
    rw [List.map_cons]
    let r1 : Evr := [some (.ref 0), m, some (.str sg), some (.int (lg : Nat)), some (.ref 1), some (.int (0 + (i : Nat))), w, none]
    let r2 : Evr := [some (.ref 0), m, some (.str sg), some (.int (lg : Nat)), some (.ref 1), some (.int (0 + (i : Nat))), some (.str (wd sg lg x)), none]
    have hword : toV (lc (iR rg1 (aCons (eVar 3) aNil)) [7] (kName 7) cYes (eOp2 gIx (eVar 2) (eOp2 gMod (eN gInt (aCons (eN (gF 1 (liftE m__law_next)) (aCons (eVar 0) aNil)) aNil)) (eN gLen (aCons (eVar 2) aNil))))) r1 [some x.dt, some (WL l)] = some (.lst ((wordOf sg lg x).1.map fun c => Dt.str ⟨#[c]⟩), [some (wordOf sg lg x).2.dt, some (WL l)]) := by
      refine v_toV ?_
      unfold lc
      rw [v_rg (n := lg) (v_one (v_var rfl)) (by omega)]
      have e := word_lc hs (m := m) (lg := some (.int (lg : Nat))) (k := some (.int (0 + (i : Nat)))) (w := w) (T := some (.ref 1)) (t := WL l) (List.range lg) x (by rw [List.length_range]; omega)
      rw [List.length_range] at e
      show ((lcGo (kName 7) cYes _ (wipeD r1 [7]) ((List.range lg).map fun i => Dt.int (0 + (i : Nat))) [some x.dt, some (WL l)]).bind fun z => if z.1.length ≤ sizeLine then some z else none) = _
      rw [show wipeD r1 [7] = r1 from rfl, e]
      refine if_pos ?_
      rw [List.length_map, word_len]
      omega
    have hj : eM1 gJoin (eC (.str "")) (toV (lc (iR rg1 (aCons (eVar 3) aNil)) [7] (kName 7) cYes (eOp2 gIx (eVar 2) (eOp2 gMod (eN gInt (aCons (eN (gF 1 (liftE m__law_next)) (aCons (eVar 0) aNil)) aNil)) (eN gLen (aCons (eVar 2) aNil)))))) r1 [some x.dt, some (WL l)] = some (.str (wd sg lg x), [some (wordOf sg lg x).2.dt, some (WL l)]) :=
      v_M1 rfl hword (v_join _ (by rw [word_len]; exact hlg) _)
    refine for_cons (r1 := r1) (r2 := r2) (st1 := [some (wordOf sg lg x).2.dt, some (WL (ins2 (wd sg lg x) l))]) rfl (s_seq (s_set hj) ?_) ih
    by_cases hm : wd sg lg x ∈ l
    · have : ins2 (wd sg lg x) l = l := by unfold ins2; rw [if_pos hm]
      rw [this]
      exact s_ifF (t_B (v_op (v_var rfl) (v_var rfl) (v_ninF rfl hm))) rfl
    · have : ins2 (wd sg lg x) l = l ++ [wd sg lg x] := by unfold ins2; rw [if_neg hm]
      rw [this]
      refine s_ifT (t_B (v_op (v_var rfl) (v_var rfl) (v_ninT rfl hm))) ?_
      refine s_ex (d := .non) ?_
      show gApp [some (wordOf sg lg x).2.dt, some (WL l)] (.ref 1) [.str (wd sg lg x)] = _
      show (if (l.map Dt.str).length < sizeLine then some (Dt.non, [some (wordOf sg lg x).2.dt, some (.lst (l.map Dt.str ++ [.str (wd sg lg x)]))]) else none) = _
      rw [if_pos (by rw [List.length_map]; omega)]
      show _ = some (Dt.non, [some (wordOf sg lg x).2.dt, some (.lst ((l ++ [wd sg lg x]).map Dt.str))])
      rw [List.map_append]
      rfl
end K01

set_option Elab.async false
set_option linter.all false
set_option maxRecDepth 100000
set_option maxHeartbeats 1000000
namespace K01
open PySem PySem.Spec PyProof.Rows L2 HB
theorem sg_of (i : Nat) (h : i < 4) : Sg (signsOf i) := by
  have : i = 0 ∨ i = 1 ∨ i = 2 ∨ i = 3 := by omega
  rcases this with rfl | rfl | rfl | rfl <;> exact ⟨by decide +kernel, by decide +kernel⟩
theorem sg_let (i : Nat) (h : i < 4) : ∀ c ∈ (signsOf i).cps.toList, letB ⟨#[c]⟩ = true := by
  have : i = 0 ∨ i = 1 ∨ i = 2 ∨ i = 3 := by omega
  rcases this with rfl | rfl | rfl | rfl <;> (rw [← List.all_eq_true]; decide +kernel)
theorem leE__law_words (c : Dt) (ds : List Dt) (d : Dt × Dt) (h : m__law_words c ds = some d) : fE F__law_words c ds = some d := by
  unfold m__law_words at h
  split at h
  · obtain ⟨x, h1, h2⟩ := bind_some' h
    split at h2
    · rename_i hx0
      cases h2
      obtain ⟨rfl, hk⟩ := asDrw_of h1
      let y1 := nextN x
      let y2 := nextN y1.2
      let y3 := nextN y2.2
      have k1 : y1.2.k = 1 := by rw [next_k, hx0]
      have k2 : y2.2.k = 2 := by rw [next_k, k1]
      have k3 : y3.2.k = 3 := by rw [next_k, k2]
      have a1 := Int.emod_nonneg y1.1 (show (4 : Int) ≠ 0 by decide)
      have b1 := Int.emod_lt_of_pos y1.1 (show (0 : Int) < 4 by decide)
      have a2 := Int.emod_nonneg y2.1 (show (7 : Int) ≠ 0 by decide)
      have b2 := Int.emod_lt_of_pos y2.1 (show (0 : Int) < 7 by decide)
      have a3 := Int.emod_nonneg y3.1 (show (5 : Int) ≠ 0 by decide)
      have b3 := Int.emod_lt_of_pos y3.1 (show (0 : Int) < 5 by decide)
      let i1 : Nat := (y1.1 % 4).toNat
      let lg : Nat := (1 + y2.1 % 7).toNat
      let m : Nat := (1 + y3.1 % 5).toNat
      have hs : Sg (signsOf i1) := sg_of i1 (by show (y1.1 % 4).toNat < 4; omega)
      have hlg : lg ≤ 7 := by show (1 + y2.1 % 7).toNat ≤ 7; omega
      have hm : m ≤ 5 := by show (1 + y3.1 % 5).toNat ≤ 5; omega
      have elg : (1 + y2.1 % 7 : Int) = (lg : Nat) := by show _ = (((1 + y2.1 % 7).toNat : Nat) : Int); omega
      have em : (1 + y3.1 % 5 : Int) = (m : Nat) := by show _ = (((1 + y3.1 % 5).toNat : Nat) : Int); omega
      obtain ⟨k', w', e⟩ := words_loop hs hlg (m := some (.int 7)) (List.range m) [] y3.2 none none (by rw [k3, List.length_range]; omega) (by rw [List.length_range, List.length_nil]; omega)
      rw [List.length_range] at e
      have run : g__law_words (startD 8 [.ref 0, .int 7]) [some x.dt] = some (.rt (.ref 1) [some (wordsOf (signsOf i1) lg m [] y3.2).2.dt, some (WL (wordsOf (signsOf i1) lg m [] y3.2).1)]) := by
        rw [show startD 8 [.ref 0, .int 7] = [some (.ref 0), some (.int 7), none, none, none, none, none, none] from rfl]
        unfold g__law_words
        refine s_seq (s_set (d := .str (signsOf i1)) (st1 := [some y1.2.dt]) (v_op (v_toV (v_small (v_cons rfl (v_cons rfl (v_cons rfl (v_one rfl)))) (by show 4 ≤ sizeLine; decide))) (v_op (c_next (x := x) rfl rfl hk) rfl (v_gI (hMd _ _ (by decide)))) (v_ixL ?_))) ?_
        · rw [at_mod _ y1.1 4 rfl (by decide) (.str "")]
          have hi : i1 < 4 := by show (y1.1 % 4).toNat < 4; omega
          show some (([Dt.str "ab", Dt.str "ab", Dt.str "abc", Dt.str "!~z"] : List Dt).getD i1 (.str "")) = some (.str (signsOf i1))
          have : i1 = 0 ∨ i1 = 1 ∨ i1 = 2 ∨ i1 = 3 := by omega
          rcases this with q | q | q | q <;> rw [q] <;> rfl
        refine s_seq (s_set (d := .int (lg : Nat)) (st1 := [some y2.2.dt]) (v_op rfl (v_op (c_next (x := y1.2) rfl rfl (by omega)) (v_var rfl) (v_gI (hMd _ _ (by decide)))) (by rw [← elg]; rfl))) ?_
        refine s_seq (s_set (d := .ref 1) (st1 := [some y2.2.dt, some (WL [])]) rfl) ?_
        refine s_seq (s_for (xs := (List.range m).map fun i => Dt.int (0 + (i : Nat))) (st1 := [some y3.2.dt, some (WL [])]) (v_rg (n := m) (v_one (v_op rfl (v_op (c_next (x := y2.2) rfl rfl (by omega)) rfl (v_gI (hMd _ _ (by decide)))) (by rw [← em]; rfl))) (by omega)) e) ?_
        exact s_ret (v_var rfl)
      exact fE_of (b_rt0 run) rfl rfl (deref_ref rfl (noRef_lstS _))
    · cases h2
  · cases h
/-! ### the words that are drawn are good ones -/
theorem wordsOf_inv (sg : Str) (lg : Nat) (P : Str → Prop) (hP : ∀ x, P (wd sg lg x)) : ∀ (m : Nat) (l : List Str) (x : Drw), l.Nodup → (∀ w ∈ l, P w) → (wordsOf sg lg m l x).1.Nodup ∧ (∀ w ∈ (wordsOf sg lg m l x).1, P w) ∧ (wordsOf sg lg m l x).1.length ≤ l.length + m ∧ l.length ≤ (wordsOf sg lg m l x).1.length ∧ (1 ≤ m → 1 ≤ (wordsOf sg lg m l x).1.length)
  | 0, l, x, nd, h => ⟨nd, h, Nat.le_refl _, Nat.le_refl _, fun z => by omega⟩
  | m + 1, l, x, nd, h => by
    obtain ⟨h1, h2, h3, h4, h5⟩ := wordsOf_inv sg lg P hP m (ins2 (wd sg lg x) l) (wordOf sg lg x).2 (ins2_nodup nd) fun w hw => (ins2_mem.mp hw).elim (fun e => e ▸ hP x) (h w)
    have hl := ins2_len (wd sg lg x) l
    have hg : l.length ≤ (ins2 (wd sg lg x) l).length := by unfold ins2; split <;> simp
    have hpos : 1 ≤ (ins2 (wd sg lg x) l).length := List.length_pos_of_mem (ins2_mem.mpr (.inl rfl))
    refine ⟨h1, h2, ?_, ?_, fun _ => ?_⟩
    · show (wordsOf sg lg m (ins2 (wd sg lg x) l) (wordOf sg lg x).2).1.length ≤ _
      omega
    · show _ ≤ (wordsOf sg lg m (ins2 (wd sg lg x) l) (wordOf sg lg x).2).1.length
      omega
    · show _ ≤ (wordsOf sg lg m (ins2 (wd sg lg x) l) (wordOf sg lg x).2).1.length
      omega
theorem word_mem {sg : Str} (h1 : 1 ≤ sg.length) : ∀ (n : Nat) (x : Drw), ∀ c ∈ (wordOf sg n x).1, c ∈ sg.cps.toList
  | 0, x, c, h => by cases h
  | n + 1, x, c, h => by
    rcases List.mem_cons.mp h with e | h
    · rw [e, List.getD_eq_getElem?_getD]
      have a := Int.emod_nonneg (nextN x).1 (show (sg.length : Int) ≠ 0 by omega)
      have b := Int.emod_lt_of_pos (nextN x).1 (show (0 : Int) < sg.length by omega)
      have hl := str_len sg
      have : ((nextN x).1 % sg.length).toNat < sg.cps.toList.length := by omega
      rw [List.getElem?_eq_getElem this]
      exact List.getElem_mem _
    · exact word_mem h1 n _ c h
theorem good_law (x : Drw) : goodW (lawWords 7 x).1 = true := by
  unfold lawWords
  simp only []
  generalize (nextN x) = y1
  generalize (nextN y1.2) = y2
  generalize (nextN y2.2) = y3
  have a1 := Int.emod_nonneg y1.1 (show (4 : Int) ≠ 0 by decide)
  have b1 := Int.emod_lt_of_pos y1.1 (show (0 : Int) < 4 by decide)
  have a2 := Int.emod_nonneg y2.1 (show (7 : Int) ≠ 0 by decide)
  have b2 := Int.emod_lt_of_pos y2.1 (show (0 : Int) < 7 by decide)
  have a3 := Int.emod_nonneg y3.1 (show (5 : Int) ≠ 0 by decide)
  have b3 := Int.emod_lt_of_pos y3.1 (show (0 : Int) < 5 by decide)
  have hi : (y1.1 % 4).toNat < 4 := by omega
  generalize (y1.1 % 4).toNat = i at hi
  have hl1 : 1 ≤ (1 + y2.1 % 7).toNat := by omega
  have hl7 : (1 + y2.1 % 7).toNat ≤ 7 := by omega
  generalize (1 + y2.1 % 7).toNat = lg at hl1 hl7
  have hm1 : 1 ≤ (1 + y3.1 % 5).toNat := by omega
  have hm5 : (1 + y3.1 % 5).toNat ≤ 5 := by omega
  generalize (1 + y3.1 % 5).toNat = m at hm1 hm5
  have hs := sg_of i hi
  obtain ⟨h1, h2, h3, h4, h5⟩ := wordsOf_inv (signsOf i) lg (fun w => w.length = lg ∧ ∀ c ∈ w.cps.toList, letB ⟨#[c]⟩ = true) (fun x => ⟨by
    rw [str_len]
    show (wordOf (signsOf i) lg x).1.toArray.toList.length = lg
    rw [List.toList_toArray, word_len], fun c hc => sg_let i hi c (word_mem hs.l1 lg x c (by simpa using hc))⟩) m [] y3.2 List.nodup_nil (fun w hw => by cases hw)
  generalize (wordsOf (signsOf i) lg m [] y3.2).1 = ws at h1 h2 h3 h4 h5
  have h5 := h5 hm1
  rw [List.length_nil] at h3
  have hh : (ws.headD "").length = lg := by
    cases ws with
    | nil => simp at h5
    | cons w l => exact (h2 w (by simp)).1
  unfold goodW
  simp only [Bool.and_eq_true, decide_eq_true_eq, List.all_eq_true]
  refine ⟨h5, by omega, fun w hw => ?_, h1⟩
  unfold wordB
  simp only [Bool.and_eq_true, decide_eq_true_eq, List.all_eq_true]
  have := h2 w hw
  exact ⟨by omega, by omega, this.2, by rw [hh]; exact this.1⟩
end K01

set_option Elab.async false
set_option linter.all false
set_option maxRecDepth 100000
set_option maxHeartbeats 1000000
namespace K01
open PySem PySem.Spec PyProof.Rows L2 HB
def drw0 (c : Int) : Drw := ⟨c % bigM, 0, decide (10 ^ 18 ≤ c)⟩
abbrev dst (cs : List Int) : Sto := cs.map fun c => some (drw0 c).dt
theorem draws_lc {r0 r1 : Option Dt} : ∀ (cs done : List Int), lcGo (kName 2) cYes fd_law [r0, r1, none] (cs.map Dt.int) (dst done) = some ((List.range' done.length cs.length).map Dt.ref, dst (done ++ cs))
  | [], done => by rw [List.append_nil]; rfl
  | c :: cs, done => by
    have ih := draws_lc (r0 := r0) (r1 := r1) cs (done ++ [c])
    rw [List.length_append, List.append_assoc] at ih
    rw [List.map_cons, List.length_cons, List.range'_succ, List.map_cons]
    have e : fd_law [r0, r1, some (.int c)] (dst done) = some (.ref (dst done).length, dst done ++ [some (drw0 c).dt]) := v_N (v_one (v_var rfl)) (v_gF rfl (v_R (m := m__law_draws) (d := (drw0 c).dt) rfl rfl))
    have e2 : dst done ++ [some (drw0 c).dt] = dst (done ++ [c]) := by simp [dst]
    rw [e2, List.length_map] at e
    exact lcGo_cons rfl rfl e ih
theorem body_law {r0 : Option Dt} {i : Nat} {st : Sto} {x : Drw} (hx : x.k = 0) (hi : st[i]? = some (some x.dt)) : ∃ st', gb_law [r0, some (.ref i), none] st = some (.nx [r0, some (.ref i), none] st') ∧ ∀ j, j ≠ i → st'[j]? = st[j]? := by
  have hw : m__law_words x.dt [.int 7] = some (.lst ((lawWords 7 x).1.map .str), (lawWords 7 x).2.dt) := by
    unfold m__law_words
    show ((asDrw x.dt).bind fun x => if x.k = 0 then _ else none) = _
    rw [drw_self (by omega)]
    exact if_pos hx
  refine ⟨st.set i (some (lawWords 7 x).2.dt), ?_, fun j hj => List.getElem?_set_ne (fun z => hj z.symm)⟩
  unfold gb_law
  exact s_ifF (t_nT (t_B (v_N (v_one (v_N (v_cons (v_var rfl) (v_one rfl)) (v_gF rfl (v_Ee (ds := [.int 7]) rfl hi rfl hw)))) (v_gF rfl (v_V (nr1 _) (w1_self (good_law x))))))) rfl
theorem loop_law {r0 : Option Dt} : ∀ (k i : Nat) (st : Sto) (y : Option Dt), (∀ j, i ≤ j → j < i + k → ∃ x : Drw, x.k = 0 ∧ st[j]? = some (some x.dt)) → ∃ y' st', sForGo (kName 1) gb_law ((List.range' i k).map Dt.ref) [r0, y, none] st = some (.nx [r0, y', none] st')
  | 0, i, st, y, _ => ⟨y, st, rfl⟩
  | k + 1, i, st, y, h => by
    obtain ⟨x, hx, hi⟩ := h i (Nat.le_refl _) (by omega)
    obtain ⟨st1, e1, e2⟩ := body_law (r0 := r0) hx hi
    obtain ⟨y', st', e3⟩ := loop_law (r0 := r0) k (i + 1) st1 (some (.ref i)) fun j h1 h2 => by
      obtain ⟨z, hz, hj⟩ := h j (by omega) (by omega)
      exact ⟨z, hz, by rw [e2 j (by omega)]; exact hj⟩
    refine ⟨y', st', ?_⟩
    rw [List.range'_succ, List.map_cons]
    exact for_cons (r1 := [r0, some (.ref i), none]) rfl e1 e3
theorem all_by {ws ks l : List Str} (hk : keysOf ws = ks) (hp : ks.Perm l) (hl : l.Nodup) (hs : l.Pairwise fun a b => keyLe a b = true) : allSt ws = l :=
  sorted_one (all_nodup ws) hl (fun x => by rw [mem_all, hk]; exact hp.mem_iff) (all_sorted ws) hs
theorem g_ba : goodW ["b", "a"] = true := by decide +kernel
theorem g_aab : goodW ["aab", "aba"] = true := by decide +kernel
theorem a_ba : allSt ["b", "a"] = (["", "a", "b"] : List Str) := all_by (ks := ["", "b", "a"]) (by decide +kernel) (.cons _ (.swap _ _ _)) (by decide +kernel) (by decide +kernel)
theorem a_aab : allSt ["aab", "aba"] = (["", "a", "aa", "ab", "aab", "aba"] : List Str) := all_by (ks := ["", "a", "aa", "aab", "ab", "aba"]) (by decide +kernel) (.cons _ (.cons _ (.cons _ (.swap _ _ _)))) (by decide +kernel) (by decide +kernel)
theorem sm_of (l : List Str) (h : (l.all fun x => decide (x.length ≤ 7) && x.cps.toList.all fun c => decide (c < 128)) = true) : ∀ x ∈ l, Sm x := fun x hx => by
  have := List.all_eq_true.mp h x hx
  simp only [Bool.and_eq_true, decide_eq_true_eq, List.all_eq_true] at this
  exact this
theorem v_neL {st : Sto} {l m : List Str} (hl : ∀ x ∈ l, Sm x) (hm : ∀ x ∈ m, Sm x) (e : l = m) : gNe st (WL l) (WL m) = some (.bl false, st) := by
  unfold gNe
  rw [v_eqL hl hm, decide_eq_true e]
  rfl
theorem v_eqLT {st : Sto} {l m : List Str} (hl : ∀ x ∈ l, Sm x) (hm : ∀ x ∈ m, Sm x) (e : l = m) : gEq st (WL l) (WL m) = some (.bl true, st) := by rw [v_eqLe hl hm, decide_eq_true e]
theorem c_st {ws l : List Str} {f : SE} {r : Evr} {st st1 : Sto} (hg : goodW ws = true) (e : allSt ws = l) (h : f r st = some (WL ws, st1)) : eN (gF 1 (liftV m_states)) (aCons f aNil) r st = some (WL l, st1) := by
  rw [← e]
  exact v_N (v_one h) (v_gF rfl (v_V (nr1 ws) (w1_self hg)))
theorem c_en {ws l : List Str} {s : Str} {f : SE} {r : Evr} {st st1 : Sto} (hg : goodW ws = true) (hs : s ∈ allSt ws) (e : below ws s = l) (h : f r st = some (WL ws, st1)) : eN (gF 2 (liftV m_ends)) (aCons f (aCons (eC (.str s)) aNil)) r st = some (WL l, st1) := by
  rw [← e]
  exact v_N (v_cons h (v_one rfl)) (v_gF rfl (v_V (nr3 s ws) (m2_self hg hs)))
def last5 : Str := cutS "0aA'\"\\ " none (some 6) ++ "("
theorem g_five : goodW ["!~!~!~!", "~!~!~!~", "!!!!!!!", "~~~~~~~", last5] = true := by decide +kernel
theorem gr_ok (r : Evr) (st : Sto) : gr_law r st = some (.rt (.bl true) st) := by
  have l2 : ∀ a b : Str, toV (small (aCons (eC (.str a)) (aCons (eC (.str b)) aNil))) r st = some (WL [a, b], st) := fun a b => v_toV (v_small (v_cons rfl (v_one rfl)) (by show 2 ≤ sizeLine; decide))
  have l0 : toV (small aNil) r st = some (WL [], st) := v_toV (v_small v_nil (by decide))
  have five : toV (small (aCons (eC (.str "!~!~!~!")) (aCons (eC (.str "~!~!~!~")) (aCons (eC (.str "!!!!!!!")) (aCons (eC (.str "~~~~~~~")) (aCons (eOp2 gAdd (eSl (eC (.str "0aA'\"\\ ")) oNo (oE (eC (.int 6)))) (eC (.str "("))) aNil)))))) r st = some (WL ["!~!~!~!", "~!~!~!~", "!!!!!!!", "~~~~~~~", last5], st) := by
    refine v_toV (v_small (v_cons rfl (v_cons rfl (v_cons rfl (v_cons rfl (v_one (v_op (v_sl rfl rfl (v_oE rfl) (v_slS (by decide +kernel))) rfl ?_)))))) (by show 5 ≤ sizeLine; decide))
    show (if (cutS "0aA'\"\\ " none (some 6)).length + ("(" : Str).length ≤ sizeLine then some (Dt.str (cutS "0aA'\"\\ " none (some 6) ++ "("), st) else none) = _
    rw [if_pos (by decide +kernel)]
    rfl
  unfold gr_law
  refine s_seq (s_ifF (t_nT (t_B (v_N (v_one five) (v_gF rfl (v_V (nr1 _) (w1_self g_five)))))) rfl) ?_
  refine s_seq (r1 := r) (st1 := st) (s_ifF (t_orF (t_B (v_op (c_st g_ba a_ba (l2 _ _)) (v_toV (ds := (["", "a", "b"] : List Str).map Dt.str) (v_small (v_cons rfl (v_cons rfl (v_one rfl))) (by show 3 ≤ sizeLine; decide))) (v_neL (sm_of _ (by decide +kernel)) (sm_of _ (by decide +kernel)) rfl))) (t_B (v_op (c_en (l := []) g_aab (by rw [a_aab]; decide +kernel) (by unfold below; rw [a_aab]; decide +kernel) (l2 _ _)) l0 (v_neL (by simp) (by simp) rfl)))) rfl) ?_
  exact s_ret (v_and (v_op (c_st g_aab a_aab (l2 _ _)) (v_toV (ds := (["", "a", "aa", "ab", "aab", "aba"] : List Str).map Dt.str) (v_small (v_cons rfl (v_cons rfl (v_cons rfl (v_cons rfl (v_cons rfl (v_one rfl)))))) (by show 6 ≤ sizeLine; decide))) (v_eqLT (sm_of _ (by decide +kernel)) (sm_of _ (by decide +kernel)) rfl))
    (v_op (c_en (l := ["", "a"]) g_aab (by rw [a_aab]; decide +kernel) (by unfold below; rw [a_aab]; decide +kernel) (l2 _ _)) (l2 _ _) (v_eqLT (sm_of _ (by decide +kernel)) (sm_of _ (by decide +kernel)) rfl)))
theorem law_ok (ns : List Int) : ∃ st', gLaw 1 2 6 fz_law fd_law gb_law gr_law ns (List.replicate 3 none) [] = some (.rt (.bl true) st') := by
  let cs : List Int := ns.take 6 ++ [0]
  have hl : cs.length ≤ 7 := by show (ns.take 6 ++ [0]).length ≤ 7; simp; omega
  have hz := line_ge
  rw [show List.replicate 3 (none : Option Dt) = [none, none, none] from rfl]
  have e1 : eOp2 gAdd (eScr 6 ns) fz_law [none, none, none] [] = some (.lst (cs.map Dt.int), []) := by
    have c : cutL (ns.map Dt.int) none (some 6) = (ns.take 6).map Dt.int := cutL_map Dt.int ns 6
    refine v_op (x := .lst ((ns.take 6).map Dt.int)) (st1 := []) (by unfold eScr; rw [c]) (y := .lst [.int 0]) (st2 := []) rfl ?_
    show (if ((ns.take 6).map Dt.int).length + [Dt.int 0].length ≤ sizeLine then some (Dt.lst ((ns.take 6).map Dt.int ++ [Dt.int 0]), ([] : Sto)) else none) = _
    rw [if_pos (by rw [List.length_map, List.length_take]; show _ + 1 ≤ _; omega)]
    show _ = some (Dt.lst ((ns.take 6 ++ [0]).map Dt.int), [])
    rw [List.map_append]
    rfl
  have e2 : lc (iE itL (eOp2 gAdd (eScr 6 ns) fz_law)) [2] (kName 2) cYes fd_law [none, none, none] [] = some ((List.range' 0 cs.length).map Dt.ref, dst cs) := by
    unfold lc
    rw [v_iE e1 (xs := cs.map Dt.int) rfl]
    have d := draws_lc (r0 := none) (r1 := none) cs []
    show ((lcGo (kName 2) cYes fd_law [none, none, none] (cs.map Dt.int) (dst [])).bind fun z => if z.1.length ≤ sizeLine then some z else none) = _
    rw [d]
    refine if_pos ?_
    rw [List.length_map, List.length_range']
    omega
  obtain ⟨y', st', e3⟩ := loop_law (r0 := none) cs.length 0 (dst cs) none fun j _ h2 => by
    have hj : j < cs.length := by omega
    refine ⟨drw0 cs[j], rfl, ?_⟩
    rw [List.getElem?_map, List.getElem?_eq_getElem hj]
    rfl
  refine ⟨st', ?_⟩
  unfold gLaw
  exact s_seq (s_for (v_iE (v_toV e2) rfl) e3) (gr_ok _ _)
end K01

set_option Elab.async false
set_option linter.all false
set_option maxRecDepth 100000
set_option maxHeartbeats 0
/-! printed by ph.py: the head's facts by names, the defs joined. -/
namespace K01
open PySem PySem.Spec PyProof.Rows L2 HB
def d_is_letter : He.DefD := ⟨("is_letter", none), "is_letter", "is_letter", defArgs s_is_letter, defBody s_is_letter, defScope s_is_letter, [], []⟩
def d_check_words : He.DefD := ⟨("check_words", none), "check_words", "check_words", defArgs s_check_words, defBody s_check_words, defScope s_check_words, [], []⟩
def d_all_states : He.DefD := ⟨("all_states", none), "all_states", "all_states", defArgs s_all_states, defBody s_all_states, defScope s_all_states, [], []⟩
def d_letters_behind : He.DefD := ⟨("letters_behind", none), "letters_behind", "letters_behind", defArgs s_letters_behind, defBody s_letters_behind, defScope s_letters_behind, [], []⟩
def d_check_state : He.DefD := ⟨("check_state", none), "check_state", "check_state", defArgs s_check_state, defBody s_check_state, defScope s_check_state, [], []⟩
def d_ends_in : He.DefD := ⟨("ends_in", none), "ends_in", "ends_in", defArgs s_ends_in, defBody s_ends_in, defScope s_ends_in, [], []⟩
def d_states : He.DefD := ⟨("states", none), "states", "states", defArgs s_states, defBody s_states, defScope s_states, [], []⟩
def d_goes_on : He.DefD := ⟨("goes_on", none), "goes_on", "goes_on", defArgs s_goes_on, defBody s_goes_on, defScope s_goes_on, [], []⟩
def d_ends : He.DefD := ⟨("ends", none), "ends", "ends", defArgs s_ends, defBody s_ends, defScope s_ends, [], []⟩
def d__law_draws : He.DefD := ⟨("_law_draws", none), "_law_draws", "_law_draws", defArgs s__law_draws, defBody s__law_draws, defScope s__law_draws, [], []⟩
def d__law_next : He.DefD := ⟨("_law_next", none), "_law_next", "_law_next", defArgs s__law_next, defBody s__law_next, defScope s__law_next, [], []⟩
def d__law_words : He.DefD := ⟨("_law_words", none), "_law_words", "_law_words", defArgs s__law_words, defBody s__law_words, defScope s__law_words, [], []⟩
def d__law_states : He.DefD := ⟨("_law_states", none), "_law_states", "_law_states", defArgs s__law_states, defBody s__law_states, defScope s__law_states, [], []⟩
def d__law_behind : He.DefD := ⟨("_law_behind", none), "_law_behind", "_law_behind", defArgs s__law_behind, defBody s__law_behind, defScope s__law_behind, [], []⟩
def d__law_right : He.DefD := ⟨("_law_right", none), "_law_right", "_law_right", defArgs s__law_right, defBody s__law_right, defScope s__law_right, [], []⟩
def d_law : He.DefD := ⟨("law", none), "law", "law", defArgs s_law, defBody s_law, defScope s_law, [], []⟩
def fns : List He.DefD := [d_is_letter, d_check_words, d_all_states, d_letters_behind, d_check_state, d_ends_in, d_states, d_goes_on, d_ends, d__law_draws, d__law_next, d__law_words, d__law_states, d__law_behind, d__law_right, d_law]
def fas : List He.Fa := [.glo "is_letter", .glo "check_words", .glo "all_states", .glo "letters_behind", .glo "check_state", .glo "ends_in", .glo "states", .glo "goes_on", .glo "ends", .glo "_law_draws", .glo "_law_next", .glo "_law_words", .glo "_law_states", .glo "_law_behind", .glo "_law_right", .glo "law", .free "all", .free "enumerate", .free "int", .free "isinstance", .free "len", .free "list", .free "range", .free "repr", .free "set", .free "sorted", .free "str", .int "MOST_LETTERS" 7, .int "MOST_WORDS" 5]
abbrev hk : PySem.W.Hook := hookT 2 fas fns ["all_states"]
def ob (s : PySem.W.SharedT) : He.AlD × Bool := obT 2 fas fns ["all_states"] (HandSHeadRun.getT s)
theorem ob_eq (s : PySem.W.SharedT) : ob s = hk.obs s.abs := obT_eq (HandSHeadRun.getT_eq s)
abbrev R : PySem.W.OpenRow := PySem.W.OpenLaw.row PySem.Challenge.rw_halfback_k01_states
def loose : List Str := (["InvalidWords", "UnknownState", "MOST_WORDS", "MOST_LETTERS", "is_letter", "check_words", "all_states", "letters_behind", "check_state", "ends_in", "states", "goes_on", "ends", "_law_draws", "_law_next", "_law_words", "_law_states", "_law_behind", "_law_right"] : List Str)
theorem run (w : World) : HandSHeadRun.RunEq R (PySem.W.view R.prog [22]) hk ob 4000 loose w := by
  intro os
  kernel_rfl
theorem facts {w : World} {K : PySem.W.Frag} {h : Heap} {mg : Str → Option Value} {f : Addr} (X : K.In h) (G : h.Ns mainGlobals mg) (hfa : mg ("law" : Str) = some (.ref f)) (c : He.SaysD fas fns K) (tb : ∀ x ∈ (["all_states"] : List Str), ∃ c R, TabD K h x c R) :
    LawAt PySem.Challenge.rw_halfback_k01_states w K 7 63 "_law_script" mg f h := by
  obtain ⟨fd_is_letter, D_is_letter⟩ := c.def_ 0 (d := d_is_letter) rfl
  obtain ⟨fd_check_words, D_check_words⟩ := c.def_ 1 (d := d_check_words) rfl
  obtain ⟨fd_all_states, D_all_states⟩ := c.def_ 2 (d := d_all_states) rfl
  obtain ⟨fd_letters_behind, D_letters_behind⟩ := c.def_ 3 (d := d_letters_behind) rfl
  obtain ⟨fd_check_state, D_check_state⟩ := c.def_ 4 (d := d_check_state) rfl
  obtain ⟨fd_ends_in, D_ends_in⟩ := c.def_ 5 (d := d_ends_in) rfl
  obtain ⟨fd_states, D_states⟩ := c.def_ 6 (d := d_states) rfl
  obtain ⟨fd_goes_on, D_goes_on⟩ := c.def_ 7 (d := d_goes_on) rfl
  obtain ⟨fd_ends, D_ends⟩ := c.def_ 8 (d := d_ends) rfl
  obtain ⟨fd__law_draws, D__law_draws⟩ := c.def_ 9 (d := d__law_draws) rfl
  obtain ⟨fd__law_next, D__law_next⟩ := c.def_ 10 (d := d__law_next) rfl
  obtain ⟨fd__law_words, D__law_words⟩ := c.def_ 11 (d := d__law_words) rfl
  obtain ⟨fd__law_states, D__law_states⟩ := c.def_ 12 (d := d__law_states) rfl
  obtain ⟨fd__law_behind, D__law_behind⟩ := c.def_ 13 (d := d__law_behind) rfl
  obtain ⟨fd__law_right, D__law_right⟩ := c.def_ 14 (d := d__law_right) rfl
  obtain ⟨fd_law, D_law⟩ := c.def_ 15 (d := d_law) rfl
  have m_is_letter_ : mg "is_letter" = some (.ref (He.ga K "is_letter")) := He.glo_ok X G (c.fact 0 (f := .glo "is_letter") rfl)
  have m_check_words_ : mg "check_words" = some (.ref (He.ga K "check_words")) := He.glo_ok X G (c.fact 1 (f := .glo "check_words") rfl)
  have m_all_states_ : mg "all_states" = some (.ref (He.ga K "all_states")) := He.glo_ok X G (c.fact 2 (f := .glo "all_states") rfl)
  have m_letters_behind_ : mg "letters_behind" = some (.ref (He.ga K "letters_behind")) := He.glo_ok X G (c.fact 3 (f := .glo "letters_behind") rfl)
  have m_check_state_ : mg "check_state" = some (.ref (He.ga K "check_state")) := He.glo_ok X G (c.fact 4 (f := .glo "check_state") rfl)
  have m_ends_in_ : mg "ends_in" = some (.ref (He.ga K "ends_in")) := He.glo_ok X G (c.fact 5 (f := .glo "ends_in") rfl)
  have m_states_ : mg "states" = some (.ref (He.ga K "states")) := He.glo_ok X G (c.fact 6 (f := .glo "states") rfl)
  have m_goes_on_ : mg "goes_on" = some (.ref (He.ga K "goes_on")) := He.glo_ok X G (c.fact 7 (f := .glo "goes_on") rfl)
  have m_ends_ : mg "ends" = some (.ref (He.ga K "ends")) := He.glo_ok X G (c.fact 8 (f := .glo "ends") rfl)
  have m__law_draws_ : mg "_law_draws" = some (.ref (He.ga K "_law_draws")) := He.glo_ok X G (c.fact 9 (f := .glo "_law_draws") rfl)
  have m__law_next_ : mg "_law_next" = some (.ref (He.ga K "_law_next")) := He.glo_ok X G (c.fact 10 (f := .glo "_law_next") rfl)
  have m__law_words_ : mg "_law_words" = some (.ref (He.ga K "_law_words")) := He.glo_ok X G (c.fact 11 (f := .glo "_law_words") rfl)
  have m__law_states_ : mg "_law_states" = some (.ref (He.ga K "_law_states")) := He.glo_ok X G (c.fact 12 (f := .glo "_law_states") rfl)
  have m__law_behind_ : mg "_law_behind" = some (.ref (He.ga K "_law_behind")) := He.glo_ok X G (c.fact 13 (f := .glo "_law_behind") rfl)
  have m__law_right_ : mg "_law_right" = some (.ref (He.ga K "_law_right")) := He.glo_ok X G (c.fact 14 (f := .glo "_law_right") rfl)
  have m_law_ : mg "law" = some (.ref (He.ga K "law")) := He.glo_ok X G (c.fact 15 (f := .glo "law") rfl)
  have n_all : mg "all" = none := He.free_ok X G (c.fact 16 (f := .free "all") rfl)
  have n_enumerate : mg "enumerate" = none := He.free_ok X G (c.fact 17 (f := .free "enumerate") rfl)
  have n_int : mg "int" = none := He.free_ok X G (c.fact 18 (f := .free "int") rfl)
  have n_isinstance : mg "isinstance" = none := He.free_ok X G (c.fact 19 (f := .free "isinstance") rfl)
  have n_len : mg "len" = none := He.free_ok X G (c.fact 20 (f := .free "len") rfl)
  have n_list : mg "list" = none := He.free_ok X G (c.fact 21 (f := .free "list") rfl)
  have n_range : mg "range" = none := He.free_ok X G (c.fact 22 (f := .free "range") rfl)
  have n_repr : mg "repr" = none := He.free_ok X G (c.fact 23 (f := .free "repr") rfl)
  have n_set : mg "set" = none := He.free_ok X G (c.fact 24 (f := .free "set") rfl)
  have n_sorted : mg "sorted" = none := He.free_ok X G (c.fact 25 (f := .free "sorted") rfl)
  have n_str : mg "str" = none := He.free_ok X G (c.fact 26 (f := .free "str") rfl)
  obtain ⟨t_MOST_LETTERS, i_MOST_LETTERS⟩ := He.int_ok X G (c.fact 27 (f := .int "MOST_LETTERS" 7) rfl)
  obtain ⟨t_MOST_WORDS, i_MOST_WORDS⟩ := He.int_ok X G (c.fact 28 (f := .int "MOST_WORDS" 5) rfl)
  obtain ⟨c_all_states, R_all_states, T_all_states⟩ := tb "all_states" (by simp)
  have e := hfa.symm.trans m_law_
  cases e
  have bl := FunD.bindsA (ps := ["_law_script"]) D_law fun _ _ _ _ _ _ us hl => match us, hl with | [_], _ => rfl
  refine ⟨fd_law, [(c_all_states, R_all_states)], SpL [(R_all_states, ("all_states" : Str) ++ ".<locals>." ++ "<lambda>")] K fun _ => True, ?_, ?_, ?_, fun s u => bl s [u] rfl, fun H a ns _ _ hH hS => ⟨a, ns, rfl, ?_, hS, trivial, fun _ => rfl⟩, fun base KB GB TB => ?_⟩
  · exact fun p hp => by simp only [List.mem_singleton] at hp; subst hp; exact T_all_states.tab
  · exact fun p hp => by simp only [List.mem_singleton] at hp; subst hp; exact T_all_states.no
  · exact fun p hp => by simp only [List.mem_singleton] at hp; subst hp; exact T_all_states.hd
  · intro p hp
    simp only [List.mem_singleton] at hp; subst hp
    exact LamX.TabS.nil (hH (c_all_states, R_all_states) (by simp))
  have TB1 := TB (c_all_states, R_all_states) (by simp)
  have hc1 : fd_all_states.code = .ref c_all_states := by
    obtain ⟨oc, od, fd', osl, e1, e2⟩ := T_all_states.fn
    obtain ⟨oc2, od2, dV, kV, doc, pm, an, cdv, ct, osl2, e3, lk, _⟩ := D_all_states.ex
    have lk' : K.lookup (He.ga K "all_states") = some ⟨oc2, od2, .func fd_all_states, osl2⟩ := lk
    rw [e1] at lk'
    cases lk'
    exact e2
  have G_is_letter := ok_is_letter (T := [(R_all_states, ("all_states" : Str) ++ ".<locals>." ++ "<lambda>")]) (P := PySem.Challenge.pw_halfback_k01_states) (w := w) (mg := mg) (base := base) D_is_letter 
  have cV_is_letter := GP.of D_is_letter m_is_letter_ (G_is_letter.byV leV_is_letter) (fun _ _ _ _ _ _ us hl => match us, hl with | [_], _ => rfl)
  have G_check_words := ok_check_words (T := [(R_all_states, ("all_states" : Str) ++ ".<locals>." ++ "<lambda>")]) (P := PySem.Challenge.pw_halfback_k01_states) (w := w) (mg := mg) (base := base) D_check_words cV_is_letter n_all n_enumerate n_isinstance n_len n_list n_str i_MOST_LETTERS i_MOST_WORDS
  have cV_check_words := GP.of D_check_words m_check_words_ (G_check_words.byV leV_check_words) (fun _ _ _ _ _ _ us hl => match us, hl with | [_], _ => rfl)
  have G_all_states := ok_all_states (T := [(R_all_states, ("all_states" : Str) ++ ".<locals>." ++ "<lambda>")]) (P := PySem.Challenge.pw_halfback_k01_states) (w := w) (mg := mg) (base := base) D_all_states TB1 hc1 (by simp) (by simp) n_len n_range n_sorted
  have cR_all_states := GP.of D_all_states m_all_states_ (G_all_states.byR leR_all_states) (fun _ _ _ _ _ _ us hl => match us, hl with | [_], _ => rfl)
  have cV_all_states := GP.of D_all_states m_all_states_ (G_all_states.byV leV_all_states) (fun _ _ _ _ _ _ us hl => match us, hl with | [_], _ => rfl)
  have G_letters_behind := ok_letters_behind (T := [(R_all_states, ("all_states" : Str) ++ ".<locals>." ++ "<lambda>")]) (P := PySem.Challenge.pw_halfback_k01_states) (w := w) (mg := mg) (base := base) D_letters_behind cV_all_states
  have craw_letters_behind := GP.of D_letters_behind m_letters_behind_ G_letters_behind (fun _ _ _ _ _ _ us hl => match us, hl with | [_], _ => rfl)
  have G_check_state := ok_check_state (T := [(R_all_states, ("all_states" : Str) ++ ".<locals>." ++ "<lambda>")]) (P := PySem.Challenge.pw_halfback_k01_states) (w := w) (mg := mg) (base := base) D_check_state cV_all_states n_isinstance n_str
  have cV_check_state := GP.of D_check_state m_check_state_ (G_check_state.byV leV_check_state) (fun _ _ _ _ _ _ us hl => match us, hl with | [_, _], _ => rfl)
  have G_ends_in := ok_ends_in (T := [(R_all_states, ("all_states" : Str) ++ ".<locals>." ++ "<lambda>")]) (P := PySem.Challenge.pw_halfback_k01_states) (w := w) (mg := mg) (base := base) D_ends_in cV_all_states n_len
  have cR_ends_in := GP.of D_ends_in m_ends_in_ (G_ends_in.byR leR_ends_in) (fun _ _ _ _ _ _ us hl => match us, hl with | [_, _], _ => rfl)
  have G_states := ok_states (T := [(R_all_states, ("all_states" : Str) ++ ".<locals>." ++ "<lambda>")]) (P := PySem.Challenge.pw_halfback_k01_states) (w := w) (mg := mg) (base := base) D_states cV_check_words cR_all_states
  have cR_states := GCal.of D_states m_states_ (G_states.byR leR_states) (fun _ _ _ _ _ _ us hl => match us, hl with | [_], _ => rfl) (fun _ _ _ _ _ _ p ws hl hp => by rw [perm_one hp]; exact match ws, hl with | [_], _ => rfl)
  have cV_states := GCal.of D_states m_states_ (G_states.byV leV_states) (fun _ _ _ _ _ _ us hl => match us, hl with | [_], _ => rfl) (fun _ _ _ _ _ _ p ws hl hp => by rw [perm_one hp]; exact match ws, hl with | [_], _ => rfl)
  have G_goes_on := ok_goes_on (T := [(R_all_states, ("all_states" : Str) ++ ".<locals>." ++ "<lambda>")]) (P := PySem.Challenge.pw_halfback_k01_states) (w := w) (mg := mg) (base := base) D_goes_on cV_check_words cV_check_state craw_letters_behind
  have cR_goes_on := GCal.of D_goes_on m_goes_on_ (G_goes_on.byR leR_goes_on) (fun _ _ _ _ _ _ us hl => match us, hl with | [_, _], _ => rfl) (fun _ _ _ _ _ _ p ws hl hp => by rcases perm_two hp with e | e <;> rw [e] <;> exact match ws, hl with | [_, _], _ => rfl)
  have cV_goes_on := GCal.of D_goes_on m_goes_on_ (G_goes_on.byV leV_goes_on) (fun _ _ _ _ _ _ us hl => match us, hl with | [_, _], _ => rfl) (fun _ _ _ _ _ _ p ws hl hp => by rcases perm_two hp with e | e <;> rw [e] <;> exact match ws, hl with | [_, _], _ => rfl)
  have G_ends := ok_ends (T := [(R_all_states, ("all_states" : Str) ++ ".<locals>." ++ "<lambda>")]) (P := PySem.Challenge.pw_halfback_k01_states) (w := w) (mg := mg) (base := base) D_ends cV_check_words cV_check_state cR_ends_in
  have cR_ends := GCal.of D_ends m_ends_ (G_ends.byR leR_ends) (fun _ _ _ _ _ _ us hl => match us, hl with | [_, _], _ => rfl) (fun _ _ _ _ _ _ p ws hl hp => by rcases perm_two hp with e | e <;> rw [e] <;> exact match ws, hl with | [_, _], _ => rfl)
  have cV_ends := GCal.of D_ends m_ends_ (G_ends.byV leV_ends) (fun _ _ _ _ _ _ us hl => match us, hl with | [_, _], _ => rfl) (fun _ _ _ _ _ _ p ws hl hp => by rcases perm_two hp with e | e <;> rw [e] <;> exact match ws, hl with | [_, _], _ => rfl)
  have G__law_draws := ok__law_draws (T := [(R_all_states, ("all_states" : Str) ++ ".<locals>." ++ "<lambda>")]) (P := PySem.Challenge.pw_halfback_k01_states) (w := w) (mg := mg) (base := base) D__law_draws n_int
  have cR__law_draws := GP.of D__law_draws m__law_draws_ (G__law_draws.byR leR__law_draws) (fun _ _ _ _ _ _ us hl => match us, hl with | [_], _ => rfl)
  have G__law_next := ok__law_next (T := [(R_all_states, ("all_states" : Str) ++ ".<locals>." ++ "<lambda>")]) (P := PySem.Challenge.pw_halfback_k01_states) (w := w) (mg := mg) (base := base) D__law_next n_int
  have cE__law_next := GP.of D__law_next m__law_next_ (G__law_next.byE leE__law_next) (fun _ _ _ _ _ _ us hl => match us, hl with | [_], _ => rfl)
  have G__law_words := ok__law_words (T := [(R_all_states, ("all_states" : Str) ++ ".<locals>." ++ "<lambda>")]) (P := PySem.Challenge.pw_halfback_k01_states) (w := w) (mg := mg) (base := base) D__law_words cE__law_next n_int n_len n_range
  have cE__law_words := GP.of D__law_words m__law_words_ (G__law_words.byE leE__law_words) (fun _ _ _ _ _ _ us hl => match us, hl with | [_, _], _ => rfl)
  have G__law_states := ok__law_states (T := [(R_all_states, ("all_states" : Str) ++ ".<locals>." ++ "<lambda>")]) (P := PySem.Challenge.pw_halfback_k01_states) (w := w) (mg := mg) (base := base) D__law_states n_len n_range n_set n_sorted
  have cV__law_states := GP.of D__law_states m__law_states_ (G__law_states.byV leV__law_states) (fun _ _ _ _ _ _ us hl => match us, hl with | [_], _ => rfl)
  have G__law_behind := ok__law_behind (T := [(R_all_states, ("all_states" : Str) ++ ".<locals>." ++ "<lambda>")]) (P := PySem.Challenge.pw_halfback_k01_states) (w := w) (mg := mg) (base := base) D__law_behind n_len n_set n_sorted
  have cV__law_behind := GP.of D__law_behind m__law_behind_ (G__law_behind.byV leV__law_behind) (fun _ _ _ _ _ _ us hl => match us, hl with | [_, _], _ => rfl)
  have G__law_right := ok__law_right (T := [(R_all_states, ("all_states" : Str) ++ ".<locals>." ++ "<lambda>")]) (P := PySem.Challenge.pw_halfback_k01_states) (w := w) (mg := mg) (base := base) D__law_right cV__law_states cR_states cV__law_behind cR_goes_on cR_ends cV_goes_on cV_ends cV_states n_len n_repr
  have cV__law_right := GP.of D__law_right m__law_right_ (G__law_right.byV leV__law_right) (fun _ _ _ _ _ _ us hl => match us, hl with | [_], _ => rfl)
  exact ok_law D_law cR__law_draws cV__law_right cE__law_words cV_ends cV_states fun ns _ => law_ok ns
end K01
open PySem PySem.W PySem.Calls PyProof.Rows
theorem PySem.Challenge.cw_halfback_k01_states_holds : PySem.Challenge.rw_halfback_k01_states.Holds := by
  w_on; o_law
  refine HandSHeadRun.head_any (r := OpenLaw.row PySem.Challenge.rw_halfback_k01_states) (q := view (OpenLaw.row PySem.Challenge.rw_halfback_k01_states).prog [22]) (H := K01.hk) (ob := K01.ob) (M := 4000) (loose := K01.loose) (d := HandSHeadRun.topDef (OpenLaw.row PySem.Challenge.rw_halfback_k01_states).prog 22) (kwd := []) K01.ob_eq
    (by kernel_rfl) (fun s => by kernel_rfl) K01.run (by kernel_rfl) (by kernel_rfl) (by kernel_rfl) (by rfl) (by first | assumption | decide +kernel) (by decide +kernel) ⟨rfl, rfl, rfl, rfl, rfl, by decide +kernel⟩ ?hw ?hc
  case hw => w_witness2
  case hc =>
    refine HB.walk_goE (l := PySem.Challenge.rw_halfback_k01_states) (n := 63) (k := 7) (x := "_law_script") rfl (by decide) (by kernel_rfl) ⟨rfl, by decide, by decide⟩ ?F
    intro w mg fa h Y G hmg0
    obtain ⟨K, KX, c, tb⟩ := Y
    have hmg : mg ("law" : PySem.Str) = some (.ref fa) := by
      have e : (HandSHeadRun.topDef (OpenLaw.row PySem.Challenge.rw_halfback_k01_states).prog 22).name = ("law" : PySem.Str) := by kernel_rfl
      rw [← e]
      exact hmg0
    exact ⟨K, KX, K01.facts KX G hmg c tb⟩

