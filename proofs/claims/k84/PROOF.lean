import PyProof.Rows.All
import Wide.All
import OpenK.AllK
import Wide.FinOn
import HandS.ForMost
import HandS.Walk
import HandS.Lambda
import HandS.Flow
import HandS.Defaults
import HandS.IsInst
import HandS.DictComp
import PyProof.ReprNest
import PyProof.ReprDict
import HandS.Set
import HandS.SetFor
import HandS.SetTxt0
import HandS.Strs
import HandS.More
import KE.SortData
import KE.SortKeyHeap
import HandS.SortKw
import HandS.EndTab
import HandS.Words
import HandS.Head0
import HandS.Head1
import HandS.Head2
import HandS.HeadEnd
import HandS.HeadHook1
import HandS.HeadHook2
import HandS.DeepEq
import HandS.Conv
import HandS.ListItems
import HandS.Style
import HandS.Finally
import HandS.Text
import PyProof.Rows.StrJoinMade
import PySem.Challenge.RW_halfback_k84_whole_from_the_left
set_option Elab.async false
set_option linter.all false
set_option maxRecDepth 100000
set_option maxHeartbeats 1000000
/-! HB, part a: data told of the heap, worlds of live objects, the judgements DE, DT, DA, DS. -/
namespace HB
open PySem PySem.Spec PyProof.Rows L2

/-- plain data; ref k: the k-th live object -/
inductive Dt where
  | non | bl (b : Bool) | int (i : Int) | str (x : Str) | ref (k : Nat)
  | lst (ds : List Dt) | tup (ds : List Dt) | dic (ks : List Key) (ds : List Dt)

abbrev Sto := List (Option Dt)

mutual
def Den (L : List Addr) (B : Addr → Prop) (H : Hp) : Dt → V → Prop
  | .non, v => v = .non
  | .bl b, v => v = .bl b
  | .int i, v => v = .int i
  | .str x, v => v = .str x
  | .ref k, v => ∃ a, L[k]? = some a ∧ v = .ref a
  | .lst ds, v => ∃ a vs, v = .ref a ∧ ¬ B a ∧ H a = some (.lst vs) ∧ Dens L B H ds vs
  | .tup ds, v => ∃ a vs, v = .ref a ∧ H a = some (.tup vs) ∧ Dens L B H ds vs
  | .dic ks ds, v => ∃ a vs, v = .ref a ∧ ¬ B a ∧ Rd H a (.dK (ks.zip vs)) ∧ ks.length = vs.length ∧ Dens L B H ds vs
def Dens (L : List Addr) (B : Addr → Prop) (H : Hp) : List Dt → List V → Prop
  | [], vs => vs = []
  | d :: ds, vs => ∃ v r, vs = v :: r ∧ Den L B H d v ∧ Dens L B H ds r
end

theorem Dens.cons {L : List Addr} {B : Addr → Prop} {H : Hp} {d : Dt} {ds : List Dt} {v : V} {vs : List V} (h : Den L B H d v) (t : Dens L B H ds vs) : Dens L B H (d :: ds) (v :: vs) := by
  unfold Dens; exact ⟨v, vs, rfl, h, t⟩
theorem Dens.nil {L : List Addr} {B : Addr → Prop} {H : Hp} : Dens L B H [] [] := by unfold Dens; rfl
theorem Dens.uncons {L : List Addr} {B : Addr → Prop} {H : Hp} {d : Dt} {ds : List Dt} {vs : List V} (h : Dens L B H (d :: ds) vs) : ∃ v r, vs = v :: r ∧ Den L B H d v ∧ Dens L B H ds r := by
  unfold Dens at h; exact h
theorem Dens.len {L : List Addr} {B : Addr → Prop} {H : Hp} : ∀ {ds : List Dt} {vs : List V}, Dens L B H ds vs → ds.length = vs.length
  | [], vs, h => by unfold Dens at h; subst h; rfl
  | d :: ds, vs, h => by
    obtain ⟨v, r, rfl, _, t⟩ := h.uncons
    simp [Dens.len t]
theorem Dens.get {L : List Addr} {B : Addr → Prop} {H : Hp} : ∀ {ds : List Dt} {vs : List V} {i : Nat} {d : Dt}, Dens L B H ds vs → ds[i]? = some d → ∃ v, vs[i]? = some v ∧ Den L B H d v
  | [], _, _, _, _, e => by simp at e
  | d :: ds, vs, 0, x, h, e => by
    obtain ⟨v, r, rfl, q, _⟩ := h.uncons
    simp at e; subst e
    exact ⟨v, rfl, q⟩
  | d :: ds, vs, i + 1, x, h, e => by
    obtain ⟨v, r, rfl, _, t⟩ := h.uncons
    obtain ⟨u, h1, h2⟩ := Dens.get (i := i) t (by simpa using e)
    exact ⟨u, by simpa using h1, h2⟩
theorem Dens.getV {L : List Addr} {B : Addr → Prop} {H : Hp} {ds : List Dt} {vs : List V} {i : Nat} {v : V} (h : Dens L B H ds vs) (e : vs[i]? = some v) : ∃ d, ds[i]? = some d ∧ Den L B H d v := by
  have hl := h.len
  have hi : i < ds.length := by
    have := (List.getElem?_eq_some_iff.mp e).1
    omega
  obtain ⟨u, h1, h2⟩ := h.get (List.getElem?_eq_getElem hi)
  rw [e] at h1; cases h1
  exact ⟨_, List.getElem?_eq_getElem hi, h2⟩
theorem Dens.append {L : List Addr} {B : Addr → Prop} {H : Hp} : ∀ {ds es : List Dt} {vs us : List V}, Dens L B H ds vs → Dens L B H es us → Dens L B H (ds ++ es) (vs ++ us)
  | [], _, vs, _, h, t => by unfold Dens at h; subst h; exact t
  | d :: ds, es, vs, us, h, t => by
    obtain ⟨v, r, rfl, q, h⟩ := h.uncons
    exact .cons q (Dens.append h t)
theorem Dens.drop {L : List Addr} {B : Addr → Prop} {H : Hp} : ∀ {ds : List Dt} {vs : List V} (n : Nat), Dens L B H ds vs → Dens L B H (ds.drop n) (vs.drop n)
  | _, _, 0, h => h
  | [], vs, n + 1, h => by unfold Dens at h; subst h; exact .nil
  | d :: ds, vs, n + 1, h => by
    obtain ⟨v, r, rfl, _, t⟩ := h.uncons
    exact Dens.drop n t
theorem Dens.take {L : List Addr} {B : Addr → Prop} {H : Hp} : ∀ {ds : List Dt} {vs : List V} (n : Nat), Dens L B H ds vs → Dens L B H (ds.take n) (vs.take n)
  | _, _, 0, h => .nil
  | [], vs, n + 1, h => by unfold Dens at h; subst h; exact .nil
  | d :: ds, vs, n + 1, h => by
    obtain ⟨v, r, rfl, q, t⟩ := h.uncons
    exact .cons q (Dens.take n t)
theorem Dens.set {L : List Addr} {B : Addr → Prop} {H : Hp} {d : Dt} {v : V} (q : Den L B H d v) : ∀ {ds : List Dt} {vs : List V} (n : Nat), Dens L B H ds vs → Dens L B H (ds.set n d) (vs.set n v)
  | [], vs, _, h => by unfold Dens at h; subst h; exact .nil
  | e :: ds, vs, 0, h => by
    obtain ⟨w, r, rfl, _, t⟩ := h.uncons
    exact .cons q t
  | e :: ds, vs, n + 1, h => by
    obtain ⟨w, r, rfl, p, t⟩ := h.uncons
    exact .cons p (Dens.set q n t)
theorem Dens.reverse {L : List Addr} {B : Addr → Prop} {H : Hp} : ∀ {ds : List Dt} {vs : List V}, Dens L B H ds vs → Dens L B H ds.reverse vs.reverse
  | [], vs, h => by unfold Dens at h; subst h; exact .nil
  | d :: ds, vs, h => by
    obtain ⟨v, r, rfl, q, t⟩ := h.uncons
    rw [List.reverse_cons, List.reverse_cons]
    exact (Dens.reverse t).append (.cons q .nil)

theorem rd_ne {H : Hp} {a : Addr} {u : HO} (h : Rd H a u) : H a ≠ none := by
  rcases h with h | ⟨x, h⟩ <;> rw [h] <;> simp
theorem rd_of {H H' : Hp} {a : Addr} {u : HO} (h : Rd H a u) (k : ∀ o, H a = some o → H' a = some o) : Rd H' a u := by
  rcases h with h | ⟨x, h⟩
  · exact .inl (k _ h)
  · exact .inr ⟨x, k _ h⟩

/-- the k-th object of L is live -/
def Liv (L : List Addr) (st : Sto) (a : Addr) : Prop := ∃ (k : Nat) (d : Dt), L[k]? = some a ∧ st[k]? = some (some d)
def Bad (Z : Addr → Prop) (L : List Addr) (st : Sto) (a : Addr) : Prop := Z a ∨ Liv L st a
def OwnO (L : List Addr) (B : Addr → Prop) (H : Hp) (o : HO) : Dt → Prop
  | .lst ds => ∃ vs, o = .lst vs ∧ Dens L B H ds vs
  | .dic ks ds => ∃ vs, o = .dK (ks.zip vs) ∧ ks.length = vs.length ∧ Dens L B H ds vs
  | _ => False
theorem OwnO.imp {L L' : List Addr} {B B' : Addr → Prop} {H H' : Hp} {o : HO} (f : ∀ ds vs, Dens L B H ds vs → Dens L' B' H' ds vs) : ∀ {d : Dt}, OwnO L B H o d → OwnO L' B' H' o d
  | .lst _, h => by obtain ⟨vs, e, t⟩ := h; exact ⟨vs, e, f _ _ t⟩
  | .dic _ _, h => by obtain ⟨vs, e, el, t⟩ := h; exact ⟨vs, e, el, f _ _ t⟩
theorem OwnO.kind {L : List Addr} {B : Addr → Prop} {H : Hp} {o : HO} : ∀ {d : Dt}, OwnO L B H o d → (∃ xs, o = .lst xs) ∨ ∃ kvs, o = .dK kvs
  | .lst _, h => by obtain ⟨vs, e, t⟩ := h; exact .inl ⟨vs, e⟩
  | .dic _ _, h => by obtain ⟨vs, e, el, t⟩ := h; exact .inr ⟨_, e⟩
def OwnAt (L : List Addr) (B : Addr → Prop) (H : Hp) (a : Addr) (d : Dt) : Prop := ∃ o, H a = some o ∧ OwnO L B H o d
/-- the world: tables of code objects, live objects and what they hold, Z not to be touched -/
structure Wd (T : List (Addr × Str)) (Z : Addr → Prop) (L : List Addr) (st : Sto) (H : Hp) : Prop where
  tabs : LamX.Tabs T H
  len : L.length = st.length
  inj : ∀ (i j : Nat) (a : Addr) (d e : Dt), L[i]? = some a → L[j]? = some a → st[i]? = some (some d) → st[j]? = some (some e) → i = j
  own : ∀ (k : Nat) (a : Addr) (d : Dt), L[k]? = some a → st[k]? = some (some d) → ¬ Z a ∧ OwnAt L (Bad Z L st) H a d
  zt : ∀ a, Z a → H a ≠ none
/-- from one world to a later one -/
structure Afz (T : List (Addr × Str)) (Z : Addr → Prop) (L : List Addr) (st : Sto) (H : Hp) (Z' : Addr → Prop) (L' : List Addr) (st' : Sto) (H' : Hp) : Prop where
  wd : Wd T Z' L' st' H'
  pre : ∃ M, L' = L ++ M
  kp : ∀ b o, H b = some o → ¬ Liv L st b → (∀ ps, o ≠ .tbl ps) → H' b = some o
  nw : ∀ a, Liv L' st' a → Liv L st a ∨ H a = none
  trk : ∀ b, H b ≠ none → H' b ≠ none
  tp : ∀ b xs, H b = some (.tup xs) → H' b = some (.tup xs)
  fr : ∀ (k : Nat) (a : Addr), L.length ≤ k → L'[k]? = some a → H a = none
  zs : ∀ a, Z' a → Z a ∨ H a = none
abbrev Af (T : List (Addr × Str)) (Z : Addr → Prop) (L : List Addr) (st : Sto) (H : Hp) (L' : List Addr) (st' : Sto) (H' : Hp) : Prop := Afz T Z L st H Z L' st' H'
section
variable {T : List (Addr × Str)} {Z Z' Z'' : Addr → Prop} {L L' L'' : List Addr} {st st' st'' : Sto} {H H' H'' : Hp}
theorem Afz.refl (w : Wd T Z L st H) : Af T Z L st H L st H := ⟨w, ⟨[], by simp⟩, fun b o h _ _ => h, fun a h => .inl h, fun _ h => h, fun _ _ h => h, fun k a h e => absurd (List.getElem?_eq_some_iff.mp e).1 (by omega), fun a z => .inl z⟩
theorem OwnAt.ne {B : Addr → Prop} {a : Addr} {d : Dt} (h : OwnAt L B H a d) : H a ≠ none := by
  obtain ⟨o, e, _⟩ := h; rw [e]; simp
theorem Wd.livTrk (w : Wd T Z L st H) {a : Addr} (h : Liv L st a) : H a ≠ none := by
  obtain ⟨k, d, h1, h2⟩ := h
  exact (w.own k a d h1 h2).2.ne
theorem Afz.trans (h : Afz T Z L st H Z' L' st' H') (g : Afz T Z' L' st' H' Z'' L'' st'' H'') : Afz T Z L st H Z'' L'' st'' H'' := by
  refine ⟨g.wd, ?_, fun b o e nl nt => ?_, fun a l => ?_, fun b e => g.trk b (h.trk b e), fun b xs e => g.tp b xs (h.tp b xs e), fun k a hk e => ?_, fun a z => ?_⟩
  · obtain ⟨M, rfl⟩ := h.pre
    obtain ⟨N, rfl⟩ := g.pre
    exact ⟨M ++ N, by simp⟩
  · have e' := h.kp b o e nl nt
    have nl' : ¬ Liv L' st' b := fun z => by
      rcases h.nw b z with z | z
      · exact nl z
      · rw [e] at z; cases z
    exact g.kp b o e' nl' nt
  · rcases g.nw a l with z | z
    · exact h.nw a z
    · right
      cases q : H a with
      | none => rfl
      | some o => exact absurd z (h.trk a (by rw [q]; simp))
  · by_cases hl : L'.length ≤ k
    · have z := g.fr k a hl e
      cases q : H a with
      | none => rfl
      | some o => exact absurd z (h.trk a (by rw [q]; simp))
    · obtain ⟨N, rfl⟩ := g.pre
      rw [List.getElem?_append_left (by omega)] at e
      exact h.fr k a hk e
  · rcases g.zs a z with z | z
    · exact h.zs a z
    · right
      cases q : H a with
      | none => rfl
      | some o => exact absurd z (h.trk a (by rw [q]; simp))
theorem Afz.ix (h : Afz T Z L st H Z' L' st' H') {k : Nat} {a : Addr} (e : L[k]? = some a) : L'[k]? = some a := by
  obtain ⟨M, rfl⟩ := h.pre
  rw [List.getElem?_append_left (List.getElem?_eq_some_iff.mp e).1]
  exact e
theorem Afz.bad (h : Afz T Z L st H Z' L' st' H') {a : Addr} (t : H a ≠ none) (n : ¬ Bad Z L st a) : ¬ Bad Z' L' st' a := fun z => by
  rcases z with z | z
  · exact (h.zs a z).elim (fun z => n (.inl z)) t
  · rcases h.nw a z with z | z
    · exact n (.inr z)
    · exact t z
mutual
theorem Den.keep (h : Afz T Z L st H Z' L' st' H') : ∀ {d : Dt} {v : V}, Den L (Bad Z L st) H d v → Den L' (Bad Z' L' st') H' d v
  | .non, _, q => by unfold Den at q ⊢; exact q
  | .bl _, _, q => by unfold Den at q ⊢; exact q
  | .int _, _, q => by unfold Den at q ⊢; exact q
  | .str _, _, q => by unfold Den at q ⊢; exact q
  | .ref _, _, q => by
    unfold Den at q ⊢
    obtain ⟨a, e, r⟩ := q
    exact ⟨a, h.ix e, r⟩
  | .lst ds, _, q => by
    unfold Den at q ⊢
    obtain ⟨a, vs, r, nb, e, t⟩ := q
    exact ⟨a, vs, r, h.bad (by rw [e]; simp) nb, h.kp a _ e (fun z => nb (.inr z)) (fun ps z => by cases z), Dens.keep h t⟩
  | .tup ds, _, q => by
    unfold Den at q ⊢
    obtain ⟨a, vs, r, e, t⟩ := q
    exact ⟨a, vs, r, h.tp a vs e, Dens.keep h t⟩
  | .dic ks ds, _, q => by
    unfold Den at q ⊢
    obtain ⟨a, vs, r, nb, e, el, t⟩ := q
    exact ⟨a, vs, r, h.bad (rd_ne e) nb, rd_of e fun o eo => h.kp a o eo (fun z => nb (.inr z)) (fun ps z => by
      subst z
      rcases e with e | ⟨x, e⟩ <;> rw [eo] at e <;> cases e), el, Dens.keep h t⟩
theorem Dens.keep (h : Afz T Z L st H Z' L' st' H') : ∀ {ds : List Dt} {vs : List V}, Dens L (Bad Z L st) H ds vs → Dens L' (Bad Z' L' st') H' ds vs
  | [], _, q => by unfold Dens at q ⊢; exact q
  | d :: ds, _, q => by
    obtain ⟨v, r, rfl, p, t⟩ := q.uncons
    exact .cons (Den.keep h p) (Dens.keep h t)
end
end
end HB

set_option Elab.async false
set_option linter.all false
set_option maxRecDepth 100000
set_option maxHeartbeats 1000000
/-! HB, part b: readings of the hand layer told by plain functions: Sim. -/
namespace HB
open PySem PySem.Spec PyProof.Rows L2

/-! ### changes of the heap -/
section
variable {T : List (Addr × Str)} {Z Z' B B' : Addr → Prop} {L L' : List Addr} {st st' : Sto} {H H' : Hp} {a p : Addr} {o : HO}
mutual
theorem Den.mono (hb : ∀ a, B' a → B a) : ∀ {d : Dt} {v : V}, Den L B H d v → Den L B' H d v
  | .non, _, q => by unfold Den at q ⊢; exact q
  | .bl _, _, q => by unfold Den at q ⊢; exact q
  | .int _, _, q => by unfold Den at q ⊢; exact q
  | .str _, _, q => by unfold Den at q ⊢; exact q
  | .ref _, _, q => by unfold Den at q ⊢; exact q
  | .lst ds, _, q => by
    unfold Den at q ⊢
    obtain ⟨a, vs, r, nb, e, t⟩ := q
    exact ⟨a, vs, r, fun z => nb (hb a z), e, Dens.mono hb t⟩
  | .tup ds, _, q => by
    unfold Den at q ⊢
    obtain ⟨a, vs, r, e, t⟩ := q
    exact ⟨a, vs, r, e, Dens.mono hb t⟩
  | .dic ks ds, _, q => by
    unfold Den at q ⊢
    obtain ⟨a, vs, r, nb, e, el, t⟩ := q
    exact ⟨a, vs, r, fun z => nb (hb a z), e, el, Dens.mono hb t⟩
theorem Dens.mono (hb : ∀ a, B' a → B a) : ∀ {ds : List Dt} {vs : List V}, Dens L B H ds vs → Dens L B' H ds vs
  | [], _, q => by unfold Dens at q ⊢; exact q
  | d :: ds, _, q => by
    obtain ⟨v, r, rfl, p, t⟩ := q.uncons
    exact .cons (Den.mono hb p) (Dens.mono hb t)
end
mutual
theorem Den.chg (hb : B a) (ht : ∀ xs, H a ≠ some (.tup xs)) : ∀ {d : Dt} {v : V}, Den L B H d v → Den L B (upd H a o) d v
  | .non, _, q => by unfold Den at q ⊢; exact q
  | .bl _, _, q => by unfold Den at q ⊢; exact q
  | .int _, _, q => by unfold Den at q ⊢; exact q
  | .str _, _, q => by unfold Den at q ⊢; exact q
  | .ref _, _, q => by unfold Den at q ⊢; exact q
  | .lst ds, _, q => by
    unfold Den at q ⊢
    obtain ⟨b, vs, r, nb, e, t⟩ := q
    exact ⟨b, vs, r, nb, by rw [upd_ne (fun z => nb (by rw [z]; exact hb))]; exact e, Dens.chg hb ht t⟩
  | .tup ds, _, q => by
    unfold Den at q ⊢
    obtain ⟨b, vs, r, e, t⟩ := q
    exact ⟨b, vs, r, by rw [upd_ne (fun z => ht vs (by rw [← z]; exact e))]; exact e, Dens.chg hb ht t⟩
  | .dic ks ds, _, q => by
    unfold Den at q ⊢
    obtain ⟨b, vs, r, nb, e, el, t⟩ := q
    exact ⟨b, vs, r, nb, rd_of e fun o eo => by rw [upd_ne (fun z => nb (by rw [z]; exact hb))]; exact eo, el, Dens.chg hb ht t⟩
theorem Dens.chg (hb : B a) (ht : ∀ xs, H a ≠ some (.tup xs)) : ∀ {ds : List Dt} {vs : List V}, Dens L B H ds vs → Dens L B (upd H a o) ds vs
  | [], _, q => by unfold Dens at q ⊢; exact q
  | d :: ds, _, q => by
    obtain ⟨v, r, rfl, p, t⟩ := q.uncons
    exact .cons (Den.chg hb ht p) (Dens.chg hb ht t)
end
theorem tabs_upd (ht : LamX.Tabs T H) (hn : ∀ u, H a = some u → (∃ xs, u = .lst xs) ∨ ∃ kvs, u = .dK kvs) : LamX.Tabs T (upd H a o) := by
  intro q hq
  obtain ⟨ps, h1, h2, h3⟩ := ht q hq
  have n1 : q.1 ≠ a := fun z => by
    rcases hn _ (by rw [← z]; exact h1) with ⟨xs, e⟩ | ⟨kvs, e⟩ <;> cases e
  refine ⟨ps, by rw [upd_ne n1]; exact h1, h2, fun pos cv hc => ?_⟩
  obtain ⟨c, e1, e2⟩ := h3 pos cv hc
  refine ⟨c, e1, ?_⟩
  have n2 : c ≠ a := fun z => by
    rcases hn _ (by rw [← z]; exact e2) with ⟨xs, e⟩ | ⟨kvs, e⟩ <;> (unfold LamX.CodeO at e; cases e)
  rw [upd_ne n2]; exact e2
theorem tabs_ext (ht : LamX.Tabs T H) (e : ∀ b o, H b = some o → H' b = some o) : LamX.Tabs T H' := ht.ext e
theorem Wd.notLiv (w : Wd T Z L st H) (h : H p = none) : ¬ Liv L st p := fun z => w.livTrk z h
theorem Wd.notBad (w : Wd T Z L st H) (h : H p = none) : ¬ Bad Z L st p := fun z => z.elim (fun z => w.zt p z h) (w.notLiv h)
theorem same_upd (h : H p = none) : ∀ b u, H b = some u → upd H p o b = some u := fun b u e => by
  rw [upd_ne (ne_of_none e h)]; exact e
mutual
theorem Den.stay (k : ∀ b u, H b = some u → (∀ ps, u ≠ .tbl ps) → H' b = some u) : ∀ {d : Dt} {v : V}, Den L B H d v → Den L B H' d v
  | .non, _, q => by unfold Den at q ⊢; exact q
  | .bl _, _, q => by unfold Den at q ⊢; exact q
  | .int _, _, q => by unfold Den at q ⊢; exact q
  | .str _, _, q => by unfold Den at q ⊢; exact q
  | .ref _, _, q => by unfold Den at q ⊢; exact q
  | .lst ds, _, q => by
    unfold Den at q ⊢
    obtain ⟨b, vs, r, nb, e, t⟩ := q
    exact ⟨b, vs, r, nb, k _ _ e (fun ps z => by cases z), Dens.stay k t⟩
  | .tup ds, _, q => by
    unfold Den at q ⊢
    obtain ⟨b, vs, r, e, t⟩ := q
    exact ⟨b, vs, r, k _ _ e (fun ps z => by cases z), Dens.stay k t⟩
  | .dic ks ds, _, q => by
    unfold Den at q ⊢
    obtain ⟨b, vs, r, nb, e, el, t⟩ := q
    exact ⟨b, vs, r, nb, rd_of e fun o eo => k b o eo (fun ps z => by subst z; rcases e with e | ⟨x, e⟩ <;> rw [eo] at e <;> cases e), el, Dens.stay k t⟩
theorem Dens.stay (k : ∀ b u, H b = some u → (∀ ps, u ≠ .tbl ps) → H' b = some u) : ∀ {ds : List Dt} {vs : List V}, Dens L B H ds vs → Dens L B H' ds vs
  | [], _, q => by unfold Dens at q ⊢; exact q
  | d :: ds, _, q => by
    obtain ⟨v, r, rfl, p, t⟩ := q.uncons
    exact .cons (Den.stay k p) (Dens.stay k t)
end
theorem Den.ext (k : ∀ b u, H b = some u → H' b = some u) {d : Dt} {v : V} (h : Den L B H d v) : Den L B H' d v := h.stay fun b u e _ => k b u e
theorem Dens.ext (k : ∀ b u, H b = some u → H' b = some u) {d : List Dt} {v : List V} (h : Dens L B H d v) : Dens L B H' d v := h.stay fun b u e _ => k b u e
theorem OwnAt.ext (k : ∀ b u, H b = some u → H' b = some u) {d : Dt} (h : OwnAt L B H a d) : OwnAt L B H' a d := by
  obtain ⟨o, e, t⟩ := h
  exact ⟨o, k _ _ e, t.imp fun _ _ q => q.ext k⟩
/-- more objects, nothing changed -/
theorem Wd.ext (w : Wd T Z L st H) (k : ∀ b u, H b = some u → H' b = some u) : Wd T Z L st H' :=
  ⟨w.tabs.ext k, w.len, w.inj, fun i b d h1 h2 => ⟨(w.own i b d h1 h2).1, (w.own i b d h1 h2).2.ext k⟩, fun b z e => by
    cases q : H b with
    | none => exact w.zt b z q
    | some u => rw [k b u q] at e; cases e⟩
theorem Afz.ext (w : Wd T Z L st H) (k : ∀ b u, H b = some u → H' b = some u) : Af T Z L st H L st H' :=
  ⟨w.ext k, ⟨[], by simp⟩, fun b u e _ _ => k b u e, fun _ h => .inl h, fun b n e => (by
    cases q : H b with
    | none => exact n q
    | some u => rw [k b u q] at e; cases e), fun b xs e => k b _ e, fun k a h e => absurd (List.getElem?_eq_some_iff.mp e).1 (by omega), fun a z => .inl z⟩
theorem Afz.new (w : Wd T Z L st H) (h : H p = none) : Af T Z L st H L st (upd H p o) := Afz.ext w (same_upd h)
/-- a by-value list just made -/
theorem Den.newL (w : Wd T Z L st H) (h : H p = none) {ds : List Dt} {vs : List V} (t : Dens L (Bad Z L st) H ds vs) : Den L (Bad Z L st) (upd H p (.lst vs)) (.lst ds) (.ref p) := by
  unfold Den
  exact ⟨p, vs, rfl, w.notBad h, upd_same, t.ext (same_upd h)⟩
theorem Den.newT (w : Wd T Z L st H) (h : H p = none) {ds : List Dt} {vs : List V} (t : Dens L (Bad Z L st) H ds vs) : Den L (Bad Z L st) (upd H p (.tup vs)) (.tup ds) (.ref p) := by
  unfold Den
  exact ⟨p, vs, rfl, upd_same, t.ext (same_upd h)⟩
theorem Den.newD (w : Wd T Z L st H) (h : H p = none) {ks : List Key} {ds : List Dt} {vs : List V} (hl : ks.length = vs.length) (t : Dens L (Bad Z L st) H ds vs) : Den L (Bad Z L st) (upd H p (.dK (ks.zip vs))) (.dic ks ds) (.ref p) := by
  unfold Den
  exact ⟨p, vs, rfl, w.notBad h, .inl upd_same, hl, t.ext (same_upd h)⟩
end

/-! ### one more address not to be touched -/
section
variable {T : List (Addr × Str)} {Z B : Addr → Prop} {L : List Addr} {st : Sto} {H : Hp} {a : Addr} {o : HO}
def zAnd (Z : Addr → Prop) (a : Addr) : Addr → Prop := fun b => Z b ∨ b = a
mutual
theorem Den.away (hn : H a = none) : ∀ {d : Dt} {v : V}, Den L B H d v → Den L (fun b => B b ∨ b = a) H d v
  | .non, _, q => by unfold Den at q ⊢; exact q
  | .bl _, _, q => by unfold Den at q ⊢; exact q
  | .int _, _, q => by unfold Den at q ⊢; exact q
  | .str _, _, q => by unfold Den at q ⊢; exact q
  | .ref _, _, q => by unfold Den at q ⊢; exact q
  | .lst ds, _, q => by
    unfold Den at q ⊢
    obtain ⟨b, vs, r, nb, e, t⟩ := q
    exact ⟨b, vs, r, fun z => z.elim nb (ne_of_none e hn), e, Dens.away hn t⟩
  | .tup ds, _, q => by
    unfold Den at q ⊢
    obtain ⟨b, vs, r, e, t⟩ := q
    exact ⟨b, vs, r, e, Dens.away hn t⟩
  | .dic ks ds, _, q => by
    unfold Den at q ⊢
    obtain ⟨b, vs, r, nb, e, el, t⟩ := q
    exact ⟨b, vs, r, fun z => z.elim nb (fun y => rd_ne e (by rw [y]; exact hn)), e, el, Dens.away hn t⟩
theorem Dens.away (hn : H a = none) : ∀ {ds : List Dt} {vs : List V}, Dens L B H ds vs → Dens L (fun b => B b ∨ b = a) H ds vs
  | [], _, q => by unfold Dens at q ⊢; exact q
  | d :: ds, _, q => by
    obtain ⟨v, r, rfl, p, t⟩ := q.uncons
    exact .cons (Den.away hn p) (Dens.away hn t)
end
/-- a new object that is ours alone for a while -/
theorem Afz.mine (w : Wd T Z L st H) (hn : H a = none) : Afz T Z L st H (zAnd Z a) L st (upd H a o) := by
  have hk := same_upd (o := o) hn
  refine ⟨⟨w.tabs.ext hk, w.len, w.inj, fun k b d h1 h2 => ?_, fun b z e => ?_⟩, ⟨[], by simp⟩, fun b u e _ _ => hk b u e, fun b l => .inl l, fun b n e => ?_, fun b xs e => hk b _ e, fun k b h e => absurd (List.getElem?_eq_some_iff.mp e).1 (by omega), fun b z => z.elim .inl fun y => .inr (by rw [y]; exact hn)⟩
  · obtain ⟨nz, u, eu, q⟩ := w.own k b d h1 h2
    refine ⟨fun z => z.elim nz (ne_of_none eu hn), u, hk _ _ eu, q.imp fun ds vs t => ?_⟩
    refine ((t.away hn).mono fun b z => ?_).ext hk
    rcases z with (z | z) | z
    · exact .inl (.inl z)
    · exact .inr z
    · exact .inl (.inr z)
  · rcases z with z | z
    · cases q : H b with
      | none => exact w.zt b z q
      | some u => rw [hk b u q] at e; cases e
    · rw [z, upd_same] at e; cases e
  · cases q : H b with
    | none => exact n q
    | some u => rw [hk b u q] at e; cases e
/-- what is ours alone is changed -/
theorem Wd.chg (w : Wd T Z L st H) (hz : Z a) (hn : ∀ u, H a = some u → (∃ xs, u = .lst xs) ∨ ∃ kvs, u = .dK kvs) : Wd T Z L st (upd H a o) := by
  have ht : ∀ xs, H a ≠ some (.tup xs) := fun xs e => by
    rcases hn _ e with ⟨ys, z⟩ | ⟨kvs, z⟩ <;> cases z
  refine ⟨tabs_upd w.tabs hn, w.len, w.inj, fun k b d h1 h2 => ?_, fun b z e => ?_⟩
  · obtain ⟨nz, u, eu, q⟩ := w.own k b d h1 h2
    exact ⟨nz, u, by rw [upd_ne (fun y => nz (by rw [y]; exact hz))]; exact eu, q.imp fun ds vs t => t.chg (.inl hz) ht⟩
  · by_cases hb : b = a
    · rw [hb, upd_same] at e; cases e
    · rw [upd_ne hb] at e; exact w.zt b z e
/-- it is everybody's again -/
theorem Wd.less {Z' : Addr → Prop} (w : Wd T Z' L st H) (hz : ∀ b, Z b → Z' b) : Wd T Z L st H :=
  ⟨w.tabs, w.len, w.inj, fun k b d h1 h2 => by
    obtain ⟨nz, u, eu, q⟩ := w.own k b d h1 h2
    exact ⟨fun z => nz (hz b z), u, eu, q.imp fun ds vs t => t.mono fun c z => z.elim (fun y => .inl (hz c y)) .inr⟩, fun b z => w.zt b (hz b z)⟩
end

/-! ### a live object: made, changed, left to be -/
section
variable {T : List (Addr × Str)} {Z : Addr → Prop} {L : List Addr} {st : Sto} {H : Hp} {a p : Addr} {o : HO}
theorem liv_push {x : Option Dt} (hl : L.length = st.length) : Liv (L ++ [p]) (st ++ [x]) a ↔ Liv L st a ∨ (a = p ∧ x ≠ none) := by
  constructor
  · rintro ⟨k, d, h1, h2⟩
    by_cases hk : k < L.length
    · rw [List.getElem?_append_left hk] at h1
      rw [List.getElem?_append_left (by omega)] at h2
      exact .inl ⟨k, d, h1, h2⟩
    · rw [List.getElem?_append_right (by omega)] at h1
      rw [List.getElem?_append_right (by omega)] at h2
      have e : k - L.length = 0 := by
        cases q : k - L.length with
        | zero => rfl
        | succ n => rw [q] at h1; simp at h1
      rw [e] at h1
      rw [show k - st.length = 0 by omega] at h2
      simp at h1 h2
      exact .inr ⟨h1.symm, by rw [h2]; simp⟩
  · rintro (⟨k, d, h1, h2⟩ | ⟨rfl, hx⟩)
    · exact ⟨k, d, by rw [List.getElem?_append_left (List.getElem?_eq_some_iff.mp h1).1]; exact h1, by rw [List.getElem?_append_left (List.getElem?_eq_some_iff.mp h2).1]; exact h2⟩
    · cases x with
      | none => exact absurd rfl hx
      | some d => exact ⟨L.length, d, by simp, by rw [hl]; simp⟩
mutual
theorem Den.push {B B' : Addr → Prop} (hb : ∀ b, B' b → H b ≠ none → B b) : ∀ {d : Dt} {v : V}, Den L B H d v → Den (L ++ [p]) B' H d v
  | .non, _, q => by unfold Den at q ⊢; exact q
  | .bl _, _, q => by unfold Den at q ⊢; exact q
  | .int _, _, q => by unfold Den at q ⊢; exact q
  | .str _, _, q => by unfold Den at q ⊢; exact q
  | .ref k, _, q => by
    unfold Den at q ⊢
    obtain ⟨a, e, r⟩ := q
    exact ⟨a, by rw [List.getElem?_append_left (List.getElem?_eq_some_iff.mp e).1]; exact e, r⟩
  | .lst ds, _, q => by
    unfold Den at q ⊢
    obtain ⟨a, vs, r, nb, e, t⟩ := q
    exact ⟨a, vs, r, fun z => nb (hb a z (by rw [e]; simp)), e, Dens.push hb t⟩
  | .tup ds, _, q => by
    unfold Den at q ⊢
    obtain ⟨a, vs, r, e, t⟩ := q
    exact ⟨a, vs, r, e, Dens.push hb t⟩
  | .dic ks ds, _, q => by
    unfold Den at q ⊢
    obtain ⟨a, vs, r, nb, e, el, t⟩ := q
    exact ⟨a, vs, r, fun z => nb (hb a z (rd_ne e)), e, el, Dens.push hb t⟩
theorem Dens.push {B B' : Addr → Prop} (hb : ∀ b, B' b → H b ≠ none → B b) : ∀ {ds : List Dt} {vs : List V}, Dens L B H ds vs → Dens (L ++ [p]) B' H ds vs
  | [], _, q => by unfold Dens at q ⊢; exact q
  | d :: ds, _, q => by
    obtain ⟨v, r, rfl, a, t⟩ := q.uncons
    exact .cons (Den.push hb a) (Dens.push hb t)
end
/-- a new live object -/
theorem Afz.newR (w : Wd T Z L st H) (h : H p = none) {d : Dt} (hd : OwnO L (Bad Z L st) H o d) : Af T Z L st H (L ++ [p]) (st ++ [some d]) (upd H p o) := by
  have hk := same_upd (o := o) h
  have hb : ∀ b, Bad Z (L ++ [p]) (st ++ [some d]) b → H b ≠ none → Bad Z L st b := fun b z n => by
    rcases z with z | z
    · exact .inl z
    · rcases (liv_push w.len).mp z with z | ⟨rfl, _⟩
      · exact .inr z
      · exact absurd h n
  have tr : ∀ ds vs, Dens L (Bad Z L st) H ds vs → Dens (L ++ [p]) (Bad Z (L ++ [p]) (st ++ [some d])) (upd H p o) ds vs := fun ds vs q => (Dens.push hb q).ext hk
  have get : ∀ (k : Nat) (b : Addr) (e : Dt), (L ++ [p])[k]? = some b → (st ++ [some d])[k]? = some (some e) → (k < L.length ∧ L[k]? = some b ∧ st[k]? = some (some e)) ∨ (k = L.length ∧ b = p ∧ e = d) := by
    intro k b e h1 h2
    have hl := w.len
    by_cases hk : k < L.length
    · rw [List.getElem?_append_left hk] at h1
      rw [List.getElem?_append_left (by omega)] at h2
      exact .inl ⟨hk, h1, h2⟩
    · have hk2 : k = L.length := by
        have := (List.getElem?_eq_some_iff.mp h1).1
        simp at this
        omega
      subst hk2
      simp at h1
      rw [hl] at h2
      simp at h2
      exact .inr ⟨rfl, h1.symm, h2.symm⟩
  refine ⟨⟨w.tabs.ext hk, by simp [w.len], fun i j b x y h1 h2 h3 h4 => ?_, fun k b e h1 h2 => ?_, fun b z e => ?_⟩, ⟨[p], rfl⟩, fun b u e _ _ => hk b u e, fun b l => ?_, fun b n e => ?_, fun b xs e => hk b _ e, fun k b hl e => ?_, fun a z => .inl z⟩
  · rcases get i b x h1 h3 with ⟨_, a1, a2⟩ | ⟨i1, i2, _⟩ <;> rcases get j b y h2 h4 with ⟨_, b1, b2⟩ | ⟨j1, j2, _⟩
    · exact w.inj i j b x y a1 b1 a2 b2
    · exact absurd h (by rw [← j2]; exact w.livTrk ⟨i, x, a1, a2⟩)
    · exact absurd h (by rw [← i2]; exact w.livTrk ⟨j, y, b1, b2⟩)
    · omega
  · rcases get k b e h1 h2 with ⟨_, a1, a2⟩ | ⟨_, rfl, rfl⟩
    · obtain ⟨nz, u, eu, q⟩ := w.own k b e a1 a2
      exact ⟨nz, u, hk _ _ eu, q.imp tr⟩
    · exact ⟨fun z => w.zt b z h, o, upd_same, hd.imp tr⟩
  · cases q : H b with
    | none => exact w.zt b z q
    | some u => rw [hk b u q] at e; cases e
  · rcases (liv_push w.len).mp l with z | ⟨rfl, _⟩
    · exact .inl z
    · exact .inr h
  · cases q : H b with
    | none => exact n q
    | some u => rw [hk b u q] at e; cases e
  · have e2 : k = L.length := by
      have := (List.getElem?_eq_some_iff.mp e).1
      simp at this
      omega
    subst e2
    simp at e
    rw [← e]; exact h
/-- a live object is changed -/
theorem Afz.wr (w : Wd T Z L st H) {k : Nat} {d d' : Dt} (h1 : L[k]? = some a) (h2 : st[k]? = some (some d)) (hd : OwnO L (Bad Z L st) H o d') : Af T Z L st H L (st.set k (some d')) (upd H a o) := by
  have hlt : k < st.length := (List.getElem?_eq_some_iff.mp h2).1
  have la : Liv L st a := ⟨k, d, h1, h2⟩
  obtain ⟨nz, oa, ea, qa⟩ := w.own k a d h1 h2
  have tk : ∀ xs, H a ≠ some (.tup xs) := fun xs z => by
    rw [ea] at z
    rcases qa.kind with ⟨ys, e⟩ | ⟨kvs, e⟩ <;> (rw [e] at z; cases z)
  have liv : ∀ b, Liv L (st.set k (some d')) b ↔ Liv L st b := fun b => by
    constructor
    · rintro ⟨j, e, a1, a2⟩
      by_cases hj : k = j
      · subst hj
        rw [h1] at a1; cases a1
        exact la
      · rw [List.getElem?_set_ne hj] at a2
        exact ⟨j, e, a1, a2⟩
    · rintro ⟨j, e, a1, a2⟩
      by_cases hj : k = j
      · subst hj
        exact ⟨k, d', a1, List.getElem?_set_self hlt⟩
      · exact ⟨j, e, a1, by rw [List.getElem?_set_ne hj]; exact a2⟩
  have eb : Bad Z L (st.set k (some d')) = Bad Z L st := by
    funext b
    unfold Bad
    rw [propext (liv b)]
  have tr : ∀ ds vs, Dens L (Bad Z L st) H ds vs → Dens L (Bad Z L (st.set k (some d'))) (upd H a o) ds vs := fun ds vs q => by
    rw [eb]
    exact Dens.chg (.inr la) tk q
  refine ⟨⟨tabs_upd w.tabs fun u e => by rw [ea] at e; cases e; exact qa.kind, by rw [List.length_set]; exact w.len, fun i j b x y a1 a2 a3 a4 => ?_, fun j b e a1 a2 => ?_, fun b z e => ?_⟩, ⟨[], by simp⟩, fun b u e nl _ => ?_, fun b l => .inl ((liv b).mp l), fun b n e => ?_, fun b xs e => ?_, fun k b h e => absurd (List.getElem?_eq_some_iff.mp e).1 (by omega), fun a z => .inl z⟩
  · have f : ∀ (i : Nat) x, L[i]? = some b → (st.set k (some d'))[i]? = some (some x) → ∃ x', st[i]? = some (some x') := fun i x c1 c2 => by
      by_cases hj : k = i
      · subst hj; exact ⟨d, h2⟩
      · rw [List.getElem?_set_ne hj] at c2; exact ⟨x, c2⟩
    obtain ⟨x', c1⟩ := f i x a1 a3
    obtain ⟨y', c2⟩ := f j y a2 a4
    exact w.inj i j b x' y' a1 a2 c1 c2
  · by_cases hj : k = j
    · subst hj
      rw [h1] at a1; cases a1
      rw [List.getElem?_set_self hlt] at a2
      cases a2
      exact ⟨nz, o, upd_same, hd.imp tr⟩
    · rw [List.getElem?_set_ne hj] at a2
      obtain ⟨nz', u, eu, q⟩ := w.own j b e a1 a2
      have nb : b ≠ a := fun z => by
        subst z
        exact hj (w.inj k j b d e h1 a1 h2 a2)
      exact ⟨nz', u, by rw [upd_ne nb]; exact eu, q.imp tr⟩
  · have nb : b ≠ a := fun y => nz (by rw [← y]; exact z)
    rw [upd_ne nb] at e
    exact w.zt b z e
  · have nb : b ≠ a := fun y => nl (by rw [y]; exact la)
    rw [upd_ne nb]; exact e
  · by_cases hb : b = a
    · rw [hb, upd_same] at e; cases e
    · rw [upd_ne hb] at e; exact n e
  · have nb : b ≠ a := fun y => tk xs (by rw [← y]; exact e)
    rw [upd_ne nb]; exact e
/-- a live object is left to be: from now on it is read by value -/
theorem Wd.frz (w : Wd T Z L st H) {k : Nat} {d : Dt} (h1 : L[k]? = some a) (h2 : st[k]? = some (some d)) : Af T Z L st H L (st.set k none) H ∧ Den L (Bad Z L (st.set k none)) H d (.ref a) := by
  have liv : ∀ b, Liv L (st.set k none) b → Liv L st b ∧ b ≠ a := fun b => by
    rintro ⟨j, e, a1, a2⟩
    by_cases hj : k = j
    · subst hj
      rw [List.getElem?_set] at a2
      rw [if_pos rfl] at a2
      split at a2 <;> cases a2
    · rw [List.getElem?_set_ne hj] at a2
      refine ⟨⟨j, e, a1, a2⟩, fun z => hj ?_⟩
      subst z
      exact w.inj k j b d e h1 a1 h2 a2
  have hb : ∀ b, Bad Z L (st.set k none) b → Bad Z L st b := fun b z => z.elim .inl fun z => .inr (liv b z).1
  have tr : ∀ ds vs, Dens L (Bad Z L st) H ds vs → Dens L (Bad Z L (st.set k none)) H ds vs := fun ds vs q => q.mono hb
  refine ⟨⟨⟨w.tabs, by rw [List.length_set]; exact w.len, fun i j b x y a1 a2 a3 a4 => ?_, fun j b e a1 a2 => ?_, w.zt⟩, ⟨[], by simp⟩, fun b u e _ _ => e, fun b l => .inl (liv b l).1, fun b n => n, fun b xs e => e, fun k b h e => absurd (List.getElem?_eq_some_iff.mp e).1 (by omega), fun a z => .inl z⟩, ?_⟩
  · have f : ∀ (i : Nat) x, (st.set k none)[i]? = some (some x) → st[i]? = some (some x) := fun i x c => by
      by_cases hj : k = i
      · subst hj
        rw [List.getElem?_set, if_pos rfl] at c
        split at c <;> cases c
      · rw [List.getElem?_set_ne hj] at c; exact c
    exact w.inj i j b x y a1 a2 (f i x a3) (f j y a4)
  · by_cases hj : k = j
    · subst hj
      rw [List.getElem?_set, if_pos rfl] at a2
      split at a2 <;> cases a2
    · rw [List.getElem?_set_ne hj] at a2
      obtain ⟨nz', u, eu, q⟩ := w.own j b e a1 a2
      exact ⟨nz', u, eu, q.imp tr⟩
  · obtain ⟨nz, oa, ea, qa⟩ := w.own k a d h1 h2
    have nb : ¬ Bad Z L (st.set k none) a := fun z => z.elim nz fun z => (liv a z).2 rfl
    cases d with
    | lst ds =>
      obtain ⟨vs, rfl, t⟩ := qa
      unfold Den
      exact ⟨a, vs, rfl, nb, ea, tr _ _ t⟩
    | dic ks ds =>
      obtain ⟨vs, rfl, el, t⟩ := qa
      unfold Den
      exact ⟨a, vs, rfl, nb, .inl ea, el, tr _ _ t⟩
    | _ => exact False.elim qa
end
end HB

set_option Elab.async false
set_option linter.all false
set_option maxRecDepth 100000
set_option maxHeartbeats 1000000
/-! HB, part c: the readings of expressions, tests, arguments, statements told by plain functions. -/
namespace HB
open PySem PySem.Spec PyProof.Rows L2

abbrev Evr := List (Option Dt)
def EnvOk (L : List Addr) (B : Addr → Prop) (H : Hp) (r : Evr) (s : L2.St) : Prop := r.length = s.length ∧ ∀ (i : Nat) (d : Dt), r[i]? = some (some d) → ∃ v, s[i]? = some (some v) ∧ Den L B H d v
abbrev SE := Evr → Sto → Option (Dt × Sto)
abbrev ST := Evr → Sto → Option (Bool × Sto)
abbrev SA := Evr → Sto → Option (List Dt × Sto)
inductive Ou where
  | nx (r : Evr) (st : Sto) | rt (d : Dt) (st : Sto) | bk (r : Evr) (st : Sto) | ct (r : Evr) (st : Sto)
abbrev SS := Evr → Sto → Option Ou

def SimE (T : List (Addr × Str)) (t : TE) (f : SE) : Prop := ∀ Z L st H s r d st' (Q : VK), Wd T Z L st H → EnvOk L (Bad Z L st) H r s → f r st = some (d, st') →
  (∀ v H' L', Af T Z L st H L' st' H' → Den L' (Bad Z L' st') H' d v → Q v H') → t s H Q
def SimT (T : List (Addr × Str)) (t : TT) (f : ST) : Prop := ∀ Z L st H s r b st' (Q : Bool → Hp → Prop), Wd T Z L st H → EnvOk L (Bad Z L st) H r s → f r st = some (b, st') →
  (∀ H' L', Af T Z L st H L' st' H' → Q b H') → t s H Q
def SimA (T : List (Addr × Str)) (t : TA) (f : SA) : Prop := ∀ Z L st H s r ds st' (Q : List V → Hp → Prop), Wd T Z L st H → EnvOk L (Bad Z L st) H r s → f r st = some (ds, st') →
  (∀ vs H' L', Af T Z L st H L' st' H' → Dens L' (Bad Z L' st') H' ds vs → Q vs H') → t s H Q
def OuOk (T : List (Addr × Str)) (Z : Addr → Prop) (L : List Addr) (st : Sto) (H : Hp) (D : Ends) : Ou → Prop
  | .nx r st' => ∀ s H' L', Af T Z L st H L' st' H' → EnvOk L' (Bad Z L' st') H' r s → D.nx s H'
  | .rt d st' => ∀ v H' L', Af T Z L st H L' st' H' → Den L' (Bad Z L' st') H' d v → D.rt v H'
  | .bk r st' => ∀ s H' L', Af T Z L st H L' st' H' → EnvOk L' (Bad Z L' st') H' r s → D.bk s H'
  | .ct r st' => ∀ s H' L', Af T Z L st H L' st' H' → EnvOk L' (Bad Z L' st') H' r s → D.ct s H'
def SimS (T : List (Addr × Str)) (t : TS) (g : SS) : Prop := ∀ Z L st H s r o D, Wd T Z L st H → EnvOk L (Bad Z L st) H r s → g r st = some o → OuOk T Z L st H D o → t D s H
/-- operators, calls, methods by values -/
def VO2 (T : List (Addr × Str)) (r : R2) (g : Sto → Dt → Dt → Option (Dt × Sto)) : Prop := ∀ Z L st H x y dx dy d st' (Q : VK), Wd T Z L st H → Den L (Bad Z L st) H dx x → Den L (Bad Z L st) H dy y → g st dx dy = some (d, st') →
  (∀ v H' L', Af T Z L st H L' st' H' → Den L' (Bad Z L' st') H' d v → Q v H') → r x y H Q
def VON (T : List (Addr × Str)) (r : List V → Hp → VK → Prop) (g : Sto → List Dt → Option (Dt × Sto)) : Prop := ∀ Z L st H xs dxs d st' (Q : VK), Wd T Z L st H → Dens L (Bad Z L st) H dxs xs → g st dxs = some (d, st') →
  (∀ v H' L', Af T Z L st H L' st' H' → Den L' (Bad Z L' st') H' d v → Q v H') → r xs H Q
def VOM (T : List (Addr × Str)) (r : V → List V → Hp → VK → Prop) (g : Sto → Dt → List Dt → Option (Dt × Sto)) : Prop := ∀ Z L st H x xs dx dxs d st' (Q : VK), Wd T Z L st H → Den L (Bad Z L st) H dx x → Dens L (Bad Z L st) H dxs xs → g st dx dxs = some (d, st') →
  (∀ v H' L', Af T Z L st H L' st' H' → Den L' (Bad Z L' st') H' d v → Q v H') → r x xs H Q

section
variable {T : List (Addr × Str)} {Z : Addr → Prop} {L L' : List Addr} {st st' : Sto} {H H' : Hp} {r : Evr} {s : L2.St}
theorem EnvOk.keep {Z' : Addr → Prop} (h : Afz T Z L st H Z' L' st' H') (e : EnvOk L (Bad Z L st) H r s) : EnvOk L' (Bad Z' L' st') H' r s :=
  ⟨e.1, fun i d q => by obtain ⟨v, h1, h2⟩ := e.2 i d q; exact ⟨v, h1, h2.keep h⟩⟩
theorem EnvOk.set {B : Addr → Prop} {d : Dt} {v : V} (e : EnvOk L B H r s) (i : Nat) (q : Den L B H d v) : EnvOk L B H (r.set i (some d)) (s.set i (some v)) := by
  refine ⟨by rw [List.length_set, List.length_set]; exact e.1, fun j d' h => ?_⟩
  by_cases hj : i = j
  · subst hj
    by_cases hi : i < r.length
    · rw [List.getElem?_set_self hi] at h
      cases h
      exact ⟨v, List.getElem?_set_self (by rw [← e.1]; exact hi), q⟩
    · rw [List.getElem?_eq_none (by rw [List.length_set]; omega)] at h; cases h
  · rw [List.getElem?_set_ne hj] at h
    obtain ⟨u, h1, h2⟩ := e.2 j d' h
    exact ⟨u, by rw [List.getElem?_set_ne hj]; exact h1, h2⟩
end

/-! ### expressions -/
def eVar (i : Nat) : SE := fun r st => match r[i]? with
  | some (some d) => some (d, st)
  | _ => none
def eC (d : Dt) : SE := fun _ st => some (d, st)
def eOp2 (g : Sto → Dt → Dt → Option (Dt × Sto)) (fa fb : SE) : SE := fun r st => (fa r st).bind fun x => (fb r x.2).bind fun y => g y.2 x.1 y.1
def aNil : SA := fun _ st => some ([], st)
def aCons (fa : SE) (fr : SA) : SA := fun r st => (fa r st).bind fun x => (fr r x.2).bind fun y => some (x.1 :: y.1, y.2)
def eN (g : Sto → List Dt → Option (Dt × Sto)) (fa : SA) : SE := fun r st => (fa r st).bind fun x => g x.2 x.1
def eIf (c : ST) (fa fb : SE) : SE := fun r st => (c r st).bind fun b => if b.1 = true then fa r b.2 else fb r b.2
def eChain (g g' : Sto → Dt → Dt → Option (Dt × Sto)) (fa fb fc : SE) : SE := fun r st => (fa r st).bind fun x => (fb r x.2).bind fun y => (g y.2 x.1 y.1).bind fun z => match z.1 with
  | .bl true => (fc r z.2).bind fun w => g' w.2 y.1 w.1
  | .bl false => some (.bl false, z.2)
  | _ => none
def eAndV (fa fb : SE) : SE := fun r st => (fa r st).bind fun x => match x.1 with
  | .bl true => fb r x.2
  | .bl false => some (.bl false, x.2)
  | _ => none
def eOrV (fa fb : SE) : SE := fun r st => (fa r st).bind fun x => match x.1 with
  | .bl false => fb r x.2
  | .bl true => some (.bl true, x.2)
  | _ => none
def eNotV (fa : SE) : SE := fun r st => (fa r st).bind fun x => match x.1 with
  | .bl b => some (.bl (!b), x.2)
  | _ => none
def cB (fa : SE) : ST := fun r st => (fa r st).bind fun x => match x.1 with
  | .bl b => some (b, x.2)
  | _ => none
def cAnd (c e : ST) : ST := fun r st => (c r st).bind fun b => if b.1 = true then e r b.2 else some (false, b.2)
def cOr (c e : ST) : ST := fun r st => (c r st).bind fun b => if b.1 = true then some (true, b.2) else e r b.2
def cNot (c : ST) : ST := fun r st => (c r st).bind fun b => some (!b.1, b.2)
def cYes : ST := fun _ st => some (true, st)

theorem bind_some' {α β : Type} {x : Option α} {f : α → Option β} {b : β} (h : x.bind f = some b) : ∃ a, x = some a ∧ f a = some b := by
  cases x with
  | none => cases h
  | some a => exact ⟨a, rfl, h⟩
section
variable {T : List (Addr × Str)} {ta tb tc : TE} {fa fb fc : SE}
theorem sim_var {i : Nat} : SimE T (tVar i) (eVar i) := by
  intro Z L st H s r d st' Q w e h q
  unfold eVar at h
  split at h
  · rename_i d' hd
    cases h
    obtain ⟨v, h1, h2⟩ := e.2 i _ hd
    exact ⟨v, h1, q v H L (.refl w) h2⟩
  · cases h
theorem sim_C {d : Dt} {v : V} (hd : ∀ L B H, Den L B H d v) : SimE T (tC v) (eC d) := by
  intro Z L st H s r d' st' Q w e h q
  cases h
  exact q v H L (.refl w) (hd _ _ _)
theorem sim_int {i : Int} : SimE T (tC (.int i)) (eC (.int i)) := sim_C fun _ _ _ => by unfold Den; rfl
theorem sim_str {x : Str} : SimE T (tC (.str x)) (eC (.str x)) := sim_C fun _ _ _ => by unfold Den; rfl
theorem sim_bl {b : Bool} : SimE T (tC (.bl b)) (eC (.bl b)) := sim_C fun _ _ _ => by unfold Den; rfl
theorem sim_non : SimE T (tC .non) (eC .non) := sim_C fun _ _ _ => by unfold Den; rfl
theorem sim_op {r : R2} {g : Sto → Dt → Dt → Option (Dt × Sto)} (ha : SimE T ta fa) (hb : SimE T tb fb) (ho : VO2 T r g) : SimE T (tOp r ta tb) (eOp2 g fa fb) := by
  intro Z L st H s rr d st' Q w e h q
  obtain ⟨⟨dx, st1⟩, h1, h⟩ := bind_some' h
  obtain ⟨⟨dy, st2⟩, h2, h⟩ := bind_some' h
  refine ha Z L st H s rr dx st1 _ w e h1 fun x H1 L1 f1 p1 => ?_
  refine hb Z L1 st1 H1 s rr dy st2 _ f1.wd (e.keep f1) h2 fun y H2 L2 f2 p2 => ?_
  exact ho Z L2 st2 H2 x y dx dy d st' Q f2.wd (p1.keep f2) p2 h fun v H3 L3 f3 p3 => q v H3 L3 (f1.trans (f2.trans f3)) p3
theorem sim_nil : SimA T tNil aNil := by
  intro Z L st H s r d st' Q w e h q
  cases h
  exact q [] H L (.refl w) .nil
theorem sim_cons {tr : TA} {fr : SA} (ha : SimE T ta fa) (hr : SimA T tr fr) : SimA T (tCons ta tr) (aCons fa fr) := by
  intro Z L st H s rr d st' Q w e h q
  obtain ⟨⟨dx, st1⟩, h1, h⟩ := bind_some' h
  obtain ⟨⟨dy, st2⟩, h2, h⟩ := bind_some' h
  cases h
  refine ha Z L st H s rr dx st1 _ w e h1 fun x H1 L1 f1 p1 => ?_
  refine hr Z L1 st1 H1 s rr dy st2 _ f1.wd (e.keep f1) h2 fun y H2 L2 f2 p2 => ?_
  exact q _ H2 L2 (f1.trans f2) (.cons (p1.keep f2) p2)
theorem sim_N {t : TA} {f : SA} {r : List V → Hp → VK → Prop} {g : Sto → List Dt → Option (Dt × Sto)} (ha : SimA T t f) (ho : VON T r g) : SimE T (tCB r t) (eN g f) := by
  intro Z L st H s rr d st' Q w e h q
  obtain ⟨⟨dx, st1⟩, h1, h⟩ := bind_some' h
  refine ha Z L st H s rr dx st1 _ w e h1 fun x H1 L1 f1 p1 => ?_
  exact ho Z L1 st1 H1 x dx d st' Q f1.wd p1 h fun v H3 L3 f3 p3 => q v H3 L3 (f1.trans f3) p3
theorem sim_if {t : TT} {c : ST} (hc : SimT T t c) (ha : SimE T ta fa) (hb : SimE T tb fb) : SimE T (tIf t ta tb) (eIf c fa fb) := by
  intro Z L st H s rr d st' Q w e h q
  obtain ⟨⟨b, st1⟩, h1, h⟩ := bind_some' h
  refine hc Z L st H s rr b st1 _ w e h1 fun H1 L1 f1 => ?_
  cases b with
  | true => exact ha Z L1 st1 H1 s rr d st' Q f1.wd (e.keep f1) h fun v H3 L3 f3 p3 => q v H3 L3 (f1.trans f3) p3
  | false => exact hb Z L1 st1 H1 s rr d st' Q f1.wd (e.keep f1) h fun v H3 L3 f3 p3 => q v H3 L3 (f1.trans f3) p3
theorem den_bl {L : List Addr} {B : Addr → Prop} {H : Hp} {b : Bool} {v : V} (h : Den L B H (.bl b) v) : v = .bl b := by unfold Den at h; exact h
theorem den_int {L : List Addr} {B : Addr → Prop} {H : Hp} {b : Int} {v : V} (h : Den L B H (.int b) v) : v = .int b := by unfold Den at h; exact h
theorem den_str {L : List Addr} {B : Addr → Prop} {H : Hp} {b : Str} {v : V} (h : Den L B H (.str b) v) : v = .str b := by unfold Den at h; exact h
theorem den_non {L : List Addr} {B : Addr → Prop} {H : Hp} {v : V} (h : Den L B H .non v) : v = .non := by unfold Den at h; exact h
theorem Den.int {L : List Addr} {B : Addr → Prop} {H : Hp} {i : Int} : Den L B H (.int i) (.int i) := by unfold Den; rfl
theorem Den.str {L : List Addr} {B : Addr → Prop} {H : Hp} {i : Str} : Den L B H (.str i) (.str i) := by unfold Den; rfl
theorem Den.bl {L : List Addr} {B : Addr → Prop} {H : Hp} {i : Bool} : Den L B H (.bl i) (.bl i) := by unfold Den; rfl
theorem Den.non {L : List Addr} {B : Addr → Prop} {H : Hp} : Den L B H .non .non := by unfold Den; rfl
theorem sim_chain {r r' : R2} {g g' : Sto → Dt → Dt → Option (Dt × Sto)} (ho : VO2 T r g) (ho' : VO2 T r' g') (ha : SimE T ta fa) (hb : SimE T tb fb) (hc : SimE T tc fc) : SimE T (tChain r r' ta tb tc) (eChain g g' fa fb fc) := by
  intro Z L st H s rr d st' Q w e h q
  obtain ⟨⟨dx, st1⟩, h1, h⟩ := bind_some' h
  obtain ⟨⟨dy, st2⟩, h2, h⟩ := bind_some' h
  obtain ⟨⟨dz, st3⟩, h3, h⟩ := bind_some' h
  refine ha Z L st H s rr dx st1 _ w e h1 fun x H1 L1 f1 p1 => ?_
  refine hb Z L1 st1 H1 s rr dy st2 _ f1.wd (e.keep f1) h2 fun y H2 L2 f2 p2 => ?_
  refine ho Z L2 st2 H2 x y dx dy dz st3 _ f2.wd (p1.keep f2) p2 h3 fun v H3 L3 f3 p3 => ?_
  cases dz with
  | bl b =>
    refine ⟨b, den_bl p3, ?_⟩
    cases b with
    | false =>
      cases h
      exact iteF (q _ H3 L3 (f1.trans (f2.trans f3)) Den.bl)
    | true =>
      obtain ⟨⟨dw, st4⟩, h4, h⟩ := bind_some' h
      refine iteT (hc Z L3 st3 H3 s rr dw st4 _ f3.wd (((e.keep f1).keep f2).keep f3) h4 fun u H4 L4 f4 p4 => ?_)
      exact ho' Z L4 st4 H4 y u dy dw d st' Q f4.wd ((p2.keep f3).keep f4) p4 h fun v H5 L5 f5 p5 => q v H5 L5 (f1.trans (f2.trans (f3.trans (f4.trans f5)))) p5
  | _ => cases h
theorem sim_andV (ha : SimE T ta fa) (hb : SimE T tb fb) : SimE T (tAndV ta tb) (eAndV fa fb) := by
  intro Z L st H s rr d st' Q w e h q
  obtain ⟨⟨dx, st1⟩, h1, h⟩ := bind_some' h
  refine ha Z L st H s rr dx st1 _ w e h1 fun x H1 L1 f1 p1 => ?_
  cases dx with
  | bl b =>
    refine ⟨b, den_bl p1, ?_⟩
    cases b with
    | false => cases h; exact iteF (q _ H1 L1 f1 Den.bl)
    | true => exact iteT (hb Z L1 st1 H1 s rr d st' Q f1.wd (e.keep f1) h fun v H3 L3 f3 p3 => q v H3 L3 (f1.trans f3) p3)
  | _ => cases h
theorem sim_orV (ha : SimE T ta fa) (hb : SimE T tb fb) : SimE T (tOrV ta tb) (eOrV fa fb) := by
  intro Z L st H s rr d st' Q w e h q
  obtain ⟨⟨dx, st1⟩, h1, h⟩ := bind_some' h
  refine ha Z L st H s rr dx st1 _ w e h1 fun x H1 L1 f1 p1 => ?_
  cases dx with
  | bl b =>
    refine ⟨b, den_bl p1, ?_⟩
    cases b with
    | true => cases h; exact iteT (q _ H1 L1 f1 Den.bl)
    | false => exact iteF (hb Z L1 st1 H1 s rr d st' Q f1.wd (e.keep f1) h fun v H3 L3 f3 p3 => q v H3 L3 (f1.trans f3) p3)
  | _ => cases h
theorem sim_notV (ha : SimE T ta fa) : SimE T (tNotV ta) (eNotV fa) := by
  intro Z L st H s rr d st' Q w e h q
  obtain ⟨⟨dx, st1⟩, h1, h⟩ := bind_some' h
  refine ha Z L st H s rr dx st1 _ w e h1 fun x H1 L1 f1 p1 => ?_
  cases dx with
  | bl b => cases h; exact ⟨b, den_bl p1, q _ H1 L1 f1 Den.bl⟩
  | _ => cases h
theorem sim_cB (ha : SimE T ta fa) : SimT T (tB ta) (cB fa) := by
  intro Z L st H s rr d st' Q w e h q
  obtain ⟨⟨dx, st1⟩, h1, h⟩ := bind_some' h
  refine ha Z L st H s rr dx st1 _ w e h1 fun x H1 L1 f1 p1 => ?_
  cases dx with
  | bl b => cases h; exact ⟨_, den_bl p1, q H1 L1 f1⟩
  | _ => cases h
theorem sim_cBT (ha : SimE T ta fa) : SimT T (tTest ta) (cB fa) := sim_cB ha
theorem sim_and {t u : TT} {c e : ST} (hc : SimT T t c) (he : SimT T u e) : SimT T (tAnd t u) (cAnd c e) := by
  intro Z L st H s rr d st' Q w ev h q
  obtain ⟨⟨b, st1⟩, h1, h⟩ := bind_some' h
  refine hc Z L st H s rr b st1 _ w ev h1 fun H1 L1 f1 => ?_
  cases b with
  | true => exact iteT (he Z L1 st1 H1 s rr d st' Q f1.wd (ev.keep f1) h fun H3 L3 f3 => q H3 L3 (f1.trans f3))
  | false => cases h; exact iteF (q H1 L1 f1)
theorem sim_or {t u : TT} {c e : ST} (hc : SimT T t c) (he : SimT T u e) : SimT T (tOr t u) (cOr c e) := by
  intro Z L st H s rr d st' Q w ev h q
  obtain ⟨⟨b, st1⟩, h1, h⟩ := bind_some' h
  refine hc Z L st H s rr b st1 _ w ev h1 fun H1 L1 f1 => ?_
  cases b with
  | true => cases h; exact iteT (q H1 L1 f1)
  | false => exact iteF (he Z L1 st1 H1 s rr d st' Q f1.wd (ev.keep f1) h fun H3 L3 f3 => q H3 L3 (f1.trans f3))
theorem sim_not {t : TT} {c : ST} (hc : SimT T t c) : SimT T (tNot t) (cNot c) := by
  intro Z L st H s rr d st' Q w ev h q
  obtain ⟨⟨b, st1⟩, h1, h⟩ := bind_some' h
  cases h
  exact hc Z L st H s rr b st1 _ w ev h1 fun H1 L1 f1 => q H1 L1 f1
theorem sim_yes : SimT T tYes cYes := by
  intro Z L st H s rr d st' Q w ev h q
  cases h
  exact q H L (.refl w)
end

/-! ### statements -/
def sNx : SS := fun r st => some (.nx r st)
def sBk : SS := fun r st => some (.bk r st)
def sCt : SS := fun r st => some (.ct r st)
def sRet (f : SE) : SS := fun r st => (f r st).bind fun x => some (.rt x.1 x.2)
def sRetN : SS := fun _ st => some (.rt .non st)
def sEx (f : SE) : SS := fun r st => (f r st).bind fun x => some (.nx r x.2)
def sSet (i : Nat) (f : SE) : SS := fun r st => (f r st).bind fun x => some (.nx (r.set i (some x.1)) x.2)
def sSeq (g k : SS) : SS := fun r st => (g r st).bind fun o => match o with
  | .nx r' st' => k r' st'
  | o => some o
def sIf (c : ST) (g k : SS) : SS := fun r st => (c r st).bind fun b => if b.1 = true then g r b.2 else k r b.2
def sNo : SS := fun _ _ => none
def sWh (c : ST) (g : SS) : Nat → SS
  | 0 => fun _ _ => none
  | n + 1 => fun r st => (c r st).bind fun b => if b.1 = true then (g r b.2).bind fun o => match o with
      | .nx r' st' => sWh c g n r' st'
      | .ct r' st' => sWh c g n r' st'
      | .bk r' st' => some (.nx r' st')
      | .rt d st' => some (.rt d st')
    else some (.nx r b.2)
/-- an object in the slot i is left to be -/
def sFrz (i : Nat) : SS := fun r st => match r[i]? with
  | some (some (.ref k)) => (match st[k]? with
    | some (some d) => some (.nx (r.set i (some d)) (st.set k none))
    | _ => none)
  | _ => none
section
variable {T : List (Addr × Str)} {ta tb tc : TE} {fa fb fc : SE}
theorem OuOk.after {Z : Addr → Prop} {L L1 : List Addr} {st st1 : Sto} {H H1 : Hp} {D : Ends} {o : Ou} (f : Af T Z L st H L1 st1 H1) (h : OuOk T Z L st H D o) : OuOk T Z L1 st1 H1 D o := by
  cases o with
  | nx r st' => exact fun s H' L' g e => h s H' L' (f.trans g) e
  | rt d st' => exact fun s H' L' g e => h s H' L' (f.trans g) e
  | bk r st' => exact fun s H' L' g e => h s H' L' (f.trans g) e
  | ct r st' => exact fun s H' L' g e => h s H' L' (f.trans g) e
theorem sim_nx : SimS T tNext sNx := by
  intro Z L st H s r o D w e h q
  cases h
  exact q s H L (.refl w) e
theorem sim_break : SimS T tBreak sBk := by
  intro Z L st H s r o D w e h q
  cases h
  exact q s H L (.refl w) e
theorem sim_cont : SimS T tCont sCt := by
  intro Z L st H s r o D w e h q
  cases h
  exact q s H L (.refl w) e
theorem sim_never : SimS T tNever sNo := by
  intro Z L st H s r o D w e h q
  cases h
theorem sim_ret (ha : SimE T ta fa) : SimS T (tRet ta) (sRet fa) := by
  intro Z L st H s r o D w e h q
  obtain ⟨⟨dx, st1⟩, h1, h⟩ := bind_some' h
  cases h
  exact ha Z L st H s r dx st1 _ w e h1 fun v H1 L1 f1 p1 => q v H1 L1 f1 p1
theorem sim_retN : SimS T tRetN sRetN := by
  intro Z L st H s r o D w e h q
  cases h
  exact q .non H L (.refl w) Den.non
theorem sim_ex (ha : SimE T ta fa) : SimS T (tDrop ta) (sEx fa) := by
  intro Z L st H s r o D w e h q
  obtain ⟨⟨dx, st1⟩, h1, h⟩ := bind_some' h
  cases h
  exact ha Z L st H s r dx st1 _ w e h1 fun v H1 L1 f1 p1 => q s H1 L1 f1 (e.keep f1)
theorem sim_set {i : Nat} (ha : SimE T ta fa) : SimS T (tAsg ta (gName i)) (sSet i fa) := by
  intro Z L st H s r o D w e h q
  obtain ⟨⟨dx, st1⟩, h1, h⟩ := bind_some' h
  cases h
  exact ha Z L st H s r dx st1 _ w e h1 fun v H1 L1 f1 p1 => q _ H1 L1 f1 ((e.keep f1).set i p1)
theorem sim_seq {t u : TS} {g k : SS} (h1 : SimS T t g) (h2 : SimS T u k) : SimS T (tSeq t u) (sSeq g k) := by
  intro Z L st H s r o D w e h q
  obtain ⟨o1, a1, h⟩ := bind_some' h
  refine h1 Z L st H s r o1 _ w e a1 ?_
  cases o1 with
  | nx r' st' => exact fun s1 H1 L1 f1 e1 => h2 Z L1 st' H1 s1 r' o D f1.wd e1 h (q.after f1)
  | rt d st' => cases h; exact q
  | bk r' st' => cases h; exact q
  | ct r' st' => cases h; exact q
theorem sim_ifS {t : TT} {c : ST} {u v : TS} {g k : SS} (hc : SimT T t c) (h1 : SimS T u g) (h2 : SimS T v k) : SimS T (tIfS t u v) (sIf c g k) := by
  intro Z L st H s r o D w e h q
  obtain ⟨⟨b, st1⟩, a1, h⟩ := bind_some' h
  refine hc Z L st H s r b st1 _ w e a1 fun H1 L1 f1 => ?_
  cases b with
  | true => exact iteT (h1 Z L1 st1 H1 s r o D f1.wd (e.keep f1) h (q.after f1))
  | false => exact iteF (h2 Z L1 st1 H1 s r o D f1.wd (e.keep f1) h (q.after f1))
theorem sim_wh {t : TT} {c : ST} {u : TS} {g : SS} (hc : SimT T t c) (hb : SimS T u g) (n : Nat) : SimS T (tWhile t u) (sWh c g n) := by
  intro Z L st H s r o D w e h q
  refine ⟨fun m s1 H1 => ∃ L1 st1 r1, Af T Z L st H L1 st1 H1 ∧ EnvOk L1 (Bad Z L1 st1) H1 r1 s1 ∧ sWh c g m r1 st1 = some o, ⟨n, L, st, r, .refl w, e, h⟩, ?_⟩
  rintro m s1 H1 ⟨L1, st1, r1, f1, e1, h1⟩
  cases m with
  | zero => cases h1
  | succ m =>
    obtain ⟨⟨b, st2⟩, a1, h2⟩ := bind_some' h1
    refine hc Z L1 st1 H1 s1 r1 b st2 _ f1.wd e1 a1 fun H2 L2 f2 => ?_
    cases b with
    | false =>
      rw [if_neg (by simp)] at h2
      cases h2
      exact iteF (q s1 H2 L2 (f1.trans f2) (e1.keep f2))
    | true =>
      rw [if_pos rfl] at h2
      obtain ⟨o1, a2, h3⟩ := bind_some' h2
      refine iteT ⟨fun s3 H3 => ∃ L3 st3 r3, Af T Z L st H L3 st3 H3 ∧ EnvOk L3 (Bad Z L3 st3) H3 r3 s3 ∧ sWh c g m r3 st3 = some o, fun s3 H3 x => ⟨m, Nat.lt_succ_self _, x⟩, ?_⟩
      refine hb Z L2 st2 H2 s1 r1 o1 _ f2.wd (e1.keep f2) a2 ?_
      cases o1 with
      | nx r' st' => exact fun s3 H3 L3 f3 e3 => ⟨L3, st', r', f1.trans (f2.trans f3), e3, h3⟩
      | ct r' st' => exact fun s3 H3 L3 f3 e3 => ⟨L3, st', r', f1.trans (f2.trans f3), e3, h3⟩
      | bk r' st' => cases h3; exact fun s3 H3 L3 f3 e3 => q s3 H3 L3 (f1.trans (f2.trans f3)) e3
      | rt d st' => cases h3; exact fun v H3 L3 f3 e3 => q v H3 L3 (f1.trans (f2.trans f3)) e3
/-- a ghost step ahead of a statement -/
theorem sim_frz {t : TS} {g : SS} {i : Nat} (h1 : SimS T t g) : SimS T t (sSeq (sFrz i) g) := by
  intro Z L st H s r o D w e h q
  obtain ⟨o1, a1, h⟩ := bind_some' h
  unfold sFrz at a1
  split at a1
  · rename_i k hk
    split at a1
    · rename_i d hd
      cases a1
      obtain ⟨v, v1, v2⟩ := e.2 i _ hk
      unfold Den at v2
      obtain ⟨a, la, rfl⟩ := v2
      obtain ⟨f, p⟩ := w.frz la hd
      refine h1 Z L (st.set k none) H s (r.set i (some d)) o D f.wd ?_ h (q.after f)
      have e2 := (e.keep f).set i p
      have e3 : s.set i (some (.ref a)) = s := by
        apply List.ext_getElem?
        intro j
        by_cases hj : i = j
        · subst hj
          rw [List.getElem?_set_self (List.getElem?_eq_some_iff.mp v1).1, v1]
        · rw [List.getElem?_set_ne hj]
      rw [e3] at e2
      exact e2
    · cases a1
  · cases a1
end
end HB

set_option Elab.async false
set_option linter.all false
set_option maxRecDepth 100000
set_option maxHeartbeats 1000000
/-! HB, part d: what is walked; for, comprehensions; defs. -/
namespace HB
open PySem PySem.Spec PyProof.Rows L2

/-- the walk gives the items one by one, in every later world -/
def WalkD (T : List (Addr × Str)) (Z : Addr → Prop) (L : List Addr) (st : Sto) (H : Hp) (J : It) (xs : List Dt) : Prop := ∀ Z1 L1 st1 H1, Afz T Z L st H Z1 L1 st1 H1 →
  J.stop xs.length H1 ∧ ∀ (i : Nat) (d : Dt), xs[i]? = some d → J.go i H1 ∧ ∀ x H2, J.yld i H1 x H2 → Afz T Z1 L1 st1 H1 Z1 L1 st1 H2 ∧ Den L1 (Bad Z1 L1 st1) H2 d x
def SimI (T : List (Addr × Str)) (t : TI) (f : SA) : Prop := ∀ Z L st H s r xs st' (Q : It → Hp → Prop), Wd T Z L st H → EnvOk L (Bad Z L st) H r s → f r st = some (xs, st') →
  (∀ J H' L', Af T Z L st H L' st' H' → WalkD T Z L' st' H' J xs → Q J H') → t s H Q
section
variable (T : List (Addr × Str)) (Z : Addr → Prop) (L : List Addr) (st : Sto) (H : Hp) (s : L2.St) (r : Evr)
/-- the same at one world -/
def EAt (t : TE) (f : SE) : Prop := ∀ d st' (Q : VK), f r st = some (d, st') → (∀ v H' L', Af T Z L st H L' st' H' → Den L' (Bad Z L' st') H' d v → Q v H') → t s H Q
def IAt (t : TI) (f : SA) : Prop := ∀ xs st' (Q : It → Hp → Prop), f r st = some (xs, st') → (∀ J H' L', Af T Z L st H L' st' H' → WalkD T Z L' st' H' J xs → Q J H') → t s H Q
end
theorem SimI.at {T : List (Addr × Str)} {t : TI} {f : SA} (h : SimI T t f) {Z : Addr → Prop} {L : List Addr} {st : Sto} {H : Hp} {s : L2.St} {r : Evr} (w : Wd T Z L st H) (e : EnvOk L (Bad Z L st) H r s) : IAt T Z L st H s r t f := fun xs st' Q a q => h Z L st H s r xs st' Q w e a q
/-- targets: is, the slots that may be set -/
abbrev SG := Dt → Evr → Option Evr
def SimG (T : List (Addr × Str)) (is : List Nat) (g : TG) (k : SG) : Prop := ∀ Z L st H s r v d r' (Q : L2.St → Hp → Prop), Wd T Z L st H → EnvOk L (Bad Z L st) H r s → Den L (Bad Z L st) H d v → k d r = some r' →
  (∀ s', EnvOk L (Bad Z L st) H r' s' → (∀ vs : List Nat, (∀ i ∈ is, i ∈ vs) → wipe s' vs = wipe s vs) → Q s' H) → g v s H Q
def SimGs (T : List (Addr × Str)) (is : List Nat) (g : TGs) (k : List Dt → Evr → Option Evr) : Prop := ∀ Z L st H s r vs ds r' (Q : L2.St → Hp → Prop), Wd T Z L st H → EnvOk L (Bad Z L st) H r s → Dens L (Bad Z L st) H ds vs → k ds r = some r' →
  (∀ s', EnvOk L (Bad Z L st) H r' s' → (∀ vs : List Nat, (∀ i ∈ is, i ∈ vs) → wipe s' vs = wipe s vs) → Q s' H) → g vs s H Q
theorem wipe_set {s : L2.St} {i : Nat} {x : Option V} : ∀ {vs : List Nat}, i ∈ vs → wipe (s.set i x) vs = wipe s vs
  | [], h => by simp at h
  | v :: vs, h => by
    unfold wipe
    by_cases hv : i = v
    · subst hv
      by_cases hm : i ∈ vs
      · rw [wipe_set hm]
      · have key : ∀ {us : List Nat}, i ∉ us → wipe (s.set i x) us = (wipe s us).set i x := by
          intro us
          induction us with
          | nil => intro _; rfl
          | cons u us ih =>
            intro hu
            simp only [List.mem_cons, not_or] at hu
            show (wipe (s.set i x) us).set u none = ((wipe s us).set u none).set i x
            rw [ih hu.2, List.set_comm _ _ hu.1]
        rw [key hm, List.set_set]
    · rcases List.mem_cons.mp h with e | hm
      · exact absurd e hv
      · rw [wipe_set hm]
theorem wipe_wipe (s : L2.St) : ∀ vs : List Nat, wipe (wipe s vs) vs = wipe s vs := by
  intro vs
  have key : ∀ (us : List Nat) (s : L2.St), (∀ u ∈ us, u ∈ vs) → wipe (wipe s us) vs = wipe s vs := by
    intro us
    induction us with
    | nil => intro s _; rfl
    | cons u us ih =>
      intro s h
      show wipe ((wipe s us).set u none) vs = wipe s vs
      rw [wipe_set (h u (by simp)), ih s (fun w hw => h w (by simp [hw]))]
  exact key vs s fun _ h => h
def wipeD (r : Evr) : List Nat → Evr
  | [] => r
  | v :: vs => (wipeD r vs).set v none
theorem EnvOk.forget {L : List Addr} {B : Addr → Prop} {H : Hp} {r : Evr} {s : L2.St} (e : EnvOk L B H r s) (i : Nat) : EnvOk L B H (r.set i none) (s.set i none) := by
  refine ⟨by rw [List.length_set, List.length_set]; exact e.1, fun j d h => ?_⟩
  by_cases hj : i = j
  · subst hj
    rw [List.getElem?_set, if_pos rfl] at h
    split at h <;> cases h
  · rw [List.getElem?_set_ne hj] at h
    obtain ⟨u, h1, h2⟩ := e.2 j d h
    exact ⟨u, by rw [List.getElem?_set_ne hj]; exact h1, h2⟩
theorem EnvOk.wipe {L : List Addr} {B : Addr → Prop} {H : Hp} {r : Evr} {s : L2.St} (e : EnvOk L B H r s) : ∀ vs : List Nat, EnvOk L B H (wipeD r vs) (L2.wipe s vs)
  | [] => e
  | v :: vs => (EnvOk.wipe e vs).forget v
def kName (i : Nat) : SG := fun d r => some (r.set i (some d))
def ksNil : List Dt → Evr → Option Evr := fun ds r => match ds with
  | [] => some r
  | _ => none
def ksCons (k : SG) (ks : List Dt → Evr → Option Evr) : List Dt → Evr → Option Evr := fun ds r => match ds with
  | d :: ds => (k d r).bind fun r' => ks ds r'
  | [] => none
def kTup (ks : List Dt → Evr → Option Evr) : SG := fun d r => match d with
  | .tup ds => ks ds r
  | _ => none
section
variable {T : List (Addr × Str)}
theorem sim_gname {i : Nat} : SimG T [i] (gName i) (kName i) := by
  intro Z L st H s r v d r' Q w e h k q
  cases k
  exact q _ (e.set i h) fun vs hv => wipe_set (hv i (by simp))
theorem sim_gnil : SimGs T [] gNil ksNil := by
  intro Z L st H s r vs ds r' Q w e h k q
  unfold ksNil at k
  cases ds with
  | nil =>
    cases k
    unfold Dens at h
    exact ⟨h, q s e fun _ _ => rfl⟩
  | cons d ds => cases k
theorem sim_gcons {is js : List Nat} {t : TG} {k : SG} {u : TGs} {ks : List Dt → Evr → Option Evr} (h1 : SimG T is t k) (h2 : SimGs T js u ks) : SimGs T (is ++ js) (gCons t u) (ksCons k ks) := by
  intro Z L st H s r vs ds r' Q w e h kk q
  unfold ksCons at kk
  cases ds with
  | nil => cases kk
  | cons d ds =>
    obtain ⟨r1, a1, a2⟩ := bind_some' kk
    obtain ⟨v, vr, rfl, p, t'⟩ := h.uncons
    refine ⟨v, vr, rfl, h1 Z L st H s r v d r1 _ w e p a1 fun s1 e1 w1 => ?_⟩
    exact h2 Z L st H s1 r1 vr ds r' Q w e1 t' a2 fun s2 e2 w2 => q s2 e2 fun vs hv => (w2 vs fun i hi => hv i (by simp [hi])).trans (w1 vs fun i hi => hv i (by simp [hi]))
theorem sim_gtup {K : PySem.W.Frag} {n : Nat} {is : List Nat} {t : TGs} {ks : List Dt → Evr → Option Evr} (h : SimGs T is t ks) (hn : ∀ ds r r', ks ds r = some r' → ds.length = n) : SimG T is (gTup K n t) (kTup ks) := by
  intro Z L st H s r v d r' Q w e hd k q
  unfold kTup at k
  cases d with
  | tup ds =>
    unfold Den at hd
    obtain ⟨a, vs, rfl, ea, t'⟩ := hd
    refine ⟨a, vs, rfl, SqT.of ea, ?_, h Z L st H s r vs ds r' Q w e t' k q⟩
    rw [← t'.len]
    exact hn ds r r' k
  | _ => cases k
end

/-! ### for -/
def sForGo (k : SG) (g : SS) : List Dt → SS
  | [] => fun r st => some (.nx r st)
  | x :: xs => fun r st => (k x r).bind fun r1 => (g r1 st).bind fun o => match o with
    | .nx r' st' => sForGo k g xs r' st'
    | .ct r' st' => sForGo k g xs r' st'
    | .bk r' st' => some (.nx r' st')
    | .rt d st' => some (.rt d st')
def sFor (f : SA) (k : SG) (g : SS) : SS := fun r st => (f r st).bind fun xs => sForGo k g xs.1 r xs.2
section
variable {T : List (Addr × Str)}
theorem for_run {is : List Nat} {wi : TI} {f : SA} {g : TG} {k : SG} {tb : TS} {gb : SS} {Z : Addr → Prop} {L : List Addr} {st : Sto} {H : Hp} {s : L2.St} {r : Evr} {o : Ou} {D : Ends} (hi : IAt T Z L st H s r wi f) (hg : SimG T is g k) (hb : SimS T tb gb) (w : Wd T Z L st H) (e : EnvOk L (Bad Z L st) H r s) (h : sFor f k gb r st = some o) (q : OuOk T Z L st H D o) : tFor wi g tb D s H := by
  obtain ⟨⟨xs, st1⟩, a1, h⟩ := bind_some' h
  refine hi xs st1 _ a1 fun J H1 L1 f1 wk => ?_
  refine ⟨fun i m s2 H2 => m = xs.length - i ∧ i ≤ xs.length ∧ ∃ L2 st2 r2, Af T Z L1 st1 H1 L2 st2 H2 ∧ EnvOk L2 (Bad Z L2 st2) H2 r2 s2 ∧ sForGo k gb (xs.drop i) r2 st2 = some o,
    ⟨xs.length, by simp, Nat.zero_le _, L1, st1, r, .refl f1.wd, e.keep f1, h⟩, ?_⟩
  rintro i m s2 H2 ⟨rfl, hle, L2, st2, r2, f2, e2, h2⟩
  obtain ⟨ws, wg⟩ := wk Z L2 st2 H2 f2
  by_cases hlt : i < xs.length
  · right
    obtain ⟨go, yl⟩ := wg i xs[i] (List.getElem?_eq_getElem hlt)
    refine ⟨go, fun s5 H5 => ∃ L5 st5 r5, Af T Z L1 st1 H1 L5 st5 H5 ∧ EnvOk L5 (Bad Z L5 st5) H5 r5 s5 ∧ sForGo k gb (xs.drop (i + 1)) r5 st5 = some o, fun s5 H5 x => ⟨xs.length - (i + 1), by omega, rfl, hlt, x⟩, fun x H3 y => ?_⟩
    obtain ⟨f3, p3⟩ := yl x H3 y
    rw [List.drop_eq_getElem_cons hlt] at h2
    obtain ⟨r3, b1, b2⟩ := bind_some' h2
    obtain ⟨o1, b3, b4⟩ := bind_some' b2
    refine hg Z L2 st2 H3 s2 r2 x _ r3 _ f3.wd (e2.keep f3) p3 b1 fun s3 e3 _ => ?_
    refine hb Z L2 st2 H3 s3 r3 o1 _ f3.wd e3 b3 ?_
    cases o1 with
    | nx r' st' => exact fun s4 H4 L4 f4 e4 => ⟨L4, st', r', f2.trans (f3.trans f4), e4, b4⟩
    | ct r' st' => exact fun s4 H4 L4 f4 e4 => ⟨L4, st', r', f2.trans (f3.trans f4), e4, b4⟩
    | bk r' st' => cases b4; exact fun s4 H4 L4 f4 e4 => q s4 H4 L4 (f1.trans (f2.trans (f3.trans f4))) e4
    | rt d st' => cases b4; exact fun v H4 L4 f4 e4 => q v H4 L4 (f1.trans (f2.trans (f3.trans f4))) e4
  · left
    have hx : i = xs.length := by omega
    subst hx
    rw [List.drop_length] at h2
    cases h2
    exact ⟨ws, q s2 H2 L2 (f1.trans f2) e2⟩
theorem sim_for {is : List Nat} {wi : TI} {f : SA} {g : TG} {k : SG} {tb : TS} {gb : SS} (hi : SimI T wi f) (hg : SimG T is g k) (hb : SimS T tb gb) : SimS T (tFor wi g tb) (sFor f k gb) :=
  fun Z L st H s r o D w e h q => for_run (hi.at w e) hg hb w e h q
end

/-! ### list comprehensions -/
def lcGo (k : SG) (c : ST) (f : SE) (r : Evr) : List Dt → Sto → Option (List Dt × Sto)
  | [], st => some ([], st)
  | x :: xs, st => (k x r).bind fun r1 => (c r1 st).bind fun b => if b.1 = true then (f r1 b.2).bind fun y => (lcGo k c f r xs y.2).bind fun z => some (y.1 :: z.1, z.2) else lcGo k c f r xs b.2
def lc (fi : SA) (own : List Nat) (k : SG) (c : ST) (f : SE) : SA := fun r st => (fi r st).bind fun xs => (lcGo k c f (wipeD r own) xs.1 xs.2).bind fun z => if z.1.length ≤ sizeLine then some z else none
/-- as a value, as a new live object -/
def toV (f : SA) : SE := fun r st => (f r st).bind fun z => some (.lst z.1, z.2)
def toR (f : SA) : SE := fun r st => (f r st).bind fun z => some (.ref z.2.length, z.2 ++ [some (.lst z.1)])
section
variable {T : List (Addr × Str)}
theorem lc_run {is own : List Nat} {wi : TI} {fi : SA} {g : TG} {k : SG} {tt : TT} {c : ST} {te : TE} {f : SE} {Z : Addr → Prop} {L : List Addr} {st : Sto} {H : Hp} {s : L2.St} {r : Evr} {zs : List Dt} {st' : Sto} {Q : VK} (hi : IAt T Z L st H s r wi fi) (hg : SimG T is g k) (hc : SimT T tt c) (hf : SimE T te f) (hs : ∀ i ∈ is, i ∈ own)
    (w : Wd T Z L st H) (e : EnvOk L (Bad Z L st) H r s) (h : lc fi own k c f r st = some (zs, st'))
    (q : ∀ D vs H' L', Afz T Z L st H (zAnd Z D) L' st' H' → H D = none → H' D = some (.lst vs) → Dens L' (Bad (zAnd Z D) L' st') H' zs vs → Q (.ref D) H') : tLc wi g tt te own s H Q := by
  obtain ⟨⟨xs, st1⟩, a1, h⟩ := bind_some' h
  obtain ⟨⟨ys, st9⟩, a2, h⟩ := bind_some' h
  split at h
  case isFalse => cases h
  case isTrue hz =>
  cases h
  refine hi xs st1 _ a1 fun J H1 L1 f1 wk D nD => ?_
  have nD0 : H D = none := by
    cases qq : H D with
    | none => rfl
    | some o => exact absurd nD (f1.trk D (by rw [qq]; simp))
  have m1 : Afz T Z L1 st1 H1 (zAnd Z D) L1 st1 (upd H1 D (.lst [])) := Afz.mine f1.wd nD
  refine ⟨fun i m H2 => m = xs.length - i ∧ i ≤ xs.length ∧ ∃ L2 st2 acc rest vs, Afz T Z L1 st1 H1 (zAnd Z D) L2 st2 H2 ∧ H2 D = some (.lst vs) ∧ Dens L2 (Bad (zAnd Z D) L2 st2) H2 acc vs ∧ lcGo k c f (wipeD r own) (xs.drop i) st2 = some (rest, st') ∧ acc ++ rest = zs,
    ⟨xs.length, by simp, Nat.zero_le _, L1, st1, [], zs, [], m1, upd_same, .nil, a2, rfl⟩, ?_⟩
  rintro i m H2 ⟨rfl, hle, L2, st2, acc, rest, vs, f2, hD, hacc, h2, ez⟩
  obtain ⟨ws, wg⟩ := wk (zAnd Z D) L2 st2 H2 f2
  by_cases hlt : i < xs.length
  · right
    obtain ⟨go, yl⟩ := wg i xs[i] (List.getElem?_eq_getElem hlt)
    rw [List.drop_eq_getElem_cons hlt] at h2
    obtain ⟨r3, b1, b2⟩ := bind_some' h2
    obtain ⟨⟨b, st3⟩, b3, b4⟩ := bind_some' b2
    refine ⟨go, fun H5 => ∃ L5 st5 acc5 rest5 vs5, Afz T Z L1 st1 H1 (zAnd Z D) L5 st5 H5 ∧ H5 D = some (.lst vs5) ∧ Dens L5 (Bad (zAnd Z D) L5 st5) H5 acc5 vs5 ∧ lcGo k c f (wipeD r own) (xs.drop (i + 1)) st5 = some (rest5, st') ∧ acc5 ++ rest5 = zs,
      fun H5 x => ⟨xs.length - (i + 1), by omega, rfl, hlt, x⟩, fun x H3 y => ?_⟩
    obtain ⟨f3, p3⟩ := yl x H3 y
    have e3 := (((e.keep f1).keep f2).keep f3).wipe own
    refine hg (zAnd Z D) L2 st2 H3 _ _ x _ r3 _ f3.wd e3 p3 b1 fun s4 e4 wp => ⟨?_, ?_⟩
    · rw [wp own hs, wipe_wipe]
    refine hc (zAnd Z D) L2 st2 H3 s4 r3 b st3 _ f3.wd e4 b3 fun H4 L4 f4 => ?_
    have keepD : ∀ {L' : List Addr} {st'' : Sto} {H' : Hp}, Afz T (zAnd Z D) L2 st2 H2 (zAnd Z D) L' st'' H' → H' D = some (.lst vs) := fun ff => ff.kp D _ hD (fun z => by
      obtain ⟨j, d, j1, j2⟩ := z
      exact (f2.wd.own j D d j1 j2).1 (.inr rfl)) (fun ps z => by cases z)
    cases b with
    | false =>
      rw [if_neg (by simp)] at b4
      exact iteF ⟨L4, st3, acc, rest, vs, f2.trans (f3.trans f4), keepD (f3.trans f4), (hacc.keep f3).keep f4, b4, ez⟩
    | true =>
      rw [if_pos rfl] at b4
      obtain ⟨⟨dy, st5⟩, c1, c2⟩ := bind_some' b4
      obtain ⟨⟨rest5, st6⟩, c3, c4⟩ := bind_some' c2
      cases c4
      refine iteT (hf (zAnd Z D) L4 st3 H4 s4 r3 dy st5 _ f4.wd (e4.keep f4) c1 fun y H5 L5 f5 p5 => ?_)
      have fall := f3.trans (f4.trans f5)
      have hacc5 := ((hacc.keep f3).keep f4).keep f5
      have hlen : vs.length < sizeLine := by
        rw [← hacc.len]
        have : (acc ++ dy :: rest5).length ≤ sizeLine := by rw [ez]; exact hz
        rw [List.length_append, List.length_cons] at this
        omega
      have zD : zAnd Z D D := .inr rfl
      have hD5 := keepD fall
      have tD5 : ∀ zs, H5 D ≠ some (.tup zs) := fun zs z => by rw [hD5] at z; cases z
      have wd6 : Wd T (zAnd Z D) L5 st5 (upd H5 D (.lst (vs ++ [y]))) := f5.wd.chg zD fun u eu => by rw [hD5] at eu; cases eu; exact .inl ⟨_, rfl⟩
      have fa := f2.trans fall
      refine ⟨vs, hD5, hlen, L5, st5, acc ++ [dy], rest5, vs ++ [y], ⟨wd6, fa.pre, fun b u eb nl nt => ?_, fa.nw, fun b n z => ?_, fun b us eb => ?_, fa.fr, fa.zs⟩, upd_same, (hacc5.append (.cons p5 .nil)).chg (.inl zD) tD5, c3, by rw [← ez]; simp⟩
      · rw [upd_ne (ne_of_none eb nD)]; exact fa.kp b u eb nl nt
      · by_cases hb : b = D
        · rw [hb, upd_same] at z; cases z
        · rw [upd_ne hb] at z; exact fa.trk b n z
      · rw [upd_ne (ne_of_none eb nD)]; exact fa.tp b us eb
  · left
    have hx : i = xs.length := by omega
    subst hx
    rw [List.drop_length] at h2
    cases h2
    rw [List.append_nil] at ez
    subst ez
    exact ⟨ws, q D vs H2 L2 (f1.trans f2) nD0 hD hacc⟩
theorem Afz.back {Z : Addr → Prop} {L L' : List Addr} {st st' : Sto} {H H' : Hp} {D : Addr} (f : Afz T Z L st H (zAnd Z D) L' st' H') : Af T Z L st H L' st' H' :=
  ⟨f.wd.less fun b z => .inl z, f.pre, f.kp, f.nw, f.trk, f.tp, f.fr, fun a z => .inl z⟩
theorem bad_zAnd {Z : Addr → Prop} {L : List Addr} {st : Sto} {D : Addr} : ∀ b, Bad Z L st b → Bad (zAnd Z D) L st b := fun b z => z.elim (fun y => .inl (.inl y)) .inr
theorem at_lcV {is own : List Nat} {wi : TI} {fi : SA} {g : TG} {k : SG} {tt : TT} {c : ST} {te : TE} {f : SE} {Z : Addr → Prop} {L : List Addr} {st : Sto} {H : Hp} {s : L2.St} {r : Evr} (hi : IAt T Z L st H s r wi fi) (hg : SimG T is g k) (hc : SimT T tt c) (hf : SimE T te f) (hs : ∀ i ∈ is, i ∈ own) (w : Wd T Z L st H) (e : EnvOk L (Bad Z L st) H r s) : EAt T Z L st H s r (tLc wi g tt te own) (toV (lc fi own k c f)) := by
  intro d st' Q h q
  obtain ⟨⟨zs, st1⟩, a1, h⟩ := bind_some' h
  cases h
  refine lc_run hi hg hc hf hs w e a1 fun D vs H' L' ff nD hD hv => ?_
  refine q _ H' L' ff.back ?_
  unfold Den
  refine ⟨D, vs, rfl, fun z => ?_, hD, hv.mono bad_zAnd⟩
  rcases z with z | ⟨j, d, j1, j2⟩
  · exact w.zt D z nD
  · exact (ff.wd.own j D d j1 j2).1 (.inr rfl)
theorem sim_lcV {is own : List Nat} {wi : TI} {fi : SA} {g : TG} {k : SG} {tt : TT} {c : ST} {te : TE} {f : SE} (hi : SimI T wi fi) (hg : SimG T is g k) (hc : SimT T tt c) (hf : SimE T te f) (hs : ∀ i ∈ is, i ∈ own := by decide) : SimE T (tLc wi g tt te own) (toV (lc fi own k c f)) := by
  intro Z L st H s r d st' Q w e h q
  obtain ⟨⟨zs, st1⟩, a1, h⟩ := bind_some' h
  cases h
  refine lc_run (hi.at w e) hg hc hf hs w e a1 fun D vs H' L' ff nD hD hv => ?_
  refine q _ H' L' ff.back ?_
  unfold Den
  refine ⟨D, vs, rfl, fun z => ?_, hD, hv.mono bad_zAnd⟩
  rcases z with z | ⟨j, d, j1, j2⟩
  · exact w.zt D z nD
  · exact (ff.wd.own j D d j1 j2).1 (.inr rfl)
/-- what was ours alone becomes a live object -/
theorem Afz.claim {Z : Addr → Prop} {L L' : List Addr} {st st' : Sto} {H H' : Hp} {D : Addr} {o : HO} {d : Dt} (f : Afz T Z L st H (zAnd Z D) L' st' H') (w0 : Wd T Z L st H) (nD : H D = none) (hD : H' D = some o) (ho : OwnO L' (Bad (zAnd Z D) L' st') H' o d) : Af T Z L st H (L' ++ [D]) (st' ++ [some d]) H' := by
  have w := f.wd
  have nl : ∀ (j : Nat) e, L'[j]? = some D → st'[j]? = some (some e) → False := fun j e j1 j2 => (w.own j D e j1 j2).1 (.inr rfl)
  have hb : ∀ b, Bad Z (L' ++ [D]) (st' ++ [some d]) b → H' b ≠ none → Bad (zAnd Z D) L' st' b := fun b z _ => by
    rcases z with z | z
    · exact .inl (.inl z)
    · rcases (liv_push w.len).mp z with z | ⟨rfl, _⟩
      · exact .inr z
      · exact .inl (.inr rfl)
  have tr : ∀ ds vs, Dens L' (Bad (zAnd Z D) L' st') H' ds vs → Dens (L' ++ [D]) (Bad Z (L' ++ [D]) (st' ++ [some d])) H' ds vs := fun ds vs q => Dens.push hb q
  have get : ∀ (k : Nat) (b : Addr) (e : Dt), (L' ++ [D])[k]? = some b → (st' ++ [some d])[k]? = some (some e) → (L'[k]? = some b ∧ st'[k]? = some (some e)) ∨ (k = L'.length ∧ b = D ∧ e = d) := by
    intro k b e h1 h2
    have hl := w.len
    by_cases hk : k < L'.length
    · rw [List.getElem?_append_left hk] at h1
      rw [List.getElem?_append_left (by omega)] at h2
      exact .inl ⟨h1, h2⟩
    · have hk2 : k = L'.length := by
        have := (List.getElem?_eq_some_iff.mp h1).1
        simp at this
        omega
      subst hk2
      simp at h1
      rw [hl] at h2
      simp at h2
      exact .inr ⟨rfl, h1.symm, h2.symm⟩
  refine ⟨⟨w.tabs, by simp [w.len], fun i j b x y h1 h2 h3 h4 => ?_, fun k b e h1 h2 => ?_, fun b z => w.zt b (.inl z)⟩, ?_, f.kp, fun b l => ?_, f.trk, f.tp, fun k b hl e => ?_, fun a z => .inl z⟩
  · rcases get i b x h1 h3 with ⟨a1, a2⟩ | ⟨i1, i2, _⟩ <;> rcases get j b y h2 h4 with ⟨b1, b2⟩ | ⟨j1, j2, _⟩
    · exact w.inj i j b x y a1 b1 a2 b2
    · subst j2; exact (nl i x a1 a2).elim
    · subst i2; exact (nl j y b1 b2).elim
    · omega
  · rcases get k b e h1 h2 with ⟨a1, a2⟩ | ⟨_, rfl, rfl⟩
    · obtain ⟨nz, u, eu, q⟩ := w.own k b e a1 a2
      exact ⟨fun z => nz (.inl z), u, eu, q.imp tr⟩
    · exact ⟨fun z => w0.zt b z nD, o, hD, ho.imp tr⟩
  · obtain ⟨M, rfl⟩ := f.pre
    exact ⟨M ++ [D], by simp⟩
  · rcases (liv_push w.len).mp l with z | ⟨rfl, _⟩
    · exact f.nw b z
    · exact .inr nD
  · by_cases hk : k < L'.length
    · rw [List.getElem?_append_left hk] at e
      exact f.fr k b hl e
    · have e2 : k = L'.length := by
        have := (List.getElem?_eq_some_iff.mp e).1
        simp at this
        omega
      subst e2
      simp at e
      rw [← e]; exact nD
theorem sim_lcR {is own : List Nat} {wi : TI} {fi : SA} {g : TG} {k : SG} {tt : TT} {c : ST} {te : TE} {f : SE} (hi : SimI T wi fi) (hg : SimG T is g k) (hc : SimT T tt c) (hf : SimE T te f) (hs : ∀ i ∈ is, i ∈ own := by decide) : SimE T (tLc wi g tt te own) (toR (lc fi own k c f)) := by
  intro Z L st H s r d st' Q w e h q
  obtain ⟨⟨zs, st1⟩, a1, h⟩ := bind_some' h
  cases h
  refine lc_run (hi.at w e) hg hc hf hs w e a1 fun D vs H' L' ff nD hD hv => ?_
  refine q _ H' (L' ++ [D]) (ff.claim w nD hD ⟨vs, rfl, hv⟩) ?_
  unfold Den
  exact ⟨D, by rw [← ff.wd.len]; simp, rfl⟩
end
end HB

set_option Elab.async false
set_option linter.all false
set_option maxRecDepth 100000
set_option maxHeartbeats 1000000
/-! HB, part e: defs that are called where no repr is under way; pure ones, ones that make a new object, ones that change one object. -/
namespace HB
open PySem PySem.Spec PyProof.Rows L2

theorem nodupIx {α : Type} {x : α} : ∀ {l : List α} {i j : Nat}, l.Nodup → l[i]? = some x → l[j]? = some x → i = j
  | [], _, _, _, h, _ => by simp at h
  | _ :: _, 0, 0, _, _, _ => rfl
  | y :: l, 0, j + 1, nd, h1, h2 => by
    simp at h1; subst h1
    exact absurd (List.mem_of_getElem? (by simpa using h2)) (List.nodup_cons.mp nd).1
  | y :: l, i + 1, 0, nd, h1, h2 => by
    simp at h2; subst h2
    exact absurd (List.mem_of_getElem? (by simpa using h1)) (List.nodup_cons.mp nd).1
  | y :: l, i + 1, j + 1, nd, h1, h2 => congrArg (· + 1) (nodupIx (List.nodup_cons.mp nd).2 (by simpa using h1) (by simpa using h2))
/-- the def at f keeps sp wherever no object is being shown -/
structure GFn (P : Program) (w : World) (K : PySem.W.Frag) (mg : Str → Option Value) (base : Heap) (k : Nat) (f : Addr) (fd : FuncData) (ps : List Str) (sp : Sp) : Prop where
  run : ∀ (A : Around) (outer : List Env) (s : Shared) (H : Hp) (args : Args) (us : List Value) (vs : List V) (Q : VK), Room k A → A.guards = some [] → Env0 P w K mg base A outer s H → BindsTo s fd args (ps.zip us) → us.length = ps.length → Vals vs us → sp vs H Q E0 →
    codeAny (model P w) A (.call (.ref f) args) (CR CX0 outer P w H s Q E0) s
/-- a global name that holds such a def -/
structure GCal (P : Program) (w : World) (K : PySem.W.Frag) (mg : Str → Option Value) (base : Heap) (k : Nat) (x : Str) (ps : List Str) (sp : Sp) : Prop where
  ex : ∃ (f : Addr) (fd : FuncData), mg x = some (.ref f) ∧ PySem.W.keepIn K (.ref f) = true ∧ GFn P w K mg base k f fd ps sp ∧
    (∀ (s : Shared) (us : List Value), us.length = ps.length → BindsTo s fd ⟨us, []⟩ (ps.zip us)) ∧
    ∀ (s : Shared) (p : List Nat) (ws : List Value), ws.length = ps.length → p.Perm (List.range ps.length) → BindsTo s fd ⟨[], (p.map fun i => ps.getD i "").zip (p.map fun i => ws.getD i .none)⟩ (ps.zip ws)
section
variable {P : Program} {w : World} {K : PySem.W.Frag} {mg : Str → Option Value} {base : Heap} {k j : Nat} {f : Addr} {fd : FuncData} {ps : List Str} {sp sp' : Sp}
theorem GFn.mono (F : GFn P w K mg base k f fd ps sp) (h : k ≤ j) : GFn P w K mg base j f fd ps sp := ⟨fun A outer s H args us vs Q hr => F.run A outer s H args us vs Q (hr.mono h)⟩
theorem GFn.imp (F : GFn P w K mg base k f fd ps sp) (h : ∀ vs H Q, sp' vs H Q E0 → sp vs H Q E0) : GFn P w K mg base k f fd ps sp' :=
  ⟨fun A outer s H args us vs Q hr hg e0 hb hl hv hs => F.run A outer s H args us vs Q hr hg e0 hb hl hv (h _ _ _ hs)⟩
end
section
variable {X : Cx} {k : Nat} {x : Str} {ps : List Str} {sp : Sp} {p pos : Pos} {e : Expr} {es : List Expr} {t : TA} {kws : List Keyword}
theorem run_g {f : Addr} {fd : FuncData} {pins : List (Addr × Obj)} {s1 : L2.St} {H : Hp} {s : Shared} {Q : VK} {us ws : List Value} {kw : List (Str × Value)} {vs : List V} (F : GFn X.prog X.w X.K X.mg X.base k f fd ps sp) (hr : Room k X.A) (hg : X.A.guards = some [])
    (hb : BindsTo s fd ⟨ws, kw⟩ (ps.zip us)) (hl : us.length = ps.length) (I : Inv X pins s1 H s) (r : Vals vs us) (h : sp vs H Q E0) : wpAny (model X.prog X.w) X.A (call (.ref f) ws kw) (EP X pins s1 Q) X.xe s := by
  refine wpAny_call (codeAny_mono (F.run X.A X.stack s H ⟨ws, kw⟩ us vs Q hr hg I.env0 hb hl r h) fun res s2 hq => ?_)
  match res, hq with
  | .error _, hq => exact False.elim hq
  | .ok (.ret _), hq => exact I.after hq
  | .ok .next, hq => exact False.elim hq
  | .ok .brk, hq => exact False.elim hq
  | .ok .cont, hq => exact False.elim hq
def tG (n : Nat) (sp : Sp) (t : TA) : TE := fun s H Q => t s H fun vs H1 => vs.length = n ∧ sp vs H1 Q E0
/-- f(e, ..) -/
theorem pe_g (c : GCal X.prog X.w X.K X.mg X.base k x ps sp) (hr : Room k X.A) (hg : X.A.guards = some []) (gl : Gl X x) (ha : PA X (e :: es) t) (hdb : (x == ("__debug__" : Str)) = false := by decide)
    (he : starEach (e :: es) X.env = (false, eval e X.env) :: starEach es X.env := by rfl) (hpl : (backTo pos (starEach es X.env)).any (·.1) = false := by rfl) : PE X (.Call (.Name x p) (e :: es) [] pos) (tG ps.length sp t) := by
  obtain ⟨f, fd, hm, hk, F, hb, _⟩ := c.ex
  constructor
  intro pins s s1 H Q I h
  refine wpAny_Call_Name_kw (ld_glob I gl hm ?_ hdb)
  refine PySem.W.callWith_K (h₀ := X.base) I.ok.mod.kin hk (thn (ha.run pos pins s s1 H _ I h) fun us s2 ⟨vs, H1, I1, r, hl, q⟩ => ⟨I1.kIn, ?_⟩) he hpl
  have hl' : us.length = ps.length := by rw [← r.length]; exact hl
  exact run_g F hr hg (hb s2 us hl') hl' I1 r q
/-- f(k = e, ..): q tells which parameter each keyword names -/
def tGk (n : Nat) (q : List Nat) (sp : Sp) (t : TA) : TE := fun s H Q => t s H fun vs H1 => ∃ us : List V, us.length = n ∧ vs = q.map (fun i => us.getD i .non) ∧ sp us H1 Q E0
theorem pe_gk {q : List Nat} (c : GCal X.prog X.w X.K X.mg X.base k x ps sp) (hr : Room k X.A) (hg : X.A.guards = some []) (gl : Gl X x) (hk : PK X kws t) (hq : q.Perm (List.range ps.length)) (hdb : (x == ("__debug__" : Str)) = false := by decide)
    (hall : (backToKw pos (keywordEach kws X.env)).all (·.1.isSome) = true := by rfl) (hks : (backToKw pos (keywordEach kws X.env)).filterMap (·.1) = q.map fun i => ps.getD i "" := by rfl)
    (hpl : ((backTo pos (starEach [] X.env)).any (·.1) || (backToKw pos (keywordEach kws X.env)).any (·.1.isNone)) = false := by rfl) : PE X (.Call (.Name x p) [] kws pos) (tGk ps.length q sp t) := by
  obtain ⟨f, fd, hm, hk', F, _, hb⟩ := c.ex
  constructor
  intro pins s s1 H Q I h
  refine wpAny_Call_Name_kw (ld_glob I gl hm ?_ hdb)
  refine PySem.W.callWith_KW0 (h₀ := X.base) I.ok.mod.kin hk' hall (thn (hk.run pos pins s s1 H _ I h) fun ws s2 ⟨vs, H1, I1, r, us, hl, ev, qq⟩ => ⟨I1.kIn, ?_⟩) hpl
  rw [hks]
  have hm' : ∀ i, i < us.length → ∃ j, q[j]? = some i := fun i hi => by
    have : i ∈ q := hq.mem_iff.mpr (by simp; omega)
    exact List.mem_iff_getElem?.mp this
  -- the values in the parameters' order
  have key : ∃ zs : List Value, Vals us zs ∧ ws = q.map fun i => zs.getD i .none := by
    have hex : ∀ i : Nat, ∃ z : Value, i < us.length → (RelV (us.getD i .non) z ∧ ∀ j : Nat, q[j]? = some i → ws[j]? = some z) := fun i => by
      by_cases hi : i < us.length
      · obtain ⟨j, hj⟩ := hm' i hi
        have hv : vs[j]? = some (us.getD i .non) := by rw [ev, List.getElem?_map, hj]; rfl
        obtain ⟨z, hz, rz⟩ := r.get hv
        refine ⟨z, fun _ => ⟨rz, fun j' hj' => ?_⟩⟩
        have nd : q.Nodup := hq.nodup_iff.mpr List.nodup_range
        have : j = j' := nodupIx nd hj hj'
        subst this
        exact hz
      · exact ⟨.none, fun h => absurd h hi⟩
    obtain ⟨z, hz⟩ := Classical.axiomOfChoice hex
    refine ⟨(List.range us.length).map z, ?_, ?_⟩
    · have all : ∀ (n : Nat) (us' : List V) (g : Nat → Value), us'.length = n → (∀ i, i < n → RelV (us'.getD i .non) (g i)) → Vals us' ((List.range n).map g) := by
        intro n
        induction n with
        | zero => intro us' g h1 _; rw [List.length_eq_zero_iff.mp h1]; exact .nil
        | succ n ih =>
          intro us' g h1 h2
          match us', h1 with
          | u :: us', h1 =>
            rw [List.range_succ_eq_map, List.map_cons, List.map_map]
            exact .cons (h2 0 (by omega)) (ih us' _ (by simpa using h1) fun i hi => by simpa using h2 (i + 1) (by omega))
      exact all us.length us z rfl fun i hi => (hz i hi).1
    · apply List.ext_getElem?
      intro j
      rw [List.getElem?_map]
      cases hj : q[j]? with
      | none =>
        have : q.length ≤ j := List.getElem?_eq_none_iff.mp hj
        rw [List.getElem?_eq_none]
        · rfl
        · have e1 := r.length
          have e2 : vs.length = q.length := by rw [ev, List.length_map]
          omega
      | some i =>
        have hi : i < us.length := by
          have : i ∈ q := List.mem_of_getElem? hj
          have := hq.mem_iff.mp this
          simp at this
          omega
        rw [(hz i hi).2 j hj]
        simp [hi]
  obtain ⟨zs, rz, ez⟩ := key
  have hlz : zs.length = ps.length := by rw [← rz.length]; exact hl
  rw [ez]
  exact run_g F hr hg (hb s2 q zs hlz hq) hlz I1 rz qq
end

/-! ### a def by its body -/
def startD (n : Nat) (ds : List Dt) : Evr := ds.map some ++ List.replicate (n - ds.length) none
def bodyF (g : SS) (n : Nat) : List Dt → Sto → Option (Dt × Sto) := fun ds st => (g (startD n ds) st).bind fun o => match o with
  | .rt d st' => some (d, st')
  | .nx _ st' => some (.non, st')
  | _ => none
def SpF (T : List (Addr × Str)) (n : Nat) (F : List Dt → Sto → Option (Dt × Sto)) : Sp := fun vs H Q _ => ∃ Z L st ds d st', vs.length = n ∧ Wd T Z L st H ∧ Dens L (Bad Z L st) H ds vs ∧ F ds st = some (d, st') ∧
  ∀ v H' L', Af T Z L st H L' st' H' → Den L' (Bad Z L' st') H' d v → Q v H'
theorem env_start {L : List Addr} {B : Addr → Prop} {H : Hp} {N : List Str} {ds : List Dt} {vs : List V} (h : Dens L B H ds vs) : EnvOk L B H (startD N.length ds) (L2.start N vs) := by
  have hl := h.len
  unfold startD L2.start
  refine ⟨by simp [hl], fun i d e => ?_⟩
  by_cases hi : i < ds.length
  · rw [List.getElem?_append_left (by simpa using hi), List.getElem?_map] at e
    cases q : ds[i]? with
    | none => rw [q] at e; cases e
    | some d' =>
      rw [q] at e
      cases e
      obtain ⟨v, hv, p⟩ := h.get q
      exact ⟨v, by rw [List.getElem?_append_left (by rw [List.length_map]; omega), List.getElem?_map, hv]; rfl, p⟩
  · rw [List.getElem?_append_right (by simpa using hi), List.getElem?_replicate] at e
    split at e <;> cases e
section
variable {T : List (Addr × Str)} {P : Program} {w : World} {K : PySem.W.Frag} {mg : Str → Option Value} {base : Heap}
/-- the context of a def's body -/
abbrev gX (P : Program) (w : World) (K : PySem.W.Frag) (mg : Str → Option Value) (base : Heap) (N : List Str) (x : Str) (sc : Scope) (f : Addr) (cdv : Value) (A : Around) (outer : List Env) (s : Shared) (H : Hp) : Cx := (cxOf CX0 P w K mg base N x sc f cdv A outer s H E0).nox
theorem gfn {x : Str} {args : Arguments} {body : List Stmt} {sc : Scope} {f : Addr} {fd : FuncData} {N ps : List Str} {k : Nat} {t : TS} {g : SS} (F : FunD K x x args body sc [] [] f fd) (S : FnScope N ps sc)
    (hb : ∀ A outer s H, Room k (gX P w K mg base N x sc f fd.code A outer s H).A → (gX P w K mg base N x sc f fd.code A outer s H).A.guards = some [] → PSs (gX P w K mg base N x sc f fd.code A outer s H) body t) (hs : SimS T t g) :
    GFn P w K mg base (k + 1) f fd ps (SpF T ps.length (bodyF g N.length)) := by
  obtain ⟨oc, od, dV, kV, doc, pm, an, cdv, ct, osl, rfl, lk, hcd, _, _⟩ := F.ex
  constructor
  intro A outer s H binds us vs Q hr hg e0 hbt hlu rv hsp
  obtain ⟨Z, L, st, ds, d, st', hlv, wd, dn, hF, q⟩ := hsp
  have keeps : ∀ b o, base.get? b = some o → s.heap.get? b = some o := fun b o e => (e0.bs b o e).1
  have inK : K.In s.heap := e0.mod.kin.keeps keeps
  have places : ∀ y ∈ ps.zip us, sc.names.lookup y.1 = some .local ∨ (sc.names.lookup y.1 = some .cell ∧ ((cellsFrom (s.heap.objs.size + 1) sc.names []).lookup y.1).isSome = true) := by
    intro y hy
    have hm := (List.of_mem_zip (a := y.1) (b := y.2) hy).1
    cases S.par y.1 hm with
    | inl z => exact .inl z
    | inr z => exact .inr ⟨z, PySem.W.cellsFrom_some _ _ _ (.inl z)⟩
  refine codeAny_call_function hr.depth (inK _ _ lk) rfl S.co S.gen rfl (PySem.W.codeRec_of inK hcd) (hbt _ _ _ _ ?_)
  refine wpAny_newFunctionEnv_cells S.kind places fun env he s1 ic => ?_
  subst he
  refine ⟨(e0.mod.nolimit.keeps keeps).keeps ic.toInCall.keep, codeAny_func ?_⟩
  have I : Inv (cxOf CX0 P w K mg base N x sc f cdv A outer s H E0) [] (L2.start N vs) H s1 := inv_start S hr.hd e0 hlv rv ic
  have ht := hb A outer s H (hr.deeper _) hg
  obtain ⟨o, a1, a2⟩ := bind_some' hF
  have reading : t { nx := fun _ H' => Q .non H', rt := Q } (L2.start N vs) H := by
    refine hs Z L st H _ _ o _ wd (env_start dn) a1 ?_
    cases o with
    | rt d1 st1 => cases a2; exact fun v H' L' f p => q v H' L' f p
    | nx r1 st1 => cases a2; exact fun s' H' L' f _ => q .non H' L' f Den.non
    | bk r1 st1 => cases a2
    | ct r1 st1 => cases a2
  refine wpAny_mono (ht.nox.run [] s1 (L2.start N vs) H _ I reading) (fun fl s2 hq => ?_) fun _ _ hx => hx
  match fl, hq with
  | .ret u, ⟨v, _, H', J, rv', qv⟩ => exact ⟨v, H', J.os, J.bare, J.base, J.hok, rv', qv⟩
  | .next, ⟨_, H', J, qv⟩ => exact ⟨.non, H', J.os, J.bare, J.base, J.hok, rfl, qv⟩
  | .brk, ⟨_, _, _, qv⟩ => exact False.elim qv
  | .cont, ⟨_, _, _, qv⟩ => exact False.elim qv
end

/-! ### pure defs -/
mutual
def noRef : Dt → Bool
  | .ref _ => false
  | .lst ds => noRefs ds
  | .tup ds => noRefs ds
  | .dic _ ds => noRefs ds
  | _ => true
def noRefs : List Dt → Bool
  | [] => true
  | d :: ds => noRef d && noRefs ds
end
mutual
theorem Den.anyL {L L' : List Addr} {B : Addr → Prop} {H : Hp} : ∀ {d : Dt} {v : V}, noRef d = true → Den L B H d v → Den L' B H d v
  | .non, _, _, q => by unfold Den at q ⊢; exact q
  | .bl _, _, _, q => by unfold Den at q ⊢; exact q
  | .int _, _, _, q => by unfold Den at q ⊢; exact q
  | .str _, _, _, q => by unfold Den at q ⊢; exact q
  | .ref _, _, n, q => by unfold noRef at n; cases n
  | .lst ds, _, n, q => by
    unfold noRef at n
    unfold Den at q ⊢
    obtain ⟨a, vs, r, nb, e, t⟩ := q
    exact ⟨a, vs, r, nb, e, Dens.anyL n t⟩
  | .tup ds, _, n, q => by
    unfold noRef at n
    unfold Den at q ⊢
    obtain ⟨a, vs, r, e, t⟩ := q
    exact ⟨a, vs, r, e, Dens.anyL n t⟩
  | .dic ks ds, _, n, q => by
    unfold noRef at n
    unfold Den at q ⊢
    obtain ⟨a, vs, r, nb, e, el, t⟩ := q
    exact ⟨a, vs, r, nb, e, el, Dens.anyL n t⟩
theorem Dens.anyL {L L' : List Addr} {B : Addr → Prop} {H : Hp} : ∀ {ds : List Dt} {vs : List V}, noRefs ds = true → Dens L B H ds vs → Dens L' B H ds vs
  | [], _, _, q => by unfold Dens at q ⊢; exact q
  | d :: ds, _, n, q => by
    unfold noRefs at n
    rw [Bool.and_eq_true] at n
    obtain ⟨v, r, rfl, p, t⟩ := q.uncons
    exact .cons (Den.anyL n.1 p) (Dens.anyL n.2 t)
end
/-! the data behind refs -/
mutual
def deref (st : Sto) : Nat → Dt → Option Dt
  | 0, d => if noRef d = true then some d else none
  | n + 1, d => if noRef d = true then some d else match d with
    | .ref k => (match st[k]? with
      | some (some c) => deref st n c
      | _ => none)
    | .lst ds => (derefs st n ds).map .lst
    | .tup ds => (derefs st n ds).map .tup
    | .dic ks ds => (derefs st n ds).map (.dic ks)
    | _ => none
def derefs (st : Sto) : Nat → List Dt → Option (List Dt)
  | _, [] => some []
  | 0, ds => if noRefs ds = true then some ds else none
  | n + 1, d :: ds => (deref st n d).bind fun e => (derefs st n ds).map fun es => e :: es
end
theorem OwnAt.den {L : List Addr} {Z B : Addr → Prop} {H : Hp} {a : Addr} {d : Dt} (h : OwnAt L B H a d) (nz : ¬ Z a) (hb : ∀ b, Z b → B b) : Den L Z H d (.ref a) := by
  obtain ⟨o, e, q⟩ := h
  cases d with
  | lst ds =>
    obtain ⟨vs, rfl, t⟩ := q
    unfold Den
    exact ⟨a, vs, rfl, nz, e, t.mono hb⟩
  | dic ks ds =>
    obtain ⟨vs, rfl, el, t⟩ := q
    unfold Den
    exact ⟨a, vs, rfl, nz, .inl e, el, t.mono hb⟩
  | _ => exact False.elim q
mutual
theorem deref_ok {T : List (Addr × Str)} {Z : Addr → Prop} {L L0 : List Addr} {st : Sto} {H : Hp} (w : Wd T Z L st H) : ∀ {n : Nat} {d c : Dt} {v : V}, deref st n d = some c → Den L Z H d v → Den L0 Z H c v
  | 0, d, c, v, h, q => by
    unfold deref at h
    split at h
    · rename_i hn
      cases h
      exact q.anyL hn
    · cases h
  | n + 1, d, c, v, h, q => by
    unfold deref at h
    split at h
    · rename_i hn
      cases h
      exact q.anyL hn
    · cases d with
      | ref k =>
        dsimp only at h
        unfold Den at q
        obtain ⟨a, ka, rfl⟩ := q
        split at h
        · rename_i c0 hk
          obtain ⟨nz, o⟩ := w.own k a c0 ka hk
          exact deref_ok w h (o.den nz fun b z => .inl z)
        · cases h
      | lst ds =>
        dsimp only at h
        obtain ⟨es, h1, rfl⟩ := Option.map_eq_some_iff.mp h
        unfold Den at q ⊢
        obtain ⟨a, vs, r, nb, e, t⟩ := q
        exact ⟨a, vs, r, nb, e, derefs_ok w h1 t⟩
      | tup ds =>
        dsimp only at h
        obtain ⟨es, h1, rfl⟩ := Option.map_eq_some_iff.mp h
        unfold Den at q ⊢
        obtain ⟨a, vs, r, e, t⟩ := q
        exact ⟨a, vs, r, e, derefs_ok w h1 t⟩
      | dic ks ds =>
        dsimp only at h
        obtain ⟨es, h1, rfl⟩ := Option.map_eq_some_iff.mp h
        unfold Den at q ⊢
        obtain ⟨a, vs, r, nb, e, el, t⟩ := q
        exact ⟨a, vs, r, nb, e, el, derefs_ok w h1 t⟩
      | _ => cases h
theorem derefs_ok {T : List (Addr × Str)} {Z : Addr → Prop} {L L0 : List Addr} {st : Sto} {H : Hp} (w : Wd T Z L st H) : ∀ {n : Nat} {ds es : List Dt} {vs : List V}, derefs st n ds = some es → Dens L Z H ds vs → Dens L0 Z H es vs
  | n, [], es, vs, h, q => by
    have e : es = [] := by
      cases n <;> (unfold derefs at h; cases h; rfl)
    subst e
    unfold Dens at q ⊢
    exact q
  | 0, d :: ds, es, vs, h, q => by
    unfold derefs at h
    split at h
    · rename_i hn
      cases h
      exact q.anyL hn
    · cases h
  | n + 1, d :: ds, es, vs, h, q => by
    unfold derefs at h
    obtain ⟨e, h1, h2⟩ := bind_some' h
    obtain ⟨es', h3, rfl⟩ := Option.map_eq_some_iff.mp h2
    obtain ⟨v, r, rfl, p, t⟩ := q.uncons
    exact .cons (deref_ok w h1 p) (derefs_ok w h3 t)
end
def fV (F : List Dt → Sto → Option (Dt × Sto)) : List Dt → Option Dt := fun ds => (F ds []).bind fun x => deref x.2 6 x.1
def fR (F : List Dt → Sto → Option (Dt × Sto)) : List Dt → Option Dt := fun ds => (F ds []).bind fun x => match x.1 with
  | .ref k => (match x.2[k]? with
    | some (some (.lst ds)) => (derefs (x.2.set k none) 6 ds).map .lst
    | some (some (.dic ks ds)) => (derefs (x.2.set k none) 6 ds).map (.dic ks)
    | _ => none)
  | _ => none
def liftV (f : List Dt → Option Dt) : List Dt → Sto → Option (Dt × Sto) := fun ds st => if noRefs ds = true then (f ds).map fun d => (d, st) else none
def liftR (f : List Dt → Option Dt) : List Dt → Sto → Option (Dt × Sto) := fun ds st => if noRefs ds = true then (f ds).map fun d => (.ref st.length, st ++ [some d]) else none
section
variable {T : List (Addr × Str)} {Z : Addr → Prop} {L : List Addr} {st : Sto} {H : Hp}
theorem bad_nil {a : Addr} : Bad Z [] [] a ↔ Z a := ⟨fun z => z.elim id fun ⟨k, d, h, _⟩ => by simp at h, .inl⟩
/-- a callee's world, in which all that is live here is not to be touched -/
theorem Wd.inner (w : Wd T Z L st H) : Wd T (Bad Z L st) [] [] H :=
  ⟨w.tabs, rfl, fun i j a d e h => by simp at h, fun k a d h => by simp at h, fun a z => z.elim (w.zt a) w.livTrk⟩
theorem bad_inner : Bad (Bad Z L st) [] [] = Bad Z L st := funext fun a => propext bad_nil
/-- .. and back -/
theorem Wd.outer {L' : List Addr} {st' : Sto} {H' : Hp} (w : Wd T Z L st H) (f : Af T (Bad Z L st) [] [] H L' st' H') : Af T Z L st H L st H' := by
  have nl : ∀ b, ¬ Liv ([] : List Addr) ([] : Sto) b := fun b ⟨k, d, h, _⟩ => by simp at h
  have st : ∀ b u, H b = some u → (∀ ps, u ≠ .tbl ps) → H' b = some u := fun b u e n => f.kp b u e (nl b) n
  refine ⟨⟨f.wd.tabs, w.len, w.inj, fun k a d h1 h2 => ?_, fun a z => f.trk a (w.zt a z)⟩, ⟨[], by simp⟩, fun b u e _ n => st b u e n, fun a l => .inl l, f.trk, f.tp, fun k a h e => absurd (List.getElem?_eq_some_iff.mp e).1 (by omega), fun a z => .inl z⟩
  obtain ⟨nz, o, e, q⟩ := w.own k a d h1 h2
  refine ⟨nz, o, st a o e fun ps z => ?_, q.imp fun ds vs t => t.stay st⟩
  rcases q.kind with ⟨xs, y⟩ | ⟨kvs, y⟩ <;> (rw [y] at z; cases z)
variable {P : Program} {w : World} {K : PySem.W.Frag} {mg : Str → Option Value} {base : Heap} {k n : Nat} {f : Addr} {fd : FuncData} {ps : List Str} {F : List Dt → Sto → Option (Dt × Sto)}
theorem gfn_V (G : GFn P w K mg base k f fd ps (SpF T n F)) : GFn P w K mg base k f fd ps (SpF T n (liftV (fV F))) := by
  refine G.imp fun vs H Q h => ?_
  obtain ⟨Z, L, st, ds, d, st', hl, wd, dn, hF, q⟩ := h
  unfold liftV at hF
  split at hF
  case isFalse => cases hF
  case isTrue hn =>
  obtain ⟨d1, e1, e2⟩ := Option.map_eq_some_iff.mp hF
  cases e2
  obtain ⟨⟨d0, st0⟩, e3, e4⟩ := bind_some' e1
  refine ⟨Bad Z L st, [], [], ds, d0, st0, hl, wd.inner, by rw [bad_inner]; exact dn.anyL hn, e3, fun v H' L' ff p => ?_⟩
  exact q v H' L (wd.outer ff) (deref_ok ff.wd e4 (p.mono fun b z => .inl z))
theorem set_none {st : Sto} {j i : Nat} {x : Dt} (c : (st.set j none)[i]? = some (some x)) : j ≠ i ∧ st[i]? = some (some x) := by
  by_cases hj : j = i
  · subst hj
    rw [List.getElem?_set, if_pos rfl] at c
    split at c <;> cases c
  · rw [List.getElem?_set_ne hj] at c; exact ⟨hj, c⟩
/-- a live object is set apart -/
theorem Wd.toZ {a : Addr} {j : Nat} {c : Dt} (w : Wd T Z L st H) (h1 : L[j]? = some a) (h2 : st[j]? = some (some c)) : Wd T (zAnd Z a) L (st.set j none) H ∧ OwnAt L (Bad (zAnd Z a) L (st.set j none)) H a c := by
  have eb : ∀ b, Bad (zAnd Z a) L (st.set j none) b → Bad Z L st b := fun b z => by
    rcases z with (z | z) | ⟨i, d, i1, i2⟩
    · exact .inl z
    · rw [z]; exact .inr ⟨j, c, h1, h2⟩
    · exact .inr ⟨i, d, i1, (set_none i2).2⟩
  have tr : ∀ ds vs, Dens L (Bad Z L st) H ds vs → Dens L (Bad (zAnd Z a) L (st.set j none)) H ds vs := fun ds vs t => t.mono eb
  refine ⟨⟨w.tabs, by rw [List.length_set]; exact w.len, fun i k b x y a1 a2 a3 a4 => w.inj i k b x y a1 a2 (set_none a3).2 (set_none a4).2, fun i b d a1 a2 => ?_, fun b z => ?_⟩, ?_⟩
  · obtain ⟨nj, a2⟩ := set_none a2
    obtain ⟨nz, o, e, q⟩ := w.own i b d a1 a2
    refine ⟨fun z => z.elim nz fun y => nj ?_, o, e, q.imp tr⟩
    subst y
    exact w.inj j i b c d h1 a1 h2 a2
  · rcases z with z | z
    · exact w.zt b z
    · rw [z]; exact w.livTrk ⟨j, c, h1, h2⟩
  · obtain ⟨nz, o, e, q⟩ := w.own j a c h1 h2
    exact ⟨o, e, q.imp tr⟩
theorem gfn_R (G : GFn P w K mg base k f fd ps (SpF T n F)) : GFn P w K mg base k f fd ps (SpF T n (liftR (fR F))) := by
  refine G.imp fun vs H Q h => ?_
  obtain ⟨Z, L, st, ds, d, st', hl, wd, dn, hF, q⟩ := h
  unfold liftR at hF
  split at hF
  case isFalse => cases hF
  case isTrue hn =>
  obtain ⟨d1, e1, e2⟩ := Option.map_eq_some_iff.mp hF
  cases e2
  obtain ⟨⟨d0, st0⟩, e3, e4⟩ := bind_some' e1
  refine ⟨Bad Z L st, [], [], ds, d0, st0, hl, wd.inner, by rw [bad_inner]; exact dn.anyL hn, e3, fun v H' L' ff p => ?_⟩
  cases d0 with
  | ref j =>
    dsimp only at e4
    have fo := wd.outer ff
    unfold Den at p
    obtain ⟨a, ja, rfl⟩ := p
    have na : H a = none := ff.fr j a (Nat.zero_le _) ja
    have nl : ∀ b, ¬ Liv ([] : List Addr) ([] : Sto) b := fun b ⟨k, d, h, _⟩ => by simp at h
    have stay : ∀ b u, H b = some u → (∀ ps, u ≠ .tbl ps) → H' b = some u := fun b u e n => ff.kp b u e (nl b) n
    have hz : ∀ b, zAnd (Bad Z L st) a b ↔ Bad (zAnd Z a) L st b := fun b => by
      constructor
      · rintro ((z | z) | z)
        · exact .inl (.inl z)
        · exact .inr z
        · exact .inl (.inr z)
      · rintro ((z | z) | z)
        · exact .inl (.inl z)
        · exact .inr z
        · exact .inl (.inr z)
    -- the caller's world with a set apart
    have fz : Afz T Z L st H (zAnd Z a) L st H' := by
      refine ⟨⟨fo.wd.tabs, wd.len, wd.inj, fun i b x a1 a2 => ?_, fun b z => ?_⟩, fo.pre, fo.kp, fo.nw, fo.trk, fo.tp, fo.fr, fun b z => z.elim .inl fun y => .inr (by rw [y]; exact na)⟩
      · obtain ⟨nz, o, e, qq⟩ := wd.own i b x a1 a2
        refine ⟨fun z => z.elim nz (ne_of_none e na), o, stay b o e fun ps z => ?_, qq.imp fun ds vs t => ?_⟩
        · rcases qq.kind with ⟨xs, y⟩ | ⟨kvs, y⟩ <;> (rw [y] at z; cases z)
        · exact ((t.away na).stay stay).mono fun b z => by
            rcases (hz b).mpr z with z | z
            · exact .inl z
            · exact .inr z
      · rcases z with z | z
        · exact fo.trk b (wd.zt b z)
        · split at e4
          · rename_i xs hx
            rw [z]; exact ff.wd.livTrk ⟨j, _, ja, hx⟩
          · rename_i ks xs hx
            rw [z]; exact ff.wd.livTrk ⟨j, _, ja, hx⟩
          · cases e4
    have fin : ∀ o, H' a = some o → OwnO L (Bad (zAnd Z a) L st) H' o d1 → Q (.ref a) H' := fun o ho hd => by
      refine q _ H' (L ++ [a]) (fz.claim wd na ho hd) ?_
      unfold Den
      exact ⟨a, by rw [← wd.len]; simp, rfl⟩
    split at e4
    · rename_i xs hx
      obtain ⟨es, e5, rfl⟩ := Option.map_eq_some_iff.mp e4
      obtain ⟨wz, o, ho, us, rfl, t⟩ := ff.wd.toZ ja hx
      refine fin _ ho ⟨us, rfl, ?_⟩
      exact (derefs_ok (L0 := L) wz e5 (t.mono fun b z => .inl z)).mono fun b z => (hz b).mpr z
    · rename_i ks xs hx
      obtain ⟨es, e5, rfl⟩ := Option.map_eq_some_iff.mp e4
      obtain ⟨wz, o, ho, us, rfl, el, t⟩ := ff.wd.toZ ja hx
      refine fin _ ho ⟨us, rfl, el, ?_⟩
      exact (derefs_ok (L0 := L) wz e5 (t.mono fun b z => .inl z)).mono fun b z => (hz b).mpr z
    · cases e4
  | _ => cases e4
end
mutual
theorem Den.stayB {L : List Addr} {B : Addr → Prop} {H H' : Hp} (k : ∀ b u, H b = some u → (∀ ps, u ≠ .tbl ps) → ((∃ xs, u = .tup xs) ∨ ¬ B b) → H' b = some u) : ∀ {d : Dt} {v : V}, Den L B H d v → Den L B H' d v
  | .non, _, q => by unfold Den at q ⊢; exact q
  | .bl _, _, q => by unfold Den at q ⊢; exact q
  | .int _, _, q => by unfold Den at q ⊢; exact q
  | .str _, _, q => by unfold Den at q ⊢; exact q
  | .ref _, _, q => by unfold Den at q ⊢; exact q
  | .lst ds, _, q => by
    unfold Den at q ⊢
    obtain ⟨b, vs, r, nb, e, t⟩ := q
    exact ⟨b, vs, r, nb, k _ _ e (fun ps z => by cases z) (.inr nb), Dens.stayB k t⟩
  | .tup ds, _, q => by
    unfold Den at q ⊢
    obtain ⟨b, vs, r, e, t⟩ := q
    exact ⟨b, vs, r, k _ _ e (fun ps z => by cases z) (.inl ⟨_, rfl⟩), Dens.stayB k t⟩
  | .dic ks ds, _, q => by
    unfold Den at q ⊢
    obtain ⟨b, vs, r, nb, e, el, t⟩ := q
    exact ⟨b, vs, r, nb, rd_of e fun o eo => k b o eo (fun ps z => by subst z; rcases e with e | ⟨x, e⟩ <;> rw [eo] at e <;> cases e) (.inr nb), el, Dens.stayB k t⟩
theorem Dens.stayB {L : List Addr} {B : Addr → Prop} {H H' : Hp} (k : ∀ b u, H b = some u → (∀ ps, u ≠ .tbl ps) → ((∃ xs, u = .tup xs) ∨ ¬ B b) → H' b = some u) : ∀ {ds : List Dt} {vs : List V}, Dens L B H ds vs → Dens L B H' ds vs
  | [], _, q => by unfold Dens at q ⊢; exact q
  | d :: ds, _, q => by
    obtain ⟨v, r, rfl, p, t⟩ := q.uncons
    exact .cons (Den.stayB k p) (Dens.stayB k t)
end
/-! ### defs that change their first argument -/
def fE (F : List Dt → Sto → Option (Dt × Sto)) : Dt → List Dt → Option (Dt × Dt) := fun c ds => (F (.ref 0 :: ds) [some c]).bind fun x => match x.2[0]? with
  | some (some c') => if noRef c' = true then (deref (x.2.set 0 none) 6 x.1).map fun d => (d, c') else none
  | _ => none
def liftE (f : Dt → List Dt → Option (Dt × Dt)) : List Dt → Sto → Option (Dt × Sto) := fun ds st => match ds with
  | .ref k :: ds => if noRefs ds = true then (match st[k]? with
    | some (some c) => if noRef c = true then (f c ds).map fun x => (x.1, st.set k (some x.2)) else none
    | _ => none) else none
  | _ => none
theorem OwnO.anyL {L L' : List Addr} {B : Addr → Prop} {H : Hp} {o : HO} : ∀ {d : Dt}, noRef d = true → OwnO L B H o d → OwnO L' B H o d
  | .lst _, n, h => by unfold noRef at n; obtain ⟨vs, e, t⟩ := h; exact ⟨vs, e, t.anyL n⟩
  | .dic _ _, n, h => by unfold noRef at n; obtain ⟨vs, e, el, t⟩ := h; exact ⟨vs, e, el, t.anyL n⟩
section
variable {T : List (Addr × Str)} {P : Program} {w : World} {K : PySem.W.Frag} {mg : Str → Option Value} {base : Heap} {k n : Nat} {f : Addr} {fd : FuncData} {ps : List Str} {F : List Dt → Sto → Option (Dt × Sto)}
theorem gfn_E (G : GFn P w K mg base k f fd ps (SpF T n F)) : GFn P w K mg base k f fd ps (SpF T n (liftE (fE F))) := by
  refine G.imp fun vs H Q h => ?_
  obtain ⟨Z, L, st, ds, d, st', hl, wd, dn, hF, q⟩ := h
  unfold liftE at hF
  split at hF
  case h_2 => cases hF
  case h_1 k ds =>
  split at hF
  case isFalse => cases hF
  case isTrue hn =>
  split at hF
  case h_2 => cases hF
  case h_1 c hc =>
  split at hF
  case isFalse => cases hF
  case isTrue hnc =>
  obtain ⟨⟨d1, c1⟩, e1, e2⟩ := Option.map_eq_some_iff.mp hF
  cases e2
  obtain ⟨⟨d0, st0⟩, e3, e4⟩ := bind_some' e1
  obtain ⟨v0, us, rfl, p0, dn'⟩ := dn.uncons
  unfold Den at p0
  obtain ⟨a, ka, rfl⟩ := p0
  have la : Liv L st a := ⟨k, c, ka, hc⟩
  obtain ⟨nza, oa, ea, qa⟩ := wd.own k a c ka hc
  have ta : ∀ xs, oa ≠ .tup xs := fun xs z => by
    rcases qa.kind with ⟨ys, y⟩ | ⟨kvs, y⟩ <;> (rw [y] at z; cases z)
  let Z1 : Addr → Prop := fun b => Bad Z L st b ∧ b ≠ a
  have l1 : ∀ b, Liv [a] [some c] b ↔ b = a := fun b => by
    constructor
    · rintro ⟨j, x, j1, j2⟩
      cases j with
      | zero => simp at j1; exact j1.symm
      | succ j => simp at j1
    · rintro rfl
      exact ⟨0, c, rfl, rfl⟩
  have b1 : ∀ b, Bad Z1 [a] [some c] b → Bad Z L st b := fun b z => by
    rcases z with z | z
    · exact z.1
    · rw [(l1 b).mp z]; exact .inr la
  have w1 : Wd T Z1 [a] [some c] H := by
    refine ⟨wd.tabs, rfl, fun i j b x y a1 a2 _ _ => ?_, fun j b x a1 a2 => ?_, fun b z => z.1.elim (wd.zt b) wd.livTrk⟩
    · cases i with
      | zero =>
        cases j with
        | zero => rfl
        | succ j => simp at a2
      | succ i => simp at a1
    · cases j with
      | zero =>
        simp at a1 a2
        subst a1; subst a2
        exact ⟨fun z => z.2 rfl, oa, ea, (qa.imp fun ds vs t => t.mono b1).anyL hnc⟩
      | succ j => simp at a1
  have da : Dens [a] (Bad Z1 [a] [some c]) H (.ref 0 :: ds) (.ref a :: us) := by
    refine .cons ?_ ((dn'.mono b1).anyL hn)
    unfold Den
    exact ⟨a, rfl, rfl⟩
  refine ⟨Z1, [a], [some c], .ref 0 :: ds, d0, st0, hl, w1, da, e3, fun v H' L' ff p => ?_⟩
  dsimp only at e4
  split at e4
  case h_2 => cases e4
  case h_1 c' hc' =>
  split at e4
  case isFalse => cases e4
  case isTrue hnc' =>
  obtain ⟨d2, e5, e6⟩ := Option.map_eq_some_iff.mp e4
  cases e6
  have a0 : L'[0]? = some a := ff.ix rfl
  have lst : ∀ b, Liv L (st.set k (some c1)) b → Liv L st b := fun b ⟨j, x, j1, j2⟩ => by
    by_cases hj : k = j
    · subst hj
      rw [ka] at j1; cases j1
      exact la
    · rw [List.getElem?_set_ne hj] at j2
      exact ⟨j, x, j1, j2⟩
  have bz : ∀ b, Bad Z L (st.set k (some c1)) b → zAnd Z1 a b := fun b z => by
    by_cases hb : b = a
    · exact .inr hb
    · exact .inl ⟨z.elim .inl fun z => .inr (lst b z), hb⟩
  have bz2 : ∀ b, zAnd Z1 a b → Bad Z1 L' st0 b := fun b z => by
    rcases z with z | z
    · exact .inl z
    · rw [z]; exact .inr ⟨0, c1, a0, hc'⟩
  have stay : ∀ b u, b ≠ a → H b = some u → (∀ ps, u ≠ .tbl ps) → H' b = some u := fun b u nb e nt => ff.kp b u e (fun z => nb ((l1 b).mp z)) nt
  have bs : ∀ b, Bad Z L (st.set k (some c1)) b → Bad Z L st b := fun b z => z.elim .inl fun z => .inr (lst b z)
  have trD : ∀ ds vs, Dens L (Bad Z L st) H ds vs → Dens L (Bad Z L (st.set k (some c1))) H' ds vs := fun ds vs t =>
    (t.stayB fun b u e nt z => stay b u (fun y => by
      rcases z with ⟨xs, z⟩ | z
      · subst y; rw [ea] at e; cases e; exact ta xs z
      · exact z (by rw [y]; exact .inr la)) e nt).mono bs
  have hlt : k < st.length := (List.getElem?_eq_some_iff.mp hc).1
  refine q v H' L ⟨⟨ff.wd.tabs, by rw [List.length_set]; exact wd.len, fun i j b x y a1 a2 a3 a4 => ?_, fun j b x a1 a2 => ?_, fun b z => ff.trk b (wd.zt b z)⟩, ⟨[], by simp⟩, fun b u e nl nt => stay b u (fun y => nl (by rw [y]; exact la)) e nt, fun b z => .inl (lst b z), ff.trk, ff.tp, fun j b h e => absurd (List.getElem?_eq_some_iff.mp e).1 (by omega), fun b z => .inl z⟩ ?_
  · have g : ∀ (i : Nat) x, L[i]? = some b → (st.set k (some c1))[i]? = some (some x) → ∃ x', st[i]? = some (some x') := fun i x g1 g2 => by
      by_cases hj : k = i
      · subst hj; exact ⟨c, hc⟩
      · rw [List.getElem?_set_ne hj] at g2; exact ⟨x, g2⟩
    obtain ⟨x', g1⟩ := g i x a1 a3
    obtain ⟨y', g2⟩ := g j y a2 a4
    exact wd.inj i j b x' y' a1 a2 g1 g2
  · by_cases hj : k = j
    · subst hj
      rw [ka] at a1; cases a1
      rw [List.getElem?_set_self hlt] at a2
      cases a2
      obtain ⟨_, o, eo, qo⟩ := ff.wd.own 0 a c1 a0 hc'
      exact ⟨nza, o, eo, (qo.imp fun ds vs t => t.mono fun b z => bz2 b (bz b z)).anyL hnc'⟩
    · rw [List.getElem?_set_ne hj] at a2
      obtain ⟨nz, o, eo, qo⟩ := wd.own j b x a1 a2
      have nb : b ≠ a := fun y => by
        subst y
        exact hj (wd.inj k j b c x ka a1 hc a2)
      refine ⟨nz, o, stay b o nb eo fun ps z => ?_, qo.imp trD⟩
      rcases qo.kind with ⟨ys, y⟩ | ⟨kvs, y⟩ <;> (rw [y] at z; cases z)
  · obtain ⟨wz, _⟩ := ff.wd.toZ a0 hc'
    exact (deref_ok (L0 := L) wz e5 (p.mono bz2)).mono bz
end
end HB

set_option Elab.async false
set_option linter.all false
set_option maxRecDepth 100000
set_option maxHeartbeats 1000000
/-! HB, part f: operators and built-ins by values. -/
namespace HB
open PySem PySem.Spec PyProof.Rows L2

/-! ### what may be read -/
def asL (st : Sto) : Dt → Option (List Dt)
  | .lst ds => some ds
  | .ref k => (match st[k]? with
    | some (some (.lst ds)) => some ds
    | _ => none)
  | _ => none
def asD (st : Sto) : Dt → Option (List Key × List Dt)
  | .dic ks ds => some (ks, ds)
  | .ref k => (match st[k]? with
    | some (some (.dic ks ds)) => some (ks, ds)
    | _ => none)
  | _ => none
section
variable {T : List (Addr × Str)} {Z : Addr → Prop} {L : List Addr} {st : Sto} {H : Hp} {d : Dt} {v : V}
theorem asL_ok {ds : List Dt} (w : Wd T Z L st H) (h : Den L (Bad Z L st) H d v) (e : asL st d = some ds) : ∃ a vs, v = .ref a ∧ H a = some (.lst vs) ∧ Dens L (Bad Z L st) H ds vs := by
  cases d with
  | lst xs =>
    cases e
    unfold Den at h
    obtain ⟨a, vs, r, _, e, t⟩ := h
    exact ⟨a, vs, r, e, t⟩
  | ref k =>
    unfold asL at e
    dsimp only at e
    split at e
    · rename_i xs hk
      cases e
      unfold Den at h
      obtain ⟨a, ka, r⟩ := h
      obtain ⟨_, o, eo, vs, rfl, t⟩ := w.own k a _ ka hk
      exact ⟨a, vs, r, eo, t⟩
    · cases e
  | _ => cases e
theorem asD_ok {ks : List Key} {ds : List Dt} (w : Wd T Z L st H) (h : Den L (Bad Z L st) H d v) (e : asD st d = some (ks, ds)) : ∃ a vs, v = .ref a ∧ Rd H a (.dK (ks.zip vs)) ∧ ks.length = vs.length ∧ Dens L (Bad Z L st) H ds vs := by
  cases d with
  | dic xs ys =>
    cases e
    unfold Den at h
    obtain ⟨a, vs, r, _, e, el, t⟩ := h
    exact ⟨a, vs, r, e, el, t⟩
  | ref k =>
    unfold asD at e
    dsimp only at e
    split at e
    · rename_i xs ys hk
      cases e
      unfold Den at h
      obtain ⟨a, ka, r⟩ := h
      obtain ⟨_, o, eo, vs, rfl, el, t⟩ := w.own k a _ ka hk
      exact ⟨a, vs, r, .inl eo, el, t⟩
    · cases e
  | _ => cases e
end

/-! ### several rules for one operator -/
theorem OpR.or {X : Cx} {f : Value → Value → Sem Value} {r r' : R2} (h : OpR X f r) (h' : OpR X f r') : OpR X f (fun x y H Q => r x y H Q ∨ r' x y H Q) := by
  intro pins s s1 H x y v u Q I rx ry q
  rcases q with q | q
  · exact h pins s s1 H x y v u Q I rx ry q
  · exact h' pins s s1 H x y v u Q I rx ry q
theorem CallR.or {X : Cx} {f : Value} {r r' : List V → Hp → VK → Prop} (h : CallR X f r) (h' : CallR X f r') : CallR X f (fun x H Q => r x H Q ∨ r' x H Q) := by
  intro pins s s1 H x v Q I rx q
  rcases q with q | q
  · exact h pins s s1 H x v Q I rx q
  · exact h' pins s s1 H x v Q I rx q
/-! ### numbers -/
def gI (C : Int → Int → Bool) (f : Int → Int → Int) : Sto → Dt → Dt → Option (Dt × Sto) := fun st x y => match x, y with
  | .int i, .int j => if C i j = true then some (.int (f i j), st) else none
  | _, _ => none
def gIb (f : Int → Int → Bool) : Sto → Dt → Dt → Option (Dt × Sto) := fun st x y => match x, y with
  | .int i, .int j => some (.bl (f i j), st)
  | _, _ => none
section
variable {T : List (Addr × Str)}
theorem vo_I {C : Int → Int → Prop} {Cb : Int → Int → Bool} {f : Int → Int → Int} (hC : ∀ i j, Cb i j = true → C i j) : VO2 T (rI C fun i j => .int (f i j)) (gI Cb f) := by
  intro Z L st H x y dx dy d st' Q w hx hy h q
  unfold gI at h
  split at h
  · rename_i i j
    split at h
    · rename_i hc
      cases h
      exact ⟨i, j, den_int hx, den_int hy, hC i j hc, q _ H L (.refl w) Den.int⟩
    · cases h
  · cases h
theorem vo_I0 {f : Int → Int → Int} : VO2 T (rI0 fun i j => .int (f i j)) (gI (fun _ _ => true) f) := by
  intro Z L st H x y dx dy d st' Q w hx hy h q
  unfold gI at h
  split at h
  · rename_i i j
    cases h
    exact ⟨i, j, den_int hx, den_int hy, q _ H L (.refl w) Den.int⟩
  · cases h
theorem vo_Ib {f : Int → Int → Bool} : VO2 T (rI0 fun i j => .bl (f i j)) (gIb f) := by
  intro Z L st H x y dx dy d st' Q w hx hy h q
  unfold gIb at h
  split at h
  · rename_i i j
    cases h
    exact ⟨i, j, den_int hx, den_int hy, q _ H L (.refl w) Den.bl⟩
  · cases h
end
/-- great powers -/
def CPowW (i j : Int) : Prop := 0 ≤ j ∧ (Builtin.Int.intBits i : Int) * j ≤ 2 ^ 27
theorem op_powW {X : Cx} : OpR X (binaryOp .Pow) (rI CPowW fun i j => .int (i ^ j.toNat)) := opI fun _ _ _ _ _ _ _ hc q => pow_int hc.1 hc.2 q

/-! ### + -/
def rAddS : R2 := fun x y H Q => ∃ i j, x = .str i ∧ y = .str j ∧ i.length + j.length ≤ sizeLine ∧ Q (.str (i ++ j)) H
def rAdd : R2 := fun x y H Q => rI0 (fun i j => .int (i + j)) x y H Q ∨ rAddS x y H Q ∨ rCat x y H Q
theorem op_Add {X : Cx} : OpR X (binaryOp .Add) rAdd := OpR.or op_add (OpR.or op_add_str op_cat)
def gAdd (st : Sto) (x y : Dt) : Option (Dt × Sto) := match x, y with
  | .int i, .int j => some (.int (i + j), st)
  | .str i, .str j => if i.length + j.length ≤ sizeLine then some (.str (i ++ j), st) else none
  | x, y => (match asL st x, asL st y with
    | some a, some b => if a.length + b.length ≤ sizeLine then some (.lst (a ++ b), st) else none
    | _, _ => none)
section
variable {T : List (Addr × Str)}
theorem vo_Add : VO2 T rAdd gAdd := by
  intro Z L st H x y dx dy d st' Q w hx hy h q
  unfold gAdd at h
  split at h
  · cases h
    exact .inl ⟨_, _, den_int hx, den_int hy, q _ H L (.refl w) Den.int⟩
  · split at h
    · rename_i hl
      cases h
      exact .inr (.inl ⟨_, _, den_str hx, den_str hy, hl, q _ H L (.refl w) Den.str⟩)
    · cases h
  · split at h
    · rename_i a b ha hb
      split at h
      · rename_i hl
        cases h
        obtain ⟨p1, vs, rfl, e1, t1⟩ := asL_ok w hx ha
        obtain ⟨p2, us, rfl, e2, t2⟩ := asL_ok w hy hb
        refine .inr (.inr ⟨p1, p2, vs, us, rfl, rfl, e1, e2, by rw [← t1.len, ← t2.len]; exact hl, fun p np => q _ _ L (.new w np) (.newL w np (t1.append t2))⟩)
      · cases h
    · cases h
end

/-! ### flat data -/
def flatD : Dt → Option V
  | .non => some .non
  | .bl b => some (.bl b)
  | .int i => some (.int i)
  | .str x => some (.str x)
  | _ => none
theorem flatD_ok {L : List Addr} {B : Addr → Prop} {H : Hp} {d : Dt} {v x : V} (h : Den L B H d v) (e : flatD d = some x) : v = x ∧ flatV x = true := by
  cases d <;> (unfold flatD at e; first | (cases e; done) | (cases e; unfold Den at h; exact ⟨h, rfl⟩))
def flats : List Dt → Option (List V)
  | [] => some []
  | d :: ds => (flatD d).bind fun x => (flats ds).map fun xs => x :: xs
theorem flats_ok {L : List Addr} {B : Addr → Prop} {H : Hp} : ∀ {ds : List Dt} {vs xs : List V}, Dens L B H ds vs → flats ds = some xs → vs = xs ∧ xs.all flatV = true
  | [], vs, xs, h, e => by
    cases e
    unfold Dens at h
    exact ⟨h, rfl⟩
  | d :: ds, vs, xs, h, e => by
    obtain ⟨v, r, rfl, p, t⟩ := h.uncons
    obtain ⟨x, e1, e2⟩ := bind_some' e
    obtain ⟨ys, e3, rfl⟩ := Option.map_eq_some_iff.mp e2
    obtain ⟨h1, h2⟩ := flatD_ok p e1
    obtain ⟨h3, h4⟩ := flats_ok t e3
    subst h1; subst h3
    exact ⟨rfl, by rw [List.all_cons, h2, h4]; rfl⟩
theorem flatD_str (x : Str) : flatD (.str x) = some (.str x) := rfl
theorem flats_map {α : Type} (f : α → Dt) (g : α → V) (h : ∀ a, flatD (f a) = some (g a)) : ∀ l : List α, flats (l.map f) = some (l.map g)
  | [] => rfl
  | a :: l => by
    show (flatD (f a)).bind _ = _
    rw [h a, Option.bind_some, flats_map f g h l]
    rfl
/-! ### nested data as the library's -/
def py (st : Sto) : Nat → Dt → Option PyData
  | 0, _ => none
  | n + 1, d => match d with
    | .non => some .none
    | .bl b => some (.bool b)
    | .int i => some (.int i)
    | .str x => some (.str x)
    | .ref k => (match st[k]? with
      | some (some c) => py st n c
      | _ => none)
    | .lst ds => (ds.mapM (py st n)).map .list
    | .tup ds => (ds.mapM (py st n)).map .tuple
    | .dic _ _ => none
theorem py_ok {T : List (Addr × Str)} {Z B : Addr → Prop} {L : List Addr} {st : Sto} {H : Hp} {K : PySem.W.Frag} (w : Wd T Z L st H) : ∀ {n : Nat} {d : Dt} {p : PyData} {v : V}, py st n d = some p → Den L Z H d v → Dp K H v p
  | 0, d, p, v, h, q => by cases h
  | n + 1, d, p, v, h, q => by
    have all : ∀ {ds : List Dt} {ps : List PyData} {vs : List V}, ds.mapM (py st n) = some ps → Dens L Z H ds vs → DpAll K H vs ps := by
      intro ds
      induction ds with
      | nil =>
        intro ps vs h q
        cases h
        unfold Dens at q
        subst q
        exact .nil
      | cons d ds ih =>
        intro ps vs h q
        rw [List.mapM_cons] at h
        obtain ⟨p, h1, h2⟩ := bind_some' h
        obtain ⟨ps', h3, h4⟩ := bind_some' h2
        cases h4
        obtain ⟨v, r, rfl, a, t⟩ := q.uncons
        exact .cons (py_ok (B := B) w h1 a) (ih h3 t)
    unfold py at h
    cases d with
    | non => cases h; unfold Den at q; subst q; exact .non
    | bl b => cases h; unfold Den at q; subst q; exact .bl b
    | int i => cases h; unfold Den at q; subst q; exact .int i
    | str x => cases h; unfold Den at q; subst q; exact .str x
    | ref k =>
      dsimp only at h
      unfold Den at q
      obtain ⟨a, ka, rfl⟩ := q
      split at h
      · rename_i c hk
        obtain ⟨nz, o⟩ := w.own k a c ka hk
        exact py_ok (B := B) w h (o.den nz fun b z => .inl z)
      · cases h
    | lst ds =>
      dsimp only at h
      obtain ⟨ps, h1, rfl⟩ := Option.map_eq_some_iff.mp h
      unfold Den at q
      obtain ⟨a, vs, rfl, nb, e, t⟩ := q
      exact .lst (SqL.of e) (all h1 t)
    | tup ds =>
      dsimp only at h
      obtain ⟨ps, h1, rfl⟩ := Option.map_eq_some_iff.mp h
      unfold Den at q
      obtain ⟨a, vs, rfl, e, t⟩ := q
      exact .tup (SqT.of e) (all h1 t)
    | dic ks ds => cases h

/-! ### == and != -/
def rEqA (K : PySem.W.Frag) : R2 := fun x y H Q => rEq x y H Q ∨ rEqD K x y H Q
def rNeA (K : PySem.W.Frag) : R2 := fun x y H Q => rNe x y H Q ∨ rNeD K x y H Q
theorem op_EqA {X : Cx} (hu : X.A.units + 64 < cLine) : OpR X (compareOp .Eq) (rEqA X.K) := OpR.or op_eq (op_eqD hu)
theorem op_NeA {X : Cx} (hu : X.A.units + 64 < cLine) : OpR X (compareOp .NotEq) (rNeA X.K) := OpR.or op_ne (op_neD hu)
def eqD (st : Sto) (x y : Dt) : Option Bool := match flatD x, flatD y with
  | some a, some b => if scal a b = true then some (decide (a = b)) else none
  | _, _ => (py st 8 x).bind fun a => (py st 8 y).bind fun b => if (SeqAt.shaped a && SeqAt.shaped b) = true then some (PyData.eqv a b) else none
def gEq (st : Sto) (x y : Dt) : Option (Dt × Sto) := (eqD st x y).map fun b => (.bl b, st)
def gNe (st : Sto) (x y : Dt) : Option (Dt × Sto) := (eqD st x y).map fun b => (.bl (!b), st)
section
variable {T : List (Addr × Str)} {K : PySem.W.Frag}
theorem vo_Eq : VO2 T (rEqA K) gEq := by
  intro Z L st H x y dx dy d st' Q w hx hy h q
  obtain ⟨b, h1, h2⟩ := Option.map_eq_some_iff.mp h
  cases h2
  have q' := q _ H L (.refl w) Den.bl
  unfold eqD at h1
  split at h1
  · rename_i a c ha hc
    split at h1
    · rename_i hs
      cases h1
      obtain ⟨rfl, _⟩ := flatD_ok hx ha
      obtain ⟨rfl, _⟩ := flatD_ok hy hc
      exact .inl ⟨hs, q'⟩
    · cases h1
  · obtain ⟨a, e1, e2⟩ := bind_some' h1
    obtain ⟨c, e3, e4⟩ := bind_some' e2
    split at e4
    · rename_i hs
      cases e4
      rw [Bool.and_eq_true] at hs
      exact .inr ⟨a, c, py_ok (B := Z) w e1 (hx.mono fun b z => .inl z), py_ok (B := Z) w e3 (hy.mono fun b z => .inl z), hs.1, hs.2, q'⟩
    · cases e4
theorem vo_Ne : VO2 T (rNeA K) gNe := by
  intro Z L st H x y dx dy d st' Q w hx hy h q
  obtain ⟨b, h1, h2⟩ := Option.map_eq_some_iff.mp h
  cases h2
  have q' := q _ H L (.refl w) Den.bl
  unfold eqD at h1
  split at h1
  · rename_i a c ha hc
    split at h1
    · rename_i hs
      cases h1
      obtain ⟨rfl, _⟩ := flatD_ok hx ha
      obtain ⟨rfl, _⟩ := flatD_ok hy hc
      exact .inl ⟨hs, q'⟩
    · cases h1
  · obtain ⟨a, e1, e2⟩ := bind_some' h1
    obtain ⟨c, e3, e4⟩ := bind_some' e2
    split at e4
    · rename_i hs
      cases e4
      rw [Bool.and_eq_true] at hs
      exact .inr ⟨a, c, py_ok (B := Z) w e1 (hx.mono fun b z => .inl z), py_ok (B := Z) w e3 (hy.mono fun b z => .inl z), hs.1, hs.2, q'⟩
    · cases e4
end

/-! ### tables by parallel lists -/
def keyD : Dt → Option Key
  | .int i => some (.inl i)
  | .str x => some (.inr x)
  | _ => none
theorem keyD_ok {L : List Addr} {B : Addr → Prop} {H : Hp} {d : Dt} {v : V} {k : Key} (h : Den L B H d v) (e : keyD d = some k) : v = kV k := by
  cases d <;> (unfold keyD at e; first | (cases e; done) | (cases e; unfold Den at h; exact h))
def pGet {α : Type} (k : Key) : List Key → List α → Option α
  | k' :: ks, x :: xs => if k' = k then some x else pGet k ks xs
  | _, _ => none
def pSet {α : Type} (k : Key) (x : α) : List Key → List α → List α
  | k' :: ks, y :: ys => (if k' = k then x else y) :: pSet k x ks ys
  | _, _ => []
def pPut {α : Type} (k : Key) (x : α) (ks : List Key) (ys : List α) : List Key × List α := if (ks.any fun j => decide (j = k)) = true then (ks, pSet k x ks ys) else (ks ++ [k], ys ++ [x])
theorem pGet_val (k : Key) : ∀ (ks : List Key) (vs : List V), valV (ks.zip vs) k = pGet k ks vs
  | [], _ => rfl
  | _ :: _, [] => rfl
  | k' :: ks, v :: vs => by
    rw [List.zip_cons_cons]
    unfold pGet
    by_cases e : k' = k
    · rw [if_pos e]; exact valV_pos (p := (k', v)) e
    · rw [if_neg e, valV_neg (p := (k', v)) e, pGet_val k ks vs]
theorem pSet_len {α : Type} (k : Key) (x : α) : ∀ (ks : List Key) (ys : List α), ks.length = ys.length → (pSet k x ks ys).length = ys.length
  | [], [], _ => rfl
  | [], _ :: _, h => by simp at h
  | _ :: _, [], h => by simp at h
  | k' :: ks, y :: ys, h => by simp [pSet, pSet_len k x ks ys (by simpa using h)]
theorem pPut_len {α : Type} (k : Key) (x : α) {ks : List Key} {ys : List α} (h : ks.length = ys.length) : (pPut k x ks ys).1.length = (pPut k x ks ys).2.length := by
  unfold pPut
  split
  · simp [pSet_len k x ks ys h, h]
  · simp [h]
theorem pPut_keys {α β : Type} (k : Key) (x : α) (y : β) (ks : List Key) (xs : List α) (ys : List β) : (pPut k x ks xs).1 = (pPut k y ks ys).1 := by
  unfold pPut
  split <;> rfl
theorem zip_any (k : Key) : ∀ (ks : List Key) (vs : List V), ks.length = vs.length → ((ks.zip vs).any fun kv => decide (kv.1 = k)) = ks.any fun j => decide (j = k)
  | [], [], _ => by simp
  | [], _ :: _, h => by simp at h
  | _ :: _, [], h => by simp at h
  | k' :: ks, y :: ys, h => by
    rw [List.zip_cons_cons, List.any_cons, List.any_cons, zip_any k ks ys (by simpa using h)]
theorem zip_put (k : Key) (v : V) : ∀ (ks : List Key) (vs : List V), ks.length = vs.length → (ks.zip vs).map (fun kv => if kv.1 = k then (kv.1, v) else kv) = ks.zip (pSet k v ks vs)
  | [], [], _ => rfl
  | [], _ :: _, h => by simp at h
  | _ :: _, [], h => by simp at h
  | k' :: ks, y :: ys, h => by
    rw [List.zip_cons_cons, List.map_cons, zip_put k v ks ys (by simpa using h)]
    show _ = (k' :: ks).zip ((if k' = k then v else y) :: pSet k v ks ys)
    rw [List.zip_cons_cons]
    by_cases e : k' = k
    · rw [if_pos e, if_pos e]
    · rw [if_neg e, if_neg e]
theorem pPut_zip (k : Key) (v : V) {ks : List Key} {vs : List V} (h : ks.length = vs.length) : putK (ks.zip vs) k v = (pPut k v ks vs).1.zip (pPut k v ks vs).2 := by
  unfold putK pPut
  rw [zip_any k ks vs h]
  split
  · exact zip_put k v ks vs h
  · show ks.zip vs ++ [(k, v)] = (ks ++ [k]).zip (vs ++ [v])
    rw [List.zip_append h]
    rfl
theorem Dens.pSet {L : List Addr} {B : Addr → Prop} {H : Hp} {d : Dt} {v : V} (q : Den L B H d v) (k : Key) : ∀ {ks : List Key} {ds : List Dt} {vs : List V}, Dens L B H ds vs → Dens L B H (pSet k d ks ds) (pSet k v ks vs)
  | [], ds, vs, h => by unfold HB.pSet; exact .nil
  | k' :: ks, [], vs, h => by unfold Dens at h; subst h; exact .nil
  | k' :: ks, e :: ds, vs, h => by
    obtain ⟨w, r, rfl, p, t⟩ := h.uncons
    unfold HB.pSet
    refine .cons ?_ (Dens.pSet q k t)
    split
    · exact q
    · exact p
theorem Dens.pPut {L : List Addr} {B : Addr → Prop} {H : Hp} {d : Dt} {v : V} (q : Den L B H d v) (k : Key) {ks : List Key} {ds : List Dt} {vs : List V} (h : Dens L B H ds vs) : Dens L B H (pPut k d ks ds).2 (pPut k v ks vs).2 := by
  unfold HB.pPut
  split
  · exact h.pSet q k
  · exact h.append (.cons q .nil)
theorem Dens.pGet {L : List Addr} {B : Addr → Prop} {H : Hp} (k : Key) : ∀ {ks : List Key} {ds : List Dt} {vs : List V}, Dens L B H ds vs → (pGet k ks ds = none ∧ pGet k ks vs = none) ∨ ∃ d v, pGet k ks ds = some d ∧ pGet k ks vs = some v ∧ Den L B H d v
  | [], ds, vs, h => .inl ⟨rfl, rfl⟩
  | k' :: ks, [], vs, h => by unfold Dens at h; subst h; exact .inl ⟨rfl, rfl⟩
  | k' :: ks, e :: ds, vs, h => by
    obtain ⟨w, r, rfl, p, t⟩ := h.uncons
    unfold HB.pGet
    split
    · exact .inr ⟨e, w, rfl, rfl, p⟩
    · exact Dens.pGet k t
end HB

set_option Elab.async false
set_option linter.all false
set_option maxRecDepth 100000
set_option maxHeartbeats 1000000
/-! HB, part g: subscripts, slices, in, len, isinstance, displays, methods, what is walked. -/
namespace HB
open PySem PySem.Spec PyProof.Rows L2

/-! ### in -/
def rDIn (neg : Bool) : R2 := fun x y H Q => ∃ a o, y = .ref a ∧ DGet H a x o ∧ Q (.bl (if neg then !o.isSome else o.isSome)) H
theorem op_dIn {X : Cx} (hu : X.A.units + 1 < cLine) : OpR X (compareOp .In) (rDIn false) := by
  intro pins s s1 H x y v u Q I rx ry q
  obtain ⟨a, o, rfl, g, q⟩ := q
  cases ry
  exact d_in hu I g rx fun s' I' => ⟨.bl _, H, I', rfl, q⟩
theorem op_dNotIn {X : Cx} (hu : X.A.units + 1 < cLine) : OpR X (compareOp .NotIn) (rDIn true) := by
  intro pins s s1 H x y v u Q I rx ry q
  obtain ⟨a, o, rfl, g, q⟩ := q
  cases ry
  exact d_notIn hu I g rx fun s' I' => ⟨.bl _, H, I', rfl, q⟩
def rSIn (neg : Bool) : R2 := fun x y H Q => ∃ i j, x = .str i ∧ y = .str j ∧ Q (.bl (if neg then (Builtin.Str.occurrences j i 0 j.length 1).isEmpty else !(Builtin.Str.occurrences j i 0 j.length 1).isEmpty)) H
def rInA (K : PySem.W.Frag) (neg : Bool) : R2 := fun x y H Q => rIn K neg x y H Q ∨ rDIn neg x y H Q
theorem op_InA {X : Cx} (hu : X.A.units + 1 < cLine) : OpR X (compareOp .In) (rInA X.K false) := OpR.or op_in_seq (op_dIn hu)
theorem op_NotInA {X : Cx} (hu : X.A.units + 1 < cLine) : OpR X (compareOp .NotIn) (rInA X.K true) := OpR.or op_notIn_seq (op_dNotIn hu)
def inD (st : Sto) (x y : Dt) : Option Bool := match asL st y with
  | some ds => (flatD x).bind fun a => (flats ds).map fun vs => inV a vs
  | none => (match asD st y with
    | some (ks, ds) => (keyD x).map fun k => (pGet k ks ds).isSome
    | none => none)
def gIn (neg : Bool) (st : Sto) (x y : Dt) : Option (Dt × Sto) := (inD st x y).map fun b => (.bl (if neg then !b else b), st)
section
variable {T : List (Addr × Str)} {K : PySem.W.Frag}
theorem vo_In {neg : Bool} : VO2 T (rInA K neg) (gIn neg) := by
  intro Z L st H x y dx dy d st' Q w hx hy h q
  obtain ⟨b, h1, h2⟩ := Option.map_eq_some_iff.mp h
  cases h2
  have q' := q _ H L (.refl w) Den.bl
  unfold inD at h1
  split at h1
  · rename_i ds hd
    obtain ⟨a, e1, e2⟩ := bind_some' h1
    obtain ⟨vs, e3, rfl⟩ := Option.map_eq_some_iff.mp e2
    obtain ⟨p, us, rfl, ep, t⟩ := asL_ok w hy hd
    obtain ⟨rfl, f1⟩ := flatD_ok hx e1
    obtain ⟨rfl, f2⟩ := flats_ok t e3
    exact .inl ⟨p, us, rfl, .inl (SqL.of ep), f1, f2, q'⟩
  · split at h1
    · rename_i ks ds hd
      obtain ⟨k, e1, rfl⟩ := Option.map_eq_some_iff.mp h1
      obtain ⟨p, us, rfl, ep, el, t⟩ := asD_ok w hy hd
      have ek := keyD_ok hx e1
      have hg : (pGet k ks us).isSome = (pGet k ks ds).isSome := by
        rcases t.pGet k (ks := ks) with ⟨z1, z2⟩ | ⟨d, v, z1, z2, _⟩ <;> rw [z1, z2] <;> rfl
      rw [← hg] at q'
      exact .inr ⟨p, pGet k ks us, rfl, .inl ⟨_, k, ep, ek, (pGet_val k ks us).symm⟩, q'⟩
    · cases h1
end

/-! ### order -/
def rLeS : R2 := fun x y H Q => ∃ i j, x = .str i ∧ y = .str j ∧ Q (.bl (!decide (j.cps.toList < i.cps.toList))) H
def rLeA : R2 := fun x y H Q => rI0 (fun i j => .bl (decide (i ≤ j))) x y H Q ∨ rLeS x y H Q
theorem op_LeA {X : Cx} : OpR X (compareOp .LtE) rLeA := OpR.or op_le op_le_str
def gLe (st : Sto) (x y : Dt) : Option (Dt × Sto) := match x, y with
  | .int i, .int j => some (.bl (decide (i ≤ j)), st)
  | .str i, .str j => some (.bl (!decide (j.cps.toList < i.cps.toList)), st)
  | _, _ => none
section
variable {T : List (Addr × Str)} {K : PySem.W.Frag}
theorem vo_Le : VO2 T rLeA gLe := by
  intro Z L st H x y dx dy d st' Q w hx hy h q
  unfold gLe at h
  split at h
  · cases h; exact .inl ⟨_, _, den_int hx, den_int hy, q _ H L (.refl w) Den.bl⟩
  · cases h; exact .inr ⟨_, _, den_str hx, den_str hy, q _ H L (.refl w) Den.bl⟩
  · cases h
end

/-! ### subscripts -/
def rIxDic : R2 := fun x y H Q => ∃ a v, x = .ref a ∧ DGet H a y (some v) ∧ Q v H
def rIxA (K : PySem.W.Frag) : R2 := fun x y H Q => rIx K x y H Q ∨ rIxDic x y H Q
def gIx (st : Sto) (x y : Dt) : Option (Dt × Sto) := match x with
  | .tup ds => (match y with
    | .int i => (atI ds i).map fun d => (d, st)
    | _ => none)
  | .str z => (match y with
    | .int i => if z.length ≤ sizeLine then (atI z.cps.toList i).map fun c => (.str ⟨#[c]⟩, st) else none
    | _ => none)
  | x => (match asL st x with
    | some ds => (match y with
      | .int i => (atI ds i).map fun d => (d, st)
      | _ => none)
    | none => (match asD st x with
      | some (ks, ds) => (keyD y).bind fun k => (pGet k ks ds).map fun d => (d, st)
      | none => none))
theorem dens_atI {L : List Addr} {B : Addr → Prop} {H : Hp} {ds : List Dt} {vs : List V} {i : Int} {d : Dt} (t : Dens L B H ds vs) (e : atI ds i = some d) : ∃ v, atI vs i = some v ∧ Den L B H d v := by
  unfold atI at e ⊢
  rw [← t.len]
  obtain ⟨j, e1, e2⟩ := bind_some' e
  obtain ⟨v, h1, h2⟩ := t.get e2
  exact ⟨v, by rw [e1]; exact h1, h2⟩
section
variable {T : List (Addr × Str)} {K : PySem.W.Frag}
theorem vo_Ix : VO2 T (rIxA K) gIx := by
  intro Z L st H x y dx dy d st' Q w hx hy h q
  unfold gIx at h
  split at h
  · rename_i ds
    split at h
    · obtain ⟨d', e1, e2⟩ := Option.map_eq_some_iff.mp h
      cases e2
      unfold Den at hx
      obtain ⟨a, vs, rfl, ea, t⟩ := hx
      obtain ⟨v, h1, h2⟩ := dens_atI t e1
      exact .inl (.inr (.inl ⟨a, vs, _, v, rfl, den_int hy, SqT.of ea, h1, q v H L (.refl w) h2⟩))
    · cases h
  · split at h
    · split at h
      · rename_i hz
        obtain ⟨c, e1, e2⟩ := Option.map_eq_some_iff.mp h
        cases e2
        exact .inl (.inr (.inr ⟨_, _, c, den_str hx, den_int hy, hz, e1, q _ H L (.refl w) Den.str⟩))
      · cases h
    · cases h
  · split at h
    · rename_i ds hd
      split at h
      · obtain ⟨d', e1, e2⟩ := Option.map_eq_some_iff.mp h
        cases e2
        obtain ⟨a, vs, rfl, ea, t⟩ := asL_ok w hx hd
        obtain ⟨v, h1, h2⟩ := dens_atI t e1
        exact .inl (.inl ⟨a, vs, _, v, rfl, den_int hy, SqL.of ea, h1, q v H L (.refl w) h2⟩)
      · cases h
    · split at h
      · rename_i ks ds hd
        obtain ⟨k, e1, e2⟩ := bind_some' h
        obtain ⟨d', e3, e4⟩ := Option.map_eq_some_iff.mp e2
        cases e4
        obtain ⟨p, us, rfl, ep, el, t⟩ := asD_ok w hx hd
        rcases t.pGet k (ks := ks) with ⟨z1, z2⟩ | ⟨d2, v, z1, z2, z3⟩
        · rw [z1] at e3; cases e3
        · rw [z1] at e3; cases e3
          exact .inr ⟨p, v, rfl, .inl ⟨_, k, ep, keyD_ok hy e1, by rw [pGet_val, z2]⟩, q v H L (.refl w) z3⟩
      · cases h
end
/-! ### slices -/
def cutL {α : Type} (xs : List α) (lo hi : Option Int) : List α := (xs.drop (HT.sIx xs.length 0 lo)).take (HT.sIx xs.length xs.length hi - HT.sIx xs.length 0 lo)
def rSlA (K : PySem.W.Frag) : V → Option Int → Option Int → Hp → VK → Prop := fun x lo hi H Q => rSlL K x lo hi H Q ∨ rSlS x lo hi H Q
theorem sl_any {X : Cx} : SlR X (rSlA X.K) := SlR.or sl_list sl_str
abbrev SO := Evr → Sto → Option (Option Int × Sto)
def SimO (T : List (Addr × Str)) (t : TO) (f : SO) : Prop := ∀ Z L st H s r o st' (Q : Option Int → Hp → Prop), Wd T Z L st H → EnvOk L (Bad Z L st) H r s → f r st = some (o, st') →
  (∀ H' L', Af T Z L st H L' st' H' → Q o H') → t s H Q
def oNo : SO := fun _ st => some (none, st)
def oE (f : SE) : SO := fun r st => (f r st).bind fun x => match x.1 with
  | .int i => some (some i, x.2)
  | _ => none
def gSl (st : Sto) (x : Dt) (lo hi : Option Int) : Option Dt := match x with
  | .str z => if z.length ≤ sizeLine then some (.str (cutS z lo hi)) else none
  | x => (asL st x).map fun ds => .lst (cutL ds lo hi)
def eSl (f : SE) (l h : SO) : SE := fun r st => (f r st).bind fun x => (l r x.2).bind fun a => (h r a.2).bind fun b => (gSl b.2 x.1 a.1 b.1).map fun d => (d, b.2)
section
variable {T : List (Addr × Str)} {K : PySem.W.Frag}
theorem sim_oNo : SimO T tNoPart oNo := by
  intro Z L st H s r o st' Q w e h q
  cases h
  exact q H L (.refl w)
theorem sim_oE {te : TE} {f : SE} (hf : SimE T te f) : SimO T (tPart te) (oE f) := by
  intro Z L st H s r o st' Q w e h q
  obtain ⟨⟨dx, st1⟩, h1, h⟩ := bind_some' h
  refine hf Z L st H s r dx st1 _ w e h1 fun x H1 L1 f1 p1 => ?_
  cases dx with
  | int i => cases h; exact ⟨i, den_int p1, q H1 L1 f1⟩
  | _ => cases h
theorem sim_sl {te : TE} {tl th : TO} {f : SE} {l h : SO} (hf : SimE T te f) (hl : SimO T tl l) (hh : SimO T th h) : SimE T (tSl (rSlA K) te tl th) (eSl f l h) := by
  intro Z L st H s r d st' Q w e hq q
  obtain ⟨⟨dx, st1⟩, h1, hq⟩ := bind_some' hq
  obtain ⟨⟨lo, st2⟩, h2, hq⟩ := bind_some' hq
  obtain ⟨⟨hi, st3⟩, h3, hq⟩ := bind_some' hq
  obtain ⟨d', h4, h5⟩ := Option.map_eq_some_iff.mp hq
  cases h5
  refine hf Z L st H s r dx st1 _ w e h1 fun x H1 L1 f1 p1 => ?_
  refine hl Z L1 st1 H1 s r lo st2 _ f1.wd (e.keep f1) h2 fun H2 L2 f2 => ?_
  refine hh Z L2 st2 H2 s r hi st3 _ f2.wd ((e.keep f1).keep f2) h3 fun H3 L3 f3 => ?_
  have p3 := (p1.keep f2).keep f3
  have fa := f1.trans (f2.trans f3)
  dsimp only at h4
  unfold gSl at h4
  split at h4
  · split at h4
    · rename_i hz
      cases h4
      exact .inr ⟨_, den_str p3, hz, q _ H3 L3 fa Den.str⟩
    · cases h4
  · obtain ⟨ds, h5, rfl⟩ := Option.map_eq_some_iff.mp h4
    obtain ⟨a, vs, rfl, ea, t⟩ := asL_ok f3.wd p3 h5
    refine .inl ⟨a, vs, rfl, SqL.of ea, fun p np => q _ _ L3 (fa.trans (.new f3.wd np)) ?_⟩
    refine .newL f3.wd np ?_
    show Dens _ _ _ (cutL ds lo hi) (cutV vs lo hi)
    unfold cutL cutV
    rw [t.len]
    exact (t.drop _).take _
end

/-! ### len, isinstance, int, all, any -/
def rLenA (K : PySem.W.Frag) : List V → Hp → VK → Prop := fun xs H Q => ((∃ p ys, xs = [.ref p] ∧ (SqL K H p ys ∨ SqT K H p ys) ∧ Q (.int ys.length) H) ∨ (∃ z, xs = [.str z] ∧ z.length ≤ sizeLine ∧ Q (.int z.length) H)) ∨ ∃ a kvs, xs = [.ref a] ∧ Rd H a (.dK kvs) ∧ Q (.int kvs.length) H
theorem call_lenA {X : Cx} : CallR X (.builtin "len") (rLenA X.K) := by
  refine CallR.or (CallR.or call_len_seq call_len_str) ?_
  intro pins s s1 H xs us Q I r q
  obtain ⟨a, kvs, rfl, hd, q⟩ := q
  obtain rfl := Vals.ref1 r
  exact d_len I hd fun t s' I' => ⟨.int _, H, I', ⟨t, rfl⟩, q⟩
def gLen (st : Sto) (xs : List Dt) : Option (Dt × Sto) := match xs with
  | [.str z] => if z.length ≤ sizeLine then some (.int z.length, st) else none
  | [.tup ds] => some (.int ds.length, st)
  | [x] => (match asL st x with
    | some ds => some (.int ds.length, st)
    | none => (asD st x).map fun y => (.int y.1.length, st))
  | _ => none
theorem dens1 {L : List Addr} {B : Addr → Prop} {H : Hp} {d : Dt} {vs : List V} (h : Dens L B H [d] vs) : ∃ v, vs = [v] ∧ Den L B H d v := by
  obtain ⟨v, r, rfl, p, t⟩ := h.uncons
  unfold Dens at t
  subst t
  exact ⟨v, rfl, p⟩
theorem dens2 {L : List Addr} {B : Addr → Prop} {H : Hp} {d e : Dt} {vs : List V} (h : Dens L B H [d, e] vs) : ∃ v u, vs = [v, u] ∧ Den L B H d v ∧ Den L B H e u := by
  obtain ⟨v, r, rfl, p, t⟩ := h.uncons
  obtain ⟨u, rfl, q⟩ := dens1 t
  exact ⟨v, u, rfl, p, q⟩
section
variable {T : List (Addr × Str)} {K : PySem.W.Frag}
theorem vo_len : VON T (rLenA K) gLen := by
  intro Z L st H xs dxs d st' Q w hx h q
  unfold gLen at h
  split at h
  · obtain ⟨v, rfl, p⟩ := dens1 hx
    split at h
    · rename_i hz
      cases h
      exact .inl (.inr ⟨_, by rw [den_str p], hz, q _ H L (.refl w) Den.int⟩)
    · cases h
  · obtain ⟨v, rfl, p⟩ := dens1 hx
    cases h
    unfold Den at p
    obtain ⟨a, vs, rfl, ea, t⟩ := p
    refine .inl (.inl ⟨a, vs, rfl, .inr (SqT.of ea), ?_⟩)
    rw [← t.len]
    exact q _ H L (.refl w) Den.int
  · obtain ⟨v, rfl, p⟩ := dens1 hx
    split at h
    · rename_i ds hd
      cases h
      obtain ⟨a, vs, rfl, ea, t⟩ := asL_ok w p hd
      refine .inl (.inl ⟨a, vs, rfl, .inl (SqL.of ea), ?_⟩)
      rw [← t.len]
      exact q _ H L (.refl w) Den.int
    · obtain ⟨⟨ks, ds⟩, e1, e2⟩ := Option.map_eq_some_iff.mp h
      cases e2
      obtain ⟨a, us, rfl, ea, el, t⟩ := asD_ok w p e1
      refine .inr ⟨a, _, rfl, ea, ?_⟩
      have e3 : (ks.zip us).length = ks.length := by rw [List.length_zip]; omega
      rw [e3]
      exact q _ H L (.refl w) Den.int
  · cases h
def gInt (st : Sto) (xs : List Dt) : Option (Dt × Sto) := match xs with
  | [.int i] => some (.int i, st)
  | _ => none
theorem vo_int : VON T (fun xs H Q => (∃ i, xs = [.int i] ∧ Q (.int i) H) ∨ ∃ k, xs = [.bl k] ∧ Q (.int (if k then 1 else 0)) H) gInt := by
  intro Z L st H xs dxs d st' Q w hx h q
  unfold gInt at h
  split at h
  · obtain ⟨v, rfl, p⟩ := dens1 hx
    cases h
    exact .inl ⟨_, by rw [den_int p], q _ H L (.refl w) Den.int⟩
  · cases h
def bools : List Dt → Option (List Bool)
  | [] => some []
  | .bl b :: ds => (bools ds).map fun bs => b :: bs
  | _ => none
theorem bools_ok {L : List Addr} {B : Addr → Prop} {H : Hp} : ∀ {ds : List Dt} {vs : List V} {bs : List Bool}, Dens L B H ds vs → bools ds = some bs → vs = bs.map V.bl
  | [], vs, bs, h, e => by
    cases e
    unfold Dens at h
    exact h
  | .bl b :: ds, vs, bs, h, e => by
    obtain ⟨v, r, rfl, p, t⟩ := h.uncons
    unfold bools at e
    obtain ⟨bs', e1, rfl⟩ := Option.map_eq_some_iff.mp e
    rw [den_bl p, bools_ok t e1]
    rfl
  | .non :: _, _, _, _, e => by cases e
  | .int _ :: _, _, _, _, e => by cases e
  | .str _ :: _, _, _, _, e => by cases e
  | .ref _ :: _, _, _, _, e => by cases e
  | .lst _ :: _, _, _, _, e => by cases e
  | .tup _ :: _, _, _, _, e => by cases e
  | .dic _ _ :: _, _, _, _, e => by cases e
theorem bools_map {α : Type} (f : α → Bool) : ∀ l : List α, bools (l.map fun a => .bl (f a)) = some (l.map f)
  | [] => rfl
  | a :: l => by
    show (bools (l.map fun a => .bl (f a))).map _ = _
    rw [bools_map f l]
    rfl
def gAll (st : Sto) (xs : List Dt) : Option (Dt × Sto) := match xs with
  | [x] => (asL st x).bind fun ds => (bools ds).map fun bs => (.bl (bs.all id), st)
  | _ => none
def gAny (st : Sto) (xs : List Dt) : Option (Dt × Sto) := match xs with
  | [x] => (asL st x).bind fun ds => (bools ds).map fun bs => (.bl (bs.any id), st)
  | _ => none
theorem vo_all : VON T (rAll K) gAll := by
  intro Z L st H xs dxs d st' Q w hx h q
  unfold gAll at h
  split at h
  · obtain ⟨v, rfl, p⟩ := dens1 hx
    obtain ⟨ds, e1, e2⟩ := bind_some' h
    obtain ⟨bs, e3, e4⟩ := Option.map_eq_some_iff.mp e2
    cases e4
    obtain ⟨a, vs, rfl, ea, t⟩ := asL_ok w p e1
    rw [bools_ok t e3] at ea
    exact ⟨a, bs, rfl, SqL.of ea, q _ H L (.refl w) Den.bl⟩
  · cases h
theorem vo_any : VON T (rAny K) gAny := by
  intro Z L st H xs dxs d st' Q w hx h q
  unfold gAny at h
  split at h
  · obtain ⟨v, rfl, p⟩ := dens1 hx
    obtain ⟨ds, e1, e2⟩ := bind_some' h
    obtain ⟨bs, e3, e4⟩ := Option.map_eq_some_iff.mp e2
    cases e4
    obtain ⟨a, vs, rfl, ea, t⟩ := asL_ok w p e1
    rw [bools_ok t e3] at ea
    exact ⟨a, bs, rfl, SqL.of ea, q _ H L (.refl w) Den.bl⟩
  · cases h
end

/-! ### displays -/
def toT (f : SA) : SE := fun r st => (f r st).bind fun z => if z.1.length ≤ sizeLine then some (.tup z.1, z.2) else none
def small (f : SA) : SA := fun r st => (f r st).bind fun z => if z.1.length ≤ sizeLine then some z else none
section
variable {T : List (Addr × Str)} {K : PySem.W.Frag}
theorem sim_lstV {t : TA} {f : SA} (hf : SimA T t f) : SimE T (tLst t) (toV (small f)) := by
  intro Z L st H s r d st' Q w e h q
  obtain ⟨⟨zs, st1⟩, h1, h2⟩ := bind_some' h
  cases h2
  obtain ⟨⟨ys, st2⟩, h3, h4⟩ := bind_some' h1
  split at h4
  · rename_i hz
    cases h4
    refine hf Z L st H s r _ _ _ w e h3 fun vs H1 L1 f1 p1 => ⟨by rw [← p1.len]; exact hz, fun p np => ?_⟩
    exact q _ _ L1 (f1.trans (.new f1.wd np)) (.newL f1.wd np p1)
  · cases h4
theorem sim_lstR {t : TA} {f : SA} (hf : SimA T t f) : SimE T (tLst t) (toR (small f)) := by
  intro Z L st H s r d st' Q w e h q
  obtain ⟨⟨zs, st1⟩, h1, h2⟩ := bind_some' h
  cases h2
  obtain ⟨⟨ys, st2⟩, h3, h4⟩ := bind_some' h1
  split at h4
  · rename_i hz
    cases h4
    refine hf Z L st H s r _ _ _ w e h3 fun vs H1 L1 f1 p1 => ⟨by rw [← p1.len]; exact hz, fun p np => ?_⟩
    refine q _ _ (L1 ++ [p]) (f1.trans (.newR f1.wd np ⟨vs, rfl, p1⟩)) ?_
    unfold Den
    exact ⟨p, by rw [← f1.wd.len]; simp, rfl⟩
  · cases h4
theorem sim_tup {t : TA} {f : SA} (hf : SimA T t f) : SimE T (tTup t) (toT f) := by
  intro Z L st H s r d st' Q w e h q
  obtain ⟨⟨zs, st1⟩, h1, h4⟩ := bind_some' h
  split at h4
  · rename_i hz
    cases h4
    refine hf Z L st H s r _ _ _ w e h1 fun vs H1 L1 f1 p1 => ⟨by rw [← p1.len]; exact hz, fun p np => ?_⟩
    exact q _ _ L1 (f1.trans (.new f1.wd np)) (.newT f1.wd np p1)
  · cases h4
/-- {} -/
def eDR : SE := fun _ st => some (.ref st.length, st ++ [some (.dic [] [])])
theorem sim_dnewR : SimE T tDNewK eDR := by
  intro Z L st H s r d st' Q w e h q
  cases h
  intro p np
  refine q _ _ (L ++ [p]) (.newR w np ⟨[], rfl, rfl, .nil⟩) ?_
  unfold Den
  exact ⟨p, by rw [← w.len]; simp, rfl⟩
/-- d[k] = v of a live dict -/
def sDP (fd fk fv : SE) : SS := fun r st => (fv r st).bind fun x => (fd r x.2).bind fun y => (fk r y.2).bind fun z => match y.1 with
  | .ref i => (match z.2[i]? with
    | some (some (.dic ks ds)) => if ks.length < sizeLine then (keyD z.1).map fun k => .nx r (z.2.set i (some (.dic (pPut k x.1 ks ds).1 (pPut k x.1 ks ds).2))) else none
    | _ => none)
  | _ => none
theorem sim_dput {td ty tv : TE} {fd fk fv : SE} (hd : SimE T td fd) (hk : SimE T ty fk) (hv : SimE T tv fv) : SimS T (sDPut td ty tv) (sDP fd fk fv) := by
  intro Z L st H s r o D w e h q
  obtain ⟨⟨dv, st1⟩, h1, h⟩ := bind_some' h
  obtain ⟨⟨dd, st2⟩, h2, h⟩ := bind_some' h
  obtain ⟨⟨dk, st3⟩, h3, h⟩ := bind_some' h
  refine hv Z L st H s r dv st1 _ w e h1 fun v H1 L1 f1 p1 => ?_
  refine hd Z L1 st1 H1 s r dd st2 _ f1.wd (e.keep f1) h2 fun x H2 L2 f2 p2 => ?_
  refine hk Z L2 st2 H2 s r dk st3 _ f2.wd ((e.keep f1).keep f2) h3 fun y H3 L3 f3 p3 => ?_
  cases dd with
  | ref i =>
    dsimp only at h
    split at h
    · rename_i ks ds hi
      split at h
      · rename_i hz
        obtain ⟨k, e1, e2⟩ := Option.map_eq_some_iff.mp h
        cases e2
        have p2' := p2.keep f3
        unfold Den at p2'
        obtain ⟨a, ia, rfl⟩ := p2'
        obtain ⟨nz, oo, eo, vs, rfl, el, t⟩ := f3.wd.own i a _ ia hi
        have ek := keyD_ok p3 e1
        have pv := (p1.keep f2).keep f3
        refine ⟨a, _, rfl, .inl ⟨ks.zip vs, k, eo, ek, by rw [List.length_zip]; omega, rfl⟩, ?_⟩
        have dl : ds.length = vs.length := t.len
        have af := Afz.wr (o := .dK (putK (ks.zip vs) k v)) (d' := .dic (pPut k dv ks ds).1 (pPut k dv ks ds).2) f3.wd ia hi ⟨(pPut k v ks vs).2, by
          rw [pPut_zip k v el, pPut_keys k v dv ks vs ds], by
          rw [pPut_keys k dv v ks ds vs]; exact pPut_len k v el, Dens.pPut pv k t⟩
        exact q s _ L3 (f1.trans (f2.trans (f3.trans af))) ((((e.keep f1).keep f2).keep f3).keep af)
      · cases h
    · cases h
  | _ => cases h
end

/-! ### methods -/
def eM (ok : Sto → Dt → Bool) (g : Sto → Dt → List Dt → Option (Dt × Sto)) (fo : SE) (fa : SA) : SE := fun r st => (fo r st).bind fun x => if ok x.2 x.1 = true then (fa r x.2).bind fun y => g y.2 x.1 y.1 else none
def isS (_ : Sto) : Dt → Bool
  | .str _ => true
  | _ => false
def isL (st : Sto) (d : Dt) : Bool := (asL st d).isSome
section
variable {T : List (Addr × Str)} {K : PySem.W.Frag}
theorem sim_bmS {r : V → List V → Hp → VK → Prop} {to : TE} {t : TA} {fo : SE} {fa : SA} {g : Sto → Dt → List Dt → Option (Dt × Sto)} (ho : SimE T to fo) (ha : SimA T t fa) (hg : VOM T r g) : SimE T (tBM K "str" r to t) (eM isS g fo fa) := by
  intro Z L st H s rr d st' Q w e h q
  obtain ⟨⟨dx, st1⟩, h1, h⟩ := bind_some' h
  split at h
  case isFalse => cases h
  case isTrue hs =>
  obtain ⟨⟨dy, st2⟩, h2, h⟩ := bind_some' h
  refine ho Z L st H s rr dx st1 _ w e h1 fun x H1 L1 f1 p1 => ⟨?_, ?_⟩
  · cases dx with
    | str z => rw [den_str p1]; rfl
    | _ => cases hs
  refine ha Z L1 st1 H1 s rr dy st2 _ f1.wd (e.keep f1) h2 fun ys H2 L2 f2 p2 => ?_
  exact hg Z L2 st2 H2 x ys dx dy d st' Q f2.wd (p1.keep f2) p2 h fun v H3 L3 f3 p3 => q v H3 L3 (f1.trans (f2.trans f3)) p3
theorem sim_bmL {r : V → List V → Hp → VK → Prop} {to : TE} {t : TA} {fo : SE} {fa : SA} {g : Sto → Dt → List Dt → Option (Dt × Sto)} (ho : SimE T to fo) (ha : SimA T t fa) (hg : VOM T r g) : SimE T (tBM K "list" r to t) (eM isL g fo fa) := by
  intro Z L st H s rr d st' Q w e h q
  obtain ⟨⟨dx, st1⟩, h1, h⟩ := bind_some' h
  split at h
  case isFalse => cases h
  case isTrue hs =>
  obtain ⟨⟨dy, st2⟩, h2, h⟩ := bind_some' h
  refine ho Z L st H s rr dx st1 _ w e h1 fun x H1 L1 f1 p1 => ⟨?_, ?_⟩
  · obtain ⟨ds, hd⟩ := Option.isSome_iff_exists.mp hs
    obtain ⟨a, vs, rfl, ea, t⟩ := asL_ok f1.wd p1 hd
    exact .inl ⟨rfl, vs, SqL.of ea⟩
  refine ha Z L1 st1 H1 s rr dy st2 _ f1.wd (e.keep f1) h2 fun ys H2 L2 f2 p2 => ?_
  exact hg Z L2 st2 H2 x ys dx dy d st' Q f2.wd (p1.keep f2) p2 h fun v H3 L3 f3 p3 => q v H3 L3 (f1.trans (f2.trans f3)) p3
/-- xs.append(y) of a live list -/
def gApp (st : Sto) (x : Dt) (ys : List Dt) : Option (Dt × Sto) := match x, ys with
  | .ref k, [y] => (match st[k]? with
    | some (some (.lst ds)) => if ds.length < sizeLine then some (.non, st.set k (some (.lst (ds ++ [y])))) else none
    | _ => none)
  | _, _ => none
theorem vo_append : VOM T rAppend gApp := by
  intro Z L st H x xs dx dxs d st' Q w hx hxs h q
  unfold gApp at h
  split at h
  · rename_i k y
    split at h
    · rename_i ds hk
      split at h
      · rename_i hz
        cases h
        obtain ⟨v, rfl, p⟩ := dens1 hxs
        unfold Den at hx
        obtain ⟨a, ka, rfl⟩ := hx
        obtain ⟨nz, o, eo, vs, rfl, t⟩ := w.own k a _ ka hk
        refine ⟨a, vs, v, rfl, rfl, eo, by rw [← t.len]; exact hz, ?_⟩
        exact q _ _ L (Afz.wr (o := .lst (vs ++ [v])) w ka hk ⟨vs ++ [v], rfl, t.append (.cons p .nil)⟩) Den.non
      · cases h
    · cases h
  · cases h
def gEnds (st : Sto) (x : Dt) (ys : List Dt) : Option (Dt × Sto) := match x, ys with
  | .str a, [.str b] => some (.bl (Txt.endswith a b), st)
  | _, _ => none
theorem vo_ends : VOM T (fun x xs H Q => ∃ a b, x = .str a ∧ xs = [.str b] ∧ Q (.bl (Txt.endswith a b)) H) gEnds := by
  intro Z L st H x xs dx dxs d st' Q w hx hxs h q
  unfold gEnds at h
  split at h
  · cases h
    obtain ⟨v, rfl, p⟩ := dens1 hxs
    exact ⟨_, _, den_str hx, by rw [den_str p], q _ H L (.refl w) Den.bl⟩
  · cases h
def strs' : List Dt → Option (List Str)
  | [] => some []
  | .str b :: ds => (strs' ds).map fun bs => b :: bs
  | _ => none
theorem strs_ok {L : List Addr} {B : Addr → Prop} {H : Hp} : ∀ {ds : List Dt} {vs : List V} {bs : List Str}, Dens L B H ds vs → strs' ds = some bs → vs = bs.map V.str
  | [], vs, bs, h, e => by
    cases e
    unfold Dens at h
    exact h
  | .str b :: ds, vs, bs, h, e => by
    obtain ⟨v, r, rfl, p, t⟩ := h.uncons
    unfold strs' at e
    obtain ⟨bs', e1, rfl⟩ := Option.map_eq_some_iff.mp e
    rw [den_str p, strs_ok t e1]
    rfl
  | .non :: _, _, _, _, e => by cases e
  | .int _ :: _, _, _, _, e => by cases e
  | .bl _ :: _, _, _, _, e => by cases e
  | .ref _ :: _, _, _, _, e => by cases e
  | .lst _ :: _, _, _, _, e => by cases e
  | .tup _ :: _, _, _, _, e => by cases e
  | .dic _ _ :: _, _, _, _, e => by cases e
theorem strs_map {α : Type} (f : α → Str) : ∀ l : List α, strs' (l.map fun a => .str (f a)) = some (l.map f)
  | [] => rfl
  | a :: l => by
    show (strs' (l.map fun a => .str (f a))).map _ = _
    rw [strs_map f l]
    rfl
def gJoin (st : Sto) (x : Dt) (y : Dt) : Option (Dt × Sto) := match x with
  | .str a => (asL st y).bind fun ds => (strs' ds).bind fun ys => if (ys.map (·.length)).sum + ys.length * a.length ≤ 16777216 then some (.str (Txt.join a ys), st) else none
  | _ => none
def eM1 (g : Sto → Dt → Dt → Option (Dt × Sto)) (fo fe : SE) : SE := fun r st => (fo r st).bind fun x => if isS x.2 x.1 = true then (fe r x.2).bind fun y => g y.2 x.1 y.1 else none
theorem sim_join {to te : TE} {fo fe : SE} (ho : SimE T to fo) (he : SimE T te fe) : SimE T (tM1 (fun x xs H Q => ∃ a p, ∃ ys : List Str, x = .str a ∧ xs = [.ref p] ∧ (SqL K H p (ys.map V.str) ∨ SqT K H p (ys.map V.str)) ∧
    (ys.map (·.length)).sum + ys.length * a.length ≤ 16777216 ∧ Q (.str (Txt.join a ys)) H) to te) (eM1 gJoin fo fe) := by
  intro Z L st H s rr d st' Q w e h q
  obtain ⟨⟨dx, st1⟩, h1, h⟩ := bind_some' h
  split at h
  case isFalse => cases h
  case isTrue hs =>
  obtain ⟨⟨dy, st2⟩, h2, h⟩ := bind_some' h
  refine ho Z L st H s rr dx st1 _ w e h1 fun x H1 L1 f1 p1 => ⟨?_, ?_⟩
  · cases dx with
    | str z => exact ⟨z, den_str p1⟩
    | _ => cases hs
  refine he Z L1 st1 H1 s rr dy st2 _ f1.wd (e.keep f1) h2 fun y H2 L2 f2 p2 => ?_
  dsimp only at h
  unfold gJoin at h
  split at h
  · obtain ⟨ds, e1, e2⟩ := bind_some' h
    obtain ⟨ys, e3, e4⟩ := bind_some' e2
    split at e4
    · rename_i hz
      cases e4
      obtain ⟨p, vs, rfl, ep, t⟩ := asL_ok f2.wd p2 e1
      rw [strs_ok t e3] at ep
      exact ⟨_, p, ys, den_str p1, rfl, .inl (SqL.of ep), hz, q _ H2 L2 (f1.trans f2) Den.str⟩
    · cases e4
  · cases h
end

/-! ### isinstance -/
def tyD (st : Sto) : Dt → Option String
  | .non => some "NoneType"
  | .bl _ => some "bool"
  | .int _ => some "int"
  | .str _ => some "str"
  | .lst _ => some "list"
  | .tup _ => some "tuple"
  | .dic _ _ => none
  | .ref k => (match st[k]? with
    | some (some (.lst _)) => some "list"
    | some (some (.dic _ _)) => some "dict"
    | _ => none)
def gIsi (c : String) (st : Sto) (xs : List Dt) : Option (Dt × Sto) := match xs with
  | [x] => (tyD st x).bind fun t => (kitB t c).map fun b => (.bl b, st)
  | _ => none
end HB

set_option Elab.async false
set_option linter.all false
set_option maxRecDepth 100000
set_option maxHeartbeats 1000000
/-! HB, part h: isinstance, what is walked, dict comprehensions, promises as calls. -/
namespace HB
open PySem PySem.Spec PyProof.Rows L2

section
variable {T : List (Addr × Str)} {K : PySem.W.Frag}
/-! ### isinstance -/
def tyD2 (st : Sto) : Dt → Option String
  | .dic _ _ => some "dict"
  | d => tyD st d
def gIs (c : String) (st : Sto) (xs : List Dt) : Option (Dt × Sto) := match xs with
  | [x] => (tyD2 st x).bind fun t => (kitB t c).map fun b => (.bl b, st)
  | _ => none
theorem tyD_ok {Z : Addr → Prop} {L : List Addr} {st : Sto} {H : Hp} {d : Dt} {v : V} {n : String} (w : Wd T Z L st H) (h : Den L (Bad Z L st) H d v) (e : tyD2 st d = some n) : TyX K H v (.type n) := by
  cases d with
  | non => cases e; rw [den_non h]; exact .base .non
  | bl b => cases e; rw [den_bl h]; exact .base (.bl b)
  | int b => cases e; rw [den_int h]; exact .base (.int b)
  | str b => cases e; rw [den_str h]; exact .base (.str b)
  | lst ds =>
    cases e
    unfold Den at h
    obtain ⟨a, vs, rfl, _, ea, _⟩ := h
    exact .base (.lst ea)
  | tup ds =>
    cases e
    unfold Den at h
    obtain ⟨a, vs, rfl, ea, _⟩ := h
    exact .base (.tup ea)
  | dic ks ds =>
    cases e
    unfold Den at h
    obtain ⟨a, vs, rfl, _, ea, _⟩ := h
    rcases ea with ea | ⟨o, ea⟩
    · exact .base (.dK ea)
    · exact .fDict ea
  | ref k =>
    unfold tyD2 tyD at e
    dsimp only at e
    unfold Den at h
    obtain ⟨a, ka, rfl⟩ := h
    split at e
    · rename_i hk
      cases e
      obtain ⟨_, o, eo, vs, rfl, _⟩ := w.own k a _ ka hk
      exact .base (.lst eo)
    · rename_i hk
      cases e
      obtain ⟨_, o, eo, vs, rfl, _⟩ := w.own k a _ ka hk
      exact .base (.dK eo)
    · cases e
theorem sim_isi {te : TE} {f : SE} {c : String} (hf : SimE T te f) : SimE T (tCB (rIsi K) (tCons te (tCons (tC (.ty c)) tNil))) (eN (gIs c) (aCons f aNil)) := by
  intro Z L st H s r d st' Q w e h q
  obtain ⟨⟨ds, st1⟩, h1, h⟩ := bind_some' h
  obtain ⟨⟨dx, st2⟩, h2, h3⟩ := bind_some' h1
  cases h3
  refine hf Z L st H s r dx _ _ w e h2 fun x H1 L1 f1 p1 => ?_
  dsimp only at h
  unfold gIs at h
  obtain ⟨t, e1, e2⟩ := bind_some' h
  obtain ⟨b, e3, e4⟩ := Option.map_eq_some_iff.mp e2
  cases e4
  exact ⟨x, .ty c, .type t, .type c, b, rfl, .ty c, tyD_ok f1.wd p1 e1, kit_ty e3, q _ H1 L1 f1 Den.bl⟩

/-! ### promises as calls -/
def gF (n : Nat) (F : List Dt → Sto → Option (Dt × Sto)) (st : Sto) (ds : List Dt) : Option (Dt × Sto) := if ds.length = n then F ds st else none
theorem sim_g {n : Nat} {F : List Dt → Sto → Option (Dt × Sto)} {t : TA} {f : SA} (hf : SimA T t f) : SimE T (tG n (SpF T n F) t) (eN (gF n F) f) := by
  intro Z L st H s r d st' Q w e h q
  obtain ⟨⟨ds, st1⟩, h1, h⟩ := bind_some' h
  refine hf Z L st H s r ds st1 _ w e h1 fun vs H1 L1 f1 p1 => ?_
  dsimp only at h
  unfold gF at h
  split at h
  · rename_i hl
    have hv : vs.length = n := by rw [← p1.len]; exact hl
    exact ⟨hv, Z, L1, st1, ds, d, st', hv, f1.wd, p1, h, fun v H2 L2 f2 p2 => q v H2 L2 (f1.trans f2) p2⟩
  · cases h
/-- by keywords: p tells which parameter each keyword names -/
def gFk (n : Nat) (p : List Nat) (F : List Dt → Sto → Option (Dt × Sto)) (st : Sto) (ds : List Dt) : Option (Dt × Sto) :=
  if ds.length = p.length ∧ p.length = n then F ((List.range n).map fun i => ds.getD (p.idxOf i) .non) st else none
theorem dens_getD {L : List Addr} {B : Addr → Prop} {H : Hp} {ds : List Dt} {vs : List V} (h : Dens L B H ds vs) (i : Nat) : Den L B H (ds.getD i .non) (vs.getD i .non) := by
  rw [List.getD_eq_getElem?_getD, List.getD_eq_getElem?_getD]
  cases e : ds[i]? with
  | none =>
    have : vs[i]? = none := by rw [List.getElem?_eq_none_iff] at e ⊢; rw [← h.len]; exact e
    rw [this]
    exact Den.non
  | some d =>
    obtain ⟨v, h1, h2⟩ := h.get e
    rw [h1]
    exact h2
theorem dens_mapR {L : List Addr} {B : Addr → Prop} {H : Hp} {f : Nat → Dt} {g : Nat → V} (h : ∀ i, Den L B H (f i) (g i)) : ∀ l : List Nat, Dens L B H (l.map f) (l.map g)
  | [] => .nil
  | i :: l => .cons (h i) (dens_mapR h l)
theorem sim_gk {n : Nat} {p : List Nat} {F : List Dt → Sto → Option (Dt × Sto)} {t : TA} {f : SA} (hf : SimA T t f) (hp : p.Perm (List.range n)) : SimE T (tGk n p (SpF T n F) t) (eN (gFk n p F) f) := by
  intro Z L st H s r d st' Q w e h q
  obtain ⟨⟨ds, st1⟩, h1, h⟩ := bind_some' h
  refine hf Z L st H s r ds st1 _ w e h1 fun vs H1 L1 f1 p1 => ?_
  dsimp only at h
  unfold gFk at h
  split at h
  · rename_i hl
    have hv : vs.length = p.length := by rw [← p1.len]; exact hl.1
    have nd : p.Nodup := hp.nodup_iff.mpr List.nodup_range
    refine ⟨(List.range n).map fun i => vs.getD (p.idxOf i) .non, by simp, ?_, Z, L1, st1, (List.range n).map fun i => ds.getD (p.idxOf i) .non, d, st', by simp, f1.wd, dens_mapR (fun i => dens_getD p1 _) _, h, fun v H2 L2 f2 p2 => q v H2 L2 (f1.trans f2) p2⟩
    apply List.ext_getElem
    · rw [List.length_map, hv]
    · intro j h1 h2
      rw [List.getElem_map]
      have hj : j < p.length := by rw [List.length_map] at h2; exact h2
      have hin : p[j] < n := by
        have : p[j] ∈ p := List.getElem_mem _
        have := hp.mem_iff.mp this
        simpa using this
      have hid : p.idxOf p[j] = j := by
        have := List.idxOf_lt_length_iff.mpr (List.getElem_mem (l := p) (n := j) hj)
        have e2 : p[p.idxOf p[j]] = p[j] := List.getElem_idxOf this
        exact nodupIx nd (List.getElem?_eq_some_iff.mpr ⟨this, e2⟩) (List.getElem?_eq_some_iff.mpr ⟨hj, rfl⟩)
      simp [List.getD_eq_getElem?_getD, hin, hid, h1]
  · cases h

/-! ### what is walked -/
def iE (g : Sto → Dt → Option (List Dt)) (f : SE) : SA := fun r st => (f r st).bind fun x => (g x.2 x.1).map fun xs => (xs, x.2)
/-- a list that is not live -/
def itL (_ : Sto) : Dt → Option (List Dt)
  | .lst ds => some ds
  | _ => none
theorem sim_iL {te : TE} {f : SE} (hf : SimE T te f) : SimI T (iList K te) (iE itL f) := by
  intro Z L st H s r xs st' Q w e h q
  obtain ⟨⟨dx, st1⟩, h1, h2⟩ := bind_some' h
  obtain ⟨ys, h3, h4⟩ := Option.map_eq_some_iff.mp h2
  cases h4
  refine hf Z L st H s r dx _ _ w e h1 fun x H1 L1 f1 p1 => ?_
  cases dx with
  | lst ds =>
    cases h3
    have p1' := p1
    unfold Den at p1'
    obtain ⟨a, vs, rfl, nb, ea, t⟩ := p1'
    refine ⟨a, rfl, ⟨vs, SqL.of ea⟩, q _ H1 L1 f1 fun Z2 L2 st2 H2 f2 => ?_⟩
    have ea2 : H2 a = some (.lst vs) := f2.kp a _ ea (fun z => nb (.inr z)) (fun ps z => by cases z)
    have t2 := t.keep f2
    refine ⟨⟨vs, SqL.of ea2, Nat.le_of_eq t.len.symm⟩, fun i d hd => ?_⟩
    obtain ⟨v, hv, pv⟩ := t2.get hd
    refine ⟨⟨vs, v, SqL.of ea2, hv⟩, fun x H3 y => ?_⟩
    obtain ⟨rfl, y⟩ := y
    have := y vs (SqL.of ea2)
    rw [hv] at this
    cases this
    exact ⟨.refl f2.wd, pv⟩
  | _ => cases h3
/-- a text, sign by sign -/
def itS (_ : Sto) : Dt → Option (List Dt)
  | .str z => some (z.cps.toList.map fun c => .str ⟨#[c]⟩)
  | _ => none
theorem sim_iS {te : TE} {f : SE} (hf : SimE T te f) : SimI T (iStr te) (iE itS f) := by
  intro Z L st H s r xs st' Q w e h q
  obtain ⟨⟨dx, st1⟩, h1, h2⟩ := bind_some' h
  obtain ⟨ys, h3, h4⟩ := Option.map_eq_some_iff.mp h2
  cases h4
  refine hf Z L st H s r dx _ _ w e h1 fun x H1 L1 f1 p1 => ?_
  cases dx with
  | str z =>
    cases h3
    refine ⟨z, den_str p1, q _ H1 L1 f1 fun Z2 L2 st2 H2 f2 => ⟨?_, fun i d hd => ?_⟩⟩
    · show z.cps.size ≤ _
      rw [List.length_map, Array.length_toList]
      exact Nat.le_refl _
    · rw [List.getElem?_map] at hd
      obtain ⟨c, hc, rfl⟩ := Option.map_eq_some_iff.mp hd
      have hc' : z.cps[i]? = some c := by rw [Array.getElem?_toList] at hc; exact hc
      refine ⟨(Array.getElem?_eq_some_iff.mp hc').1, fun x H3 y => ?_⟩
      obtain ⟨rfl, c', y1, rfl⟩ := y
      rw [hc'] at y1
      cases y1
      exact ⟨.refl f2.wd, Den.str⟩
  | _ => cases h3
/-- range(n), range(a, b) -/
def rngL (lo : Int) (n : Nat) : List Dt := (List.range n).map fun i => .int (lo + (i : Nat))
theorem walk_rng {Z : Addr → Prop} {L : List Addr} {st : Sto} {H : Hp} (lo : Int) (n : Nat) : WalkD T Z L st H (Itr lo n) (rngL lo n) := by
  intro Z2 L2 st2 H2 f2
  refine ⟨?_, fun i d hd => ?_⟩
  · show n ≤ (rngL lo n).length
    unfold rngL
    simp
  · unfold rngL at hd
    rw [List.getElem?_map] at hd
    obtain ⟨j, hj, rfl⟩ := Option.map_eq_some_iff.mp hd
    obtain ⟨h1, h2⟩ := List.getElem?_eq_some_iff.mp hj
    simp at h1 h2
    subst h2
    refine ⟨h1, fun x H3 y => ?_⟩
    obtain ⟨rfl, rfl⟩ := y
    exact ⟨.refl f2.wd, Den.int⟩
def iR (g : List Dt → Option (List Dt)) (f : SA) : SA := fun r st => (f r st).bind fun x => (g x.1).map fun xs => (xs, x.2)
def rg1 : List Dt → Option (List Dt)
  | [.int j] => if -(2 ^ 62) ≤ j ∧ j < 2 ^ 62 then some (rngL 0 j.toNat) else none
  | _ => none
def rg2 : List Dt → Option (List Dt)
  | [.int i, .int j] => if -(2 ^ 62) ≤ i ∧ i < 2 ^ 62 ∧ -(2 ^ 62) ≤ j ∧ j < 2 ^ 62 then some (rngL i (j - i).toNat) else none
  | _ => none
theorem sim_rg1 {ta : TA} {f : SA} (hf : SimA T ta f) : SimI T (iRng1 ta) (iR rg1 f) := by
  intro Z L st H s r xs st' Q w e h q
  obtain ⟨⟨ds, st1⟩, h1, h2⟩ := bind_some' h
  obtain ⟨ys, h3, h4⟩ := Option.map_eq_some_iff.mp h2
  cases h4
  refine hf Z L st H s r ds _ _ w e h1 fun vs H1 L1 f1 p1 => ?_
  dsimp only at h3
  unfold rg1 at h3
  split at h3
  · split at h3
    · rename_i j hz
      cases h3
      obtain ⟨v, rfl, p⟩ := dens1 p1
      exact ⟨j, by rw [den_int p], hz.1, hz.2, q _ H1 L1 f1 (walk_rng 0 _)⟩
    · cases h3
  · cases h3
theorem sim_rg2 {ta : TA} {f : SA} (hf : SimA T ta f) : SimI T (iRng2 ta) (iR rg2 f) := by
  intro Z L st H s r xs st' Q w e h q
  obtain ⟨⟨ds, st1⟩, h1, h2⟩ := bind_some' h
  obtain ⟨ys, h3, h4⟩ := Option.map_eq_some_iff.mp h2
  cases h4
  refine hf Z L st H s r ds _ _ w e h1 fun vs H1 L1 f1 p1 => ?_
  dsimp only at h3
  unfold rg2 at h3
  split at h3
  · split at h3
    · rename_i i j hz
      cases h3
      obtain ⟨v, u, rfl, p, p'⟩ := dens2 p1
      exact ⟨i, j, by rw [den_int p, den_int p'], ⟨hz.1, hz.2.1, hz.2.2.1, hz.2.2.2⟩, q _ H1 L1 f1 (walk_rng i _)⟩
    · cases h3
  · cases h3
/-- enumerate(list) -/
def enumL (ds : List Dt) : List Dt := ds.zipIdx.map fun x => .tup [.int (x.2 : Nat), x.1]
def en : List Dt → Option (List Dt)
  | [.lst ds] => some (enumL ds)
  | _ => none
theorem sim_enum {ta : TA} {f : SA} (hf : SimA T ta f) : SimI T (iEnum K ta) (iR en f) := by
  intro Z L st H s r xs st' Q w e h q
  obtain ⟨⟨dx, st1⟩, h1, h2⟩ := bind_some' h
  obtain ⟨ys, h3, h4⟩ := Option.map_eq_some_iff.mp h2
  cases h4
  refine hf Z L st H s r dx _ _ w e h1 fun vs0 H1 L1 f1 p1 => ?_
  dsimp only at h3
  unfold en at h3
  split at h3
  · rename_i ds
    cases h3
    obtain ⟨v, rfl, p⟩ := dens1 p1
    unfold Den at p
    obtain ⟨a, vs, rfl, nb, ea, t⟩ := p
    refine ⟨a, vs, rfl, SqL.of ea, q _ H1 L1 f1 fun Z2 L2 st2 H2 f2 => ?_⟩
    have ea2 : H2 a = some (.lst vs) := f2.kp a _ ea (fun z => nb (.inr z)) (fun ps z => by cases z)
    have t2 := t.keep f2
    have wk := walk_enum (K := K) (a := a) (xs := vs)
    refine ⟨?_, fun i d hd => ?_⟩
    · have : (enumL ds).length = vs.length := by unfold enumL; simp [t.len]
      rw [this]
      exact wk.stops H2 (SqL.of ea2)
    · unfold enumL at hd
      rw [List.getElem?_map] at hd
      obtain ⟨⟨d0, j⟩, hj, rfl⟩ := Option.map_eq_some_iff.mp hd
      rw [List.getElem?_zipIdx] at hj
      obtain ⟨d1, hd1, e1⟩ := Option.map_eq_some_iff.mp hj
      simp at e1
      obtain ⟨rfl, rfl⟩ := e1
      obtain ⟨v, hv, pv⟩ := t2.get hd1
      have hi : i < vs.length := (List.getElem?_eq_some_iff.mp hv).1
      refine ⟨wk.goes i H2 hi (SqL.of ea2), fun x H3 y => ?_⟩
      obtain ⟨TT, x1, y1, rfl, nT, rfl, hx1, hy1⟩ := wk.yields i H2 x H3 hi (SqL.of ea2) y
      simp at hx1
      have hy2 : vs[i]? = some y1 := hy1
      rw [hv] at hy2
      cases hy2
      subst hx1
      exact ⟨.new f2.wd nT, .newT f2.wd nT (.cons Den.int (.cons pv .nil))⟩
  · cases h3
end

/-! ### dict comprehensions -/
def dcGo (k : SG) (c : ST) (fk fv : SE) (r : Evr) : List Dt → Sto → List Key → List Dt → Option ((List Key × List Dt) × Sto)
  | [], st, ks, ds => some ((ks, ds), st)
  | x :: xs, st, ks, ds => (k x r).bind fun r1 => (c r1 st).bind fun b => if b.1 = true then (fk r1 b.2).bind fun y => (fv r1 y.2).bind fun z => (keyD y.1).bind fun kk =>
      if ks.length < sizeLine then dcGo k c fk fv r xs z.2 (pPut kk z.1 ks ds).1 (pPut kk z.1 ks ds).2 else none
    else dcGo k c fk fv r xs b.2 ks ds
def dc (fi : SA) (own : List Nat) (k : SG) (c : ST) (fk fv : SE) : Evr → Sto → Option ((List Key × List Dt) × Sto) := fun r st => (fi r st).bind fun xs => dcGo k c fk fv (wipeD r own) xs.1 xs.2 [] []
def dToV (f : Evr → Sto → Option ((List Key × List Dt) × Sto)) : SE := fun r st => (f r st).bind fun z => some (.dic z.1.1 z.1.2, z.2)
def dToR (f : Evr → Sto → Option ((List Key × List Dt) × Sto)) : SE := fun r st => (f r st).bind fun z => some (.ref z.2.length, z.2 ++ [some (.dic z.1.1 z.1.2)])
section
variable {T : List (Addr × Str)}
theorem dc_run {is own : List Nat} {wi : TI} {fi : SA} {g : TG} {k : SG} {tt : TT} {c : ST} {tk tv : TE} {fk fv : SE} (hi : SimI T wi fi) (hg : SimG T is g k) (hc : SimT T tt c) (hk : SimE T tk fk) (hv : SimE T tv fv) (hs : ∀ i ∈ is, i ∈ own)
    {Z : Addr → Prop} {L : List Addr} {st : Sto} {H : Hp} {s : L2.St} {r : Evr} {ks : List Key} {zs : List Dt} {st' : Sto} {Q : VK} (w : Wd T Z L st H) (e : EnvOk L (Bad Z L st) H r s) (h : dc fi own k c fk fv r st = some ((ks, zs), st'))
    (q : ∀ D vs H' L', Afz T Z L st H (zAnd Z D) L' st' H' → H D = none → H' D = some (.dK (ks.zip vs)) → ks.length = vs.length → Dens L' (Bad (zAnd Z D) L' st') H' zs vs → Q (.ref D) H') : tDc wi g tt tk tv own s H Q := by
  obtain ⟨⟨xs, st1⟩, a1, a2⟩ := bind_some' h
  refine hi Z L st H s r xs st1 _ w e a1 fun J H1 L1 f1 wk D nD => ?_
  have nD0 : H D = none := by
    cases qq : H D with
    | none => rfl
    | some o => exact absurd nD (f1.trk D (by rw [qq]; simp))
  have m1 : Afz T Z L1 st1 H1 (zAnd Z D) L1 st1 (upd H1 D (.dK [])) := Afz.mine f1.wd nD
  refine ⟨fun i m H2 => m = xs.length - i ∧ i ≤ xs.length ∧ ∃ L2 st2 kc acc vs, Afz T Z L1 st1 H1 (zAnd Z D) L2 st2 H2 ∧ H2 D = some (.dK (kc.zip vs)) ∧ kc.length = vs.length ∧ Dens L2 (Bad (zAnd Z D) L2 st2) H2 acc vs ∧ dcGo k c fk fv (wipeD r own) (xs.drop i) st2 kc acc = some ((ks, zs), st'),
    ⟨xs.length, by simp, Nat.zero_le _, L1, st1, [], [], [], m1, upd_same, rfl, .nil, a2⟩, ?_⟩
  rintro i m H2 ⟨rfl, hle, L2, st2, kc, acc, vs, f2, hD, hl, hacc, h2⟩
  obtain ⟨ws, wg⟩ := wk (zAnd Z D) L2 st2 H2 f2
  by_cases hlt : i < xs.length
  · right
    obtain ⟨go, yl⟩ := wg i xs[i] (List.getElem?_eq_getElem hlt)
    rw [List.drop_eq_getElem_cons hlt] at h2
    obtain ⟨r3, b1, b2⟩ := bind_some' h2
    obtain ⟨⟨b, st3⟩, b3, b4⟩ := bind_some' b2
    refine ⟨go, fun H5 => ∃ L5 st5 kc5 acc5 vs5, Afz T Z L1 st1 H1 (zAnd Z D) L5 st5 H5 ∧ H5 D = some (.dK (kc5.zip vs5)) ∧ kc5.length = vs5.length ∧ Dens L5 (Bad (zAnd Z D) L5 st5) H5 acc5 vs5 ∧ dcGo k c fk fv (wipeD r own) (xs.drop (i + 1)) st5 kc5 acc5 = some ((ks, zs), st'),
      fun H5 x => ⟨xs.length - (i + 1), by omega, rfl, hlt, x⟩, fun x H3 y => ?_⟩
    obtain ⟨f3, p3⟩ := yl x H3 y
    have e3 := (((e.keep f1).keep f2).keep f3).wipe own
    refine hg (zAnd Z D) L2 st2 H3 _ _ x _ r3 _ f3.wd e3 p3 b1 fun s4 e4 wp => ⟨?_, ?_⟩
    · rw [wp own hs, wipe_wipe]
    refine hc (zAnd Z D) L2 st2 H3 s4 r3 b st3 _ f3.wd e4 b3 fun H4 L4 f4 => ?_
    have keepD : ∀ {L' : List Addr} {st'' : Sto} {H' : Hp}, Afz T (zAnd Z D) L2 st2 H2 (zAnd Z D) L' st'' H' → H' D = some (.dK (kc.zip vs)) := fun ff => ff.kp D _ hD (fun z => by
      obtain ⟨j, d, j1, j2⟩ := z
      exact (f2.wd.own j D d j1 j2).1 (.inr rfl)) (fun ps z => by cases z)
    cases b with
    | false =>
      rw [if_neg (by simp)] at b4
      exact iteF ⟨L4, st3, kc, acc, vs, f2.trans (f3.trans f4), keepD (f3.trans f4), hl, (hacc.keep f3).keep f4, b4⟩
    | true =>
      rw [if_pos rfl] at b4
      obtain ⟨⟨dy, st5⟩, c1, c2⟩ := bind_some' b4
      obtain ⟨⟨dz, st6⟩, c3, c4⟩ := bind_some' c2
      obtain ⟨kk, c5, c6⟩ := bind_some' c4
      split at c6
      case isFalse => cases c6
      case isTrue hz =>
      refine iteT (hk (zAnd Z D) L4 st3 H4 s4 r3 dy st5 _ f4.wd (e4.keep f4) c1 fun y H5 L5 f5 p5 => ?_)
      refine hv (zAnd Z D) L5 st5 H5 s4 r3 dz st6 _ f5.wd ((e4.keep f4).keep f5) c3 fun z H6 L6 f6 p6 => ?_
      have fall := f3.trans (f4.trans (f5.trans f6))
      have hacc6 := (((hacc.keep f3).keep f4).keep f5).keep f6
      have zD : zAnd Z D D := .inr rfl
      have hD6 := keepD fall
      have tD6 : ∀ zs, H6 D ≠ some (.tup zs) := fun zs z => by rw [hD6] at z; cases z
      have wd7 : Wd T (zAnd Z D) L6 st6 (upd H6 D (.dK (putK (kc.zip vs) kk z))) := f6.wd.chg zD fun u eu => by rw [hD6] at eu; cases eu; exact .inr ⟨_, rfl⟩
      have fa := f2.trans fall
      have ek : y = kV kk := keyD_ok p5 c5
      refine ⟨kc.zip vs, kk, ek, hD6, by rw [List.length_zip]; omega, L6, st6, (pPut kk dz kc acc).1, (pPut kk dz kc acc).2, (pPut kk z kc vs).2, ⟨wd7, fa.pre, fun b u eb nl nt => ?_, fa.nw, fun b n z => ?_, fun b us eb => ?_, fa.fr, fa.zs⟩, ?_, ?_, (Dens.pPut p6 kk hacc6).chg (.inl zD) tD6, c6⟩
      · rw [upd_ne (ne_of_none eb nD)]; exact fa.kp b u eb nl nt
      · by_cases hb : b = D
        · rw [hb, upd_same] at z; cases z
        · rw [upd_ne hb] at z; exact fa.trk b n z
      · rw [upd_ne (ne_of_none eb nD)]; exact fa.tp b us eb
      · rw [upd_same, pPut_zip kk z hl, pPut_keys kk z dz kc vs acc]
      · rw [pPut_keys kk dz z kc acc vs]; exact pPut_len kk z hl
  · left
    have hx : i = xs.length := by omega
    subst hx
    rw [List.drop_length] at h2
    cases h2
    exact ⟨ws, q D vs H2 L2 (f1.trans f2) nD0 hD hl hacc⟩
theorem sim_dcV {is own : List Nat} {wi : TI} {fi : SA} {g : TG} {k : SG} {tt : TT} {c : ST} {tk tv : TE} {fk fv : SE} (hi : SimI T wi fi) (hg : SimG T is g k) (hc : SimT T tt c) (hk : SimE T tk fk) (hv : SimE T tv fv) (hs : ∀ i ∈ is, i ∈ own := by decide) : SimE T (tDc wi g tt tk tv own) (dToV (dc fi own k c fk fv)) := by
  intro Z L st H s r d st' Q w e h q
  obtain ⟨⟨⟨ks, zs⟩, st1⟩, a1, h⟩ := bind_some' h
  cases h
  refine dc_run hi hg hc hk hv hs w e a1 fun D vs H' L' ff nD hD hl hv => ?_
  refine q _ H' L' ff.back ?_
  unfold Den
  refine ⟨D, vs, rfl, fun z => ?_, .inl hD, hl, hv.mono bad_zAnd⟩
  rcases z with z | ⟨j, d, j1, j2⟩
  · exact w.zt D z nD
  · exact (ff.wd.own j D d j1 j2).1 (.inr rfl)
theorem sim_dcR {is own : List Nat} {wi : TI} {fi : SA} {g : TG} {k : SG} {tt : TT} {c : ST} {tk tv : TE} {fk fv : SE} (hi : SimI T wi fi) (hg : SimG T is g k) (hc : SimT T tt c) (hk : SimE T tk fk) (hv : SimE T tv fv) (hs : ∀ i ∈ is, i ∈ own := by decide) : SimE T (tDc wi g tt tk tv own) (dToR (dc fi own k c fk fv)) := by
  intro Z L st H s r d st' Q w e h q
  obtain ⟨⟨⟨ks, zs⟩, st1⟩, a1, h⟩ := bind_some' h
  cases h
  refine dc_run hi hg hc hk hv hs w e a1 fun D vs H' L' ff nD hD hl hv => ?_
  refine q _ H' (L' ++ [D]) (ff.claim w nD hD ⟨vs, rfl, hl, hv⟩) ?_
  unfold Den
  exact ⟨D, by rw [← ff.wd.len]; simp, rfl⟩
end
end HB

set_option Elab.async false
set_option linter.all false
set_option maxRecDepth 100000
set_option maxHeartbeats 1000000
/-! HB, part i: repr of nested data. -/
namespace HB
open PySem PySem.Spec PyProof.Rows L2

mutual
def repT : Dt → Str
  | .non => "None"
  | .bl b => if b then "True" else "False"
  | .int i => toString i
  | .str x => reprText x
  | .ref _ => ""
  | .lst ds => listText (repTs ds)
  | .tup ds => tupleText (repTs ds)
  | .dic ks ds => dictText (repKs ks ds)
def repTs : List Dt → List Str
  | [] => []
  | d :: ds => repT d :: repTs ds
def repKs : List Key → List Dt → List Str
  | k :: ks, d :: ds => ((match k with
    | .inl i => toString i
    | .inr x => reprText x) ++ ": " ++ repT d) :: repKs ks ds
  | _, [] => []
  | [], _ :: _ => []
end
mutual
def repOk : Dt → Bool
  | .int i => decide (i.natAbs.log2 < 1920)
  | .ref _ => false
  | .lst ds => repOks ds
  | .tup ds => repOks ds
  | .dic ks ds => ks.all (fun k => match k with
    | .inl i => decide (i.natAbs.log2 < 1920)
    | .inr _ => true) && repOks ds
  | _ => true
def repOks : List Dt → Bool
  | [] => true
  | d :: ds => repOk d && repOks ds
end
mutual
def depD : Dt → Nat
  | .lst ds => depDs ds + 1
  | .tup ds => depDs ds + 1
  | .dic _ ds => depDs ds + 1
  | _ => 0
def depDs : List Dt → Nat
  | [] => 0
  | d :: ds => max (depD d) (depDs ds)
end
/-- one object tells one data -/
theorem zip_inj {ks ls : List Key} {vs us : List V} (h1 : ks.length = vs.length) (h2 : ls.length = us.length) (e : ks.zip vs = ls.zip us) : ks = ls ∧ vs = us := by
  have a := congrArg List.unzip e
  rw [List.unzip_zip h1, List.unzip_zip h2] at a
  exact ⟨congrArg Prod.fst a, congrArg Prod.snd a⟩
theorem rd_one {H : Hp} {a : Addr} {u u' : HO} (nf : ∀ o x, u ≠ .frz o x) (nf' : ∀ o x, u' ≠ .frz o x) (h : Rd H a u) (h' : Rd H a u') : u = u' := by
  rcases h with h | ⟨o, h⟩ <;> rcases h' with h' | ⟨o', h'⟩ <;> rw [h] at h' <;> cases h'
  · rfl
  · exact absurd rfl (nf _ _)
  · exact absurd rfl (nf' _ _)
  · rfl
mutual
theorem Den.one {L L' : List Addr} {B B' : Addr → Prop} {H : Hp} : ∀ {d e : Dt} {v : V}, noRef d = true → noRef e = true → Den L B H d v → Den L' B' H e v → d = e
  | .non, e, v, n, m, h, g => by
    rw [den_non h] at g
    cases e <;> (unfold Den at g; first | rfl | (cases g; done) | (obtain ⟨_, _, g, _⟩ := g; cases g; done) | (unfold noRef at m; cases m))
  | .bl b, e, v, n, m, h, g => by
    rw [den_bl h] at g
    cases e <;> (unfold Den at g; first | (cases g; done) | (cases g; rfl) | (obtain ⟨_, _, g, _⟩ := g; cases g; done) | (unfold noRef at m; cases m))
  | .int b, e, v, n, m, h, g => by
    rw [den_int h] at g
    cases e <;> (unfold Den at g; first | (cases g; done) | (cases g; rfl) | (obtain ⟨_, _, g, _⟩ := g; cases g; done) | (unfold noRef at m; cases m))
  | .str b, e, v, n, m, h, g => by
    rw [den_str h] at g
    cases e <;> (unfold Den at g; first | (cases g; done) | (cases g; rfl) | (obtain ⟨_, _, g, _⟩ := g; cases g; done) | (unfold noRef at m; cases m))
  | .ref _, e, v, n, m, h, g => by unfold noRef at n; cases n
  | .lst ds, e, v, n, m, h, g => by
    unfold noRef at n
    unfold Den at h
    obtain ⟨a, vs, rfl, _, ea, t⟩ := h
    cases e with
    | lst es =>
      unfold noRef at m
      unfold Den at g
      obtain ⟨a', vs', e1, _, ea', t'⟩ := g
      cases e1
      rw [ea] at ea'; cases ea'
      rw [Dens.one n m t t']
    | tup es =>
      unfold Den at g
      obtain ⟨a', vs', e1, ea', _⟩ := g
      cases e1
      rw [ea] at ea'; cases ea'
    | dic ks es =>
      unfold Den at g
      obtain ⟨a', vs', e1, _, ea', _⟩ := g
      cases e1
      rcases ea' with ea' | ⟨o, ea'⟩ <;> rw [ea] at ea' <;> cases ea'
    | ref k => unfold noRef at m; cases m
    | _ => unfold Den at g; cases g
  | .tup ds, e, v, n, m, h, g => by
    unfold noRef at n
    unfold Den at h
    obtain ⟨a, vs, rfl, ea, t⟩ := h
    cases e with
    | tup es =>
      unfold noRef at m
      unfold Den at g
      obtain ⟨a', vs', e1, ea', t'⟩ := g
      cases e1
      rw [ea] at ea'; cases ea'
      rw [Dens.one n m t t']
    | lst es =>
      unfold Den at g
      obtain ⟨a', vs', e1, _, ea', _⟩ := g
      cases e1
      rw [ea] at ea'; cases ea'
    | dic ks es =>
      unfold Den at g
      obtain ⟨a', vs', e1, _, ea', _⟩ := g
      cases e1
      rcases ea' with ea' | ⟨o, ea'⟩ <;> rw [ea] at ea' <;> cases ea'
    | ref k => unfold noRef at m; cases m
    | _ => unfold Den at g; cases g
  | .dic ks ds, e, v, n, m, h, g => by
    unfold noRef at n
    unfold Den at h
    obtain ⟨a, vs, rfl, _, ea, el, t⟩ := h
    cases e with
    | dic ls es =>
      unfold noRef at m
      unfold Den at g
      obtain ⟨a', vs', e1, _, ea', el', t'⟩ := g
      cases e1
      have ez := rd_one (fun o x z => by cases z) (fun o x z => by cases z) ea ea'
      injection ez with ez
      obtain ⟨rfl, rfl⟩ := zip_inj el el' ez
      rw [Dens.one n m t t']
    | lst es =>
      unfold Den at g
      obtain ⟨a', vs', e1, _, ea', _⟩ := g
      cases e1
      rcases ea with ea | ⟨o, ea⟩ <;> rw [ea'] at ea <;> cases ea
    | tup es =>
      unfold Den at g
      obtain ⟨a', vs', e1, ea', _⟩ := g
      cases e1
      rcases ea with ea | ⟨o, ea⟩ <;> rw [ea'] at ea <;> cases ea
    | ref k => unfold noRef at m; cases m
    | _ => unfold Den at g; cases g
theorem Dens.one {L L' : List Addr} {B B' : Addr → Prop} {H : Hp} : ∀ {ds es : List Dt} {vs : List V}, noRefs ds = true → noRefs es = true → Dens L B H ds vs → Dens L' B' H es vs → ds = es
  | [], es, vs, n, m, h, g => by
    have h1 := h.len; have h2 := g.len
    rw [← h1] at h2
    exact (List.length_eq_zero_iff.mp h2).symm
  | d :: ds, [], vs, n, m, h, g => by
    have := h.len; have := g.len
    simp at *; omega
  | d :: ds, e :: es, vs, n, m, h, g => by
    unfold noRefs at n m
    rw [Bool.and_eq_true] at n m
    obtain ⟨v, r, rfl, p, t⟩ := h.uncons
    obtain ⟨v', r', e1, p', t'⟩ := g.uncons
    cases e1
    rw [Den.one n.1 m.1 p p', Dens.one n.2 m.2 t t']
end
section
variable {X : Cx} {pins : List (Addr × Obj)} {s1 : L2.St} {H : Hp} {s : Shared} {L : List Addr} {B : Addr → Prop}
/-- the addresses as are those of parts of some data of at most n in size -/
def PartsOf (L : List Addr) (B : Addr → Prop) (H : Hp) (n : Nat) (as : List Addr) : Prop := ∀ b ∈ as, ∃ d, sizeOf d ≤ n ∧ noRef d = true ∧ Den L B H d (.ref b)
theorem all_get {prog : Program} {w : World} {as : List Addr} {h0 : Heap} {n : Nat} : ∀ {l : List Value} {ts : List Str}, ReprAllK prog w as h0 n l ts → ∀ (i : Nat) (y : Value), l.toArray[i]? = some y → ∃ t, ts[i]? = some t ∧ ReprK prog w as h0 n y t
  | [], _, .nil, i, y, e => by simp at e
  | x :: l, t :: ts, .cons h r, 0, y, e => by
    simp at e; subst e
    exact ⟨t, rfl, h⟩
  | x :: l, t :: ts, .cons h r, i + 1, y, e => by
    obtain ⟨t', h1, h2⟩ := all_get r i y (by simpa using e)
    exact ⟨t', by simpa using h1, h2⟩
theorem all_more {prog : Program} {w : World} {as as' : List Addr} {h0 : Heap} {n : Nat} (hs : ∀ b ∈ as, b ∈ as') : ∀ {l : List Value} {ts : List Str}, ReprAllK prog w as h0 n l ts → ReprAllK prog w as' h0 n l ts
  | _, _, .nil => .nil
  | _, _, .cons h r => .cons (h.more hs) (all_more hs r)
theorem repTs_len : ∀ ds : List Dt, (repTs ds).length = ds.length
  | [] => rfl
  | d :: ds => by unfold repTs; simp [repTs_len ds]
def keyT : Key → Str
  | .inl i => toString i
  | .inr x => reprText x
def keyOk : Key → Bool
  | .inl i => decide (i.natAbs.log2 < 1920)
  | .inr _ => true
theorem app_len (x y : Str) : (x ++ y).length = x.length + y.length := strLen_append x y
theorem key_rep {prog : Program} {w : World} {as : List Addr} {h0 : Heap} {n : Nat} {k : Key} {u : Value} (h : (mixKind prog w).is k u = true) (ho : keyOk k = true) (hz : (keyT k).length ≤ sizeLine) : ReprK prog w as h0 n u (keyT k) := by
  rcases keyIs_shape h with ⟨i, t, rfl, rfl⟩ | ⟨x, t, rfl, rfl⟩
  · exact ReprK.of_is (ReprIs.int t (of_decide_eq_true ho)) _ _ _
  · exact ReprK.of_is (ReprIs.str x t hz) _ _ _
theorem entries_rep {prog : Program} {w : World} {as : List Addr} {h0 : Heap} {n : Nat} : ∀ {es : List DictEntry} {ws : List (Key × Value)} {ks : List Key} {ds : List Dt}, Pairs (mixKind prog w) es ws → ks = ws.map (·.1) → ReprAllK prog w as h0 n (ws.map (·.2)) (repTs ds) → ks.all keyOk = true → piled (repKs ks ds) ≤ sizeLine → ReprEntriesK prog w as h0 n es (repKs ks ds)
  | [], [], ks, ds, .nil, e, h, _, _ => by
    subst e
    cases ds with
    | nil => unfold repKs; exact .nil
    | cons d ds => unfold repKs; exact .nil
  | e :: es, kv :: ws, ks, ds, .cons h1 h2 r, ek, h, ho, hz => by
    subst ek
    cases ds with
    | nil => unfold repTs at h; cases h
    | cons d ds =>
      unfold repTs at h
      cases h with
      | cons a1 a2 =>
        rw [List.map_cons] at ho hz ⊢
        rw [List.all_cons, Bool.and_eq_true] at ho
        unfold repKs at hz ⊢
        rw [piled_cons] at hz
        have e1 : ((match kv.1 with
          | .inl i => toString i
          | .inr x => reprText x) : Str) = keyT kv.1 := by
          cases kv.1 <;> rfl
        rw [e1] at hz ⊢
        rw [app_len, app_len] at hz
        refine .cons (key_rep h1 ho.1 (by omega)) (by rw [h2]; exact a1) (entries_rep r rfl a2 ho.2 (by omega))
theorem piled_vals : ∀ (ks : List Key) (ds : List Dt), ks.length = ds.length → piled (repTs ds) ≤ piled (repKs ks ds)
  | [], [], _ => by unfold repTs repKs; exact Nat.le_refl _
  | [], _ :: _, h => by simp at h
  | _ :: _, [], h => by simp at h
  | k :: ks, d :: ds, h => by
    unfold repTs repKs
    rw [piled_cons, piled_cons, app_len, app_len]
    have := piled_vals ks ds (by simpa using h)
    omega
theorem kv_split : ∀ {ks : List Key} {vs : List V} {ws : List (Key × Value)}, ks.length = vs.length → KV (ks.zip vs) ws → ks = ws.map (·.1) ∧ Vals vs (ws.map (·.2))
  | [], [], _, _, h => by
    cases h
    exact ⟨rfl, .nil⟩
  | [], _ :: _, _, h, _ => by simp at h
  | _ :: _, [], _, h, _ => by simp at h
  | k :: ks, v :: vs, _, hl, h => by
    rw [List.zip_cons_cons] at h
    cases h with
    | cons a b =>
      obtain ⟨h1, h2⟩ := kv_split (by simpa using hl) b
      obtain ⟨h3, h4⟩ := a
      exact ⟨by rw [h1, List.map_cons, ← h3], .cons h4 h2⟩
mutual
theorem rep_ok (I : Inv X pins s1 H s) : ∀ (d : Dt) (v : V) (u : Value) (n : Nat), noRef d = true → repOk d = true → depD d ≤ n → (repT d).length ≤ sizeLine → Den L B H d v → RelV v u → ∃ as, ReprK X.prog X.w as s.heap n u (repT d) ∧ PartsOf L B H (sizeOf d) as
  | .non, v, u, n, hn, ho, hd, hz, q, r => by
    rw [den_non q] at r; cases r
    exact ⟨[], ReprK.of_is ReprIs.none _ _ _, fun b hb => by simp at hb⟩
  | .bl b, v, u, n, hn, ho, hd, hz, q, r => by
    rw [den_bl q] at r; cases r
    unfold repT
    have := ReprK.of_is (prog := X.prog) (w := X.w) (ReprIs.bool b) [] s.heap n
    refine ⟨[], ?_, fun b hb => by simp at hb⟩
    cases b <;> exact this
  | .int i, v, u, n, hn, ho, hd, hz, q, r => by
    rw [den_int q] at r; obtain ⟨t, rfl⟩ := r
    unfold repOk at ho
    unfold repT
    exact ⟨[], ReprK.of_is (ReprIs.int t (of_decide_eq_true ho)) _ _ _, fun b hb => by simp at hb⟩
  | .str x, v, u, n, hn, ho, hd, hz, q, r => by
    rw [den_str q] at r; obtain ⟨t, rfl⟩ := r
    unfold repT at hz ⊢
    exact ⟨[], ReprK.of_is (ReprIs.str x t hz) _ _ _, fun b hb => by simp at hb⟩
  | .ref _, v, u, n, hn, ho, hd, hz, q, r => by unfold noRef at hn; cases hn
  | .lst ds, v, u, n, hn, ho, hd, hz, q, r => by
    have q0 := q
    have hn0 := hn
    unfold noRef at hn
    unfold repOk at ho
    unfold depD at hd
    unfold repT at hz ⊢
    unfold Den at q
    obtain ⟨a, vs, rfl, nb, ea, t⟩ := q
    cases r
    obtain ⟨its, rv, ⟨o, k, h1, h2, h3, h4⟩, _⟩ := I.list (SqL.of (K := X.K) ea)
    obtain ⟨m, rfl⟩ : ∃ m, n = m + 1 := ⟨n - 1, by omega⟩
    have hp := piled_le_listText (repTs ds)
    obtain ⟨as, hR, hP⟩ := reps_ok I ds vs its m hn ho (by omega) (by omega) t rv
    cases its with
    | nil =>
      cases rv
      have e0 : ds = [] := List.length_eq_zero_iff.mp t.len
      subst e0
      exact ⟨[], ReprK.listEmpty h1 h2 h4, fun b hb => by simp at hb⟩
    | cons y l =>
      have na : a ∉ as := fun z => by
        obtain ⟨d', z1, z2, z3⟩ := hP a z
        have e := Den.one hn0 z2 q0 z3
        rw [← e] at z1
        simp at z1
        omega
      refine ⟨a :: as, ReprK.list h1 h2 h4 na ?_ (all_get hR), fun b hb => ?_⟩
      · rw [repTs_len, t.len, rv.length]; simp
      · rcases List.mem_cons.mp hb with rfl | hb
        · exact ⟨.lst ds, Nat.le_refl _, hn0, q0⟩
        · obtain ⟨d', z1, z2, z3⟩ := hP b hb
          exact ⟨d', by simp; omega, z2, z3⟩
  | .tup ds, v, u, n, hn, ho, hd, hz, q, r => by
    have q0 := q
    have hn0 := hn
    unfold noRef at hn
    unfold repOk at ho
    unfold depD at hd
    unfold repT at hz ⊢
    unfold Den at q
    obtain ⟨a, vs, rfl, ea, t⟩ := q
    cases r
    obtain ⟨its, rv, ⟨o, h1, h2, k, h4⟩, _⟩ := I.tuple (SqT.of (K := X.K) ea)
    obtain ⟨m, rfl⟩ : ∃ m, n = m + 1 := ⟨n - 1, by omega⟩
    have hp := piled_le_tupleText (repTs ds)
    obtain ⟨as, hR, hP⟩ := reps_ok I ds vs its m hn ho (by omega) (by omega) t rv
    have na : a ∉ as := fun z => by
      obtain ⟨d', z1, z2, z3⟩ := hP a z
      have e := Den.one hn0 z2 q0 z3
      rw [← e] at z1
      simp at z1
      omega
    refine ⟨a :: as, ReprK.tuple h1 h2 h4 na hR, fun b hb => ?_⟩
    rcases List.mem_cons.mp hb with rfl | hb
    · exact ⟨.tup ds, Nat.le_refl _, hn0, q0⟩
    · obtain ⟨d', z1, z2, z3⟩ := hP b hb
      exact ⟨d', by simp; omega, z2, z3⟩
  | .dic ks ds, v, u, n, hn, ho, hd, hz, q, r => by
    have q0 := q
    have hn0 := hn
    unfold noRef at hn
    unfold repOk at ho
    rw [Bool.and_eq_true] at ho
    unfold depD at hd
    unfold repT at hz ⊢
    unfold Den at q
    obtain ⟨a, vs, rfl, nb, ea, el, t⟩ := q
    cases r
    obtain ⟨_, hsys, ws, kv, o, es, ep, h1, h2, h3, h4, h5, h6⟩ := dk_rd I.hok ea
    obtain ⟨m, rfl⟩ : ∃ m, n = m + 1 := ⟨n - 1, by omega⟩
    have hp := piled_le_dictText (repKs ks ds)
    obtain ⟨ek, rv⟩ := kv_split el kv
    have hpv := piled_vals ks ds (by rw [el, t.len])
    obtain ⟨as, hR, hP⟩ := reps_ok I ds vs (ws.map (·.2)) m hn ho.2 (by omega) (by omega) t rv
    have na : a ∉ as := fun z => by
      obtain ⟨d', z1, z2, z3⟩ := hP a z
      have e := Den.one hn0 z2 q0 z3
      rw [← e] at z1
      simp at z1
      omega
    have hko : ks.all keyOk = true := by
      have h9 := ho.1
      rw [List.all_eq_true] at h9 ⊢
      intro k hk
      have := h9 k hk
      cases k <;> exact this
    refine ⟨a :: as, ReprK.dict h1 h2.1 h3 hsys na (entries_rep h5 ek hR hko (by omega)), fun b hb => ?_⟩
    rcases List.mem_cons.mp hb with rfl | hb
    · exact ⟨.dic ks ds, Nat.le_refl _, hn0, q0⟩
    · obtain ⟨d', z1, z2, z3⟩ := hP b hb
      exact ⟨d', by simp; omega, z2, z3⟩
theorem reps_ok (I : Inv X pins s1 H s) : ∀ (ds : List Dt) (vs : List V) (us : List Value) (n : Nat), noRefs ds = true → repOks ds = true → depDs ds ≤ n → piled (repTs ds) ≤ sizeLine → Dens L B H ds vs → Vals vs us → ∃ as, ReprAllK X.prog X.w as s.heap n us (repTs ds) ∧ PartsOf L B H (sizeOf ds) as
  | [], vs, us, n, hn, ho, hd, hz, q, r => by
    unfold Dens at q
    subst q
    cases r
    exact ⟨[], .nil, fun b hb => by simp at hb⟩
  | d :: ds, vs, us, n, hn, ho, hd, hz, q, r => by
    unfold noRefs at hn
    unfold repOks at ho
    rw [Bool.and_eq_true] at hn ho
    unfold depDs at hd
    unfold repTs at hz ⊢
    rw [piled_cons] at hz
    obtain ⟨v, w, rfl, p, t⟩ := q.uncons
    cases r with
    | cons r1 r2 =>
      obtain ⟨as, h1, h2⟩ := rep_ok I d v _ n hn.1 ho.1 (by omega) (by omega) p r1
      obtain ⟨bs, h3, h4⟩ := reps_ok I ds w _ n hn.2 ho.2 (by omega) (by omega) t r2
      refine ⟨as ++ bs, .cons (h1.more fun b hb => by simp [hb]) (all_more (fun b hb => by simp [hb]) h3), fun b hb => ?_⟩
      rcases List.mem_append.mp hb with hb | hb
      · obtain ⟨d', z1, z2, z3⟩ := h2 b hb
        exact ⟨d', by simp; omega, z2, z3⟩
      · obtain ⟨d', z1, z2, z3⟩ := h4 b hb
        exact ⟨d', by simp; omega, z2, z3⟩
end
def rRep : List V → Hp → VK → Prop := fun xs H Q => ∃ (L : List Addr) (B : Addr → Prop) (d : Dt) (v : V), xs = [v] ∧ noRef d = true ∧ repOk d = true ∧ depD d ≤ 32 ∧ (repT d).length ≤ sizeLine ∧ Den L B H d v ∧ Q (.str (repT d)) H
theorem call_rep (hg : X.A.guards = some []) (hu : X.A.units + 64 < cLine) : CallR X (.builtin "repr") rRep := by
  intro pins s s1 H xs us Q I r h
  obtain ⟨L, B, d, v, rfl, hn, ho, hd, hz, q, qq⟩ := h
  obtain ⟨u, rfl, ru⟩ := vals1 r
  have fin : ∀ (h' : Heap) (t : Tok) (tk : Nat), (∀ b o, s.heap.get? b = some o → h'.get? b = some o) → EP X pins s1 Q (.str (repT d) t) { s with heap := h', toks := tk } := fun h' t tk hk => ⟨.str _, H, I.kept hk, ⟨t, rfl⟩, qq⟩
  have kk : ∀ b o, s.heap.get? b = some o → s.heap.get? b = some o := fun _ _ e => e
  have cl : ∀ as : List Addr, ∀ b ∈ as, Clear [] b := fun as b _ => Clear.nil b
  cases d with
  | non =>
    rw [den_non q] at ru; cases ru
    exact PySem.P.repr_of_none ⟨.str _, H, I.tok _, ⟨_, rfl⟩, qq⟩
  | bl b =>
    rw [den_bl q] at ru; cases ru
    refine PySem.P.repr_of_bool ⟨.str _, H, I.tok _, ⟨_, rfl⟩, ?_⟩
    unfold repT at qq
    cases b <;> exact qq
  | int i =>
    rw [den_int q] at ru; obtain ⟨t, rfl⟩ := ru
    unfold repOk at ho
    unfold repT at qq
    exact PySem.P.repr_of_int (of_decide_eq_true ho) ⟨.str _, H, I.tok _, ⟨_, rfl⟩, qq⟩
  | str x =>
    rw [den_str q] at ru; obtain ⟨t, rfl⟩ := ru
    unfold repT at qq hz
    exact PySem.P.repr_of_str ⟨.str _, H, I.tok _, ⟨_, rfl⟩, qq⟩ hz
  | ref k => unfold noRef at hn; cases hn
  | lst ds =>
    have q0 := q
    have hn0 := hn
    unfold noRef at hn
    unfold repOk at ho
    unfold depD at hd
    unfold repT at hz fin
    unfold Den at q
    obtain ⟨a, vs, rfl, nb, ea, t⟩ := q
    cases ru
    obtain ⟨its, rv, ⟨o, k, h1, h2, h3, h4⟩, _⟩ := I.list (SqL.of (K := X.K) ea)
    have hp := piled_le_listText (repTs ds)
    obtain ⟨as, hR, hP⟩ := reps_ok I ds vs its 32 hn ho (by omega) (by omega) t rv
    have hTy : s.TypeIs (.ref a) "list" := ⟨o, h1, h2⟩
    refine Calls.call_function_entry PySem.F.kind_repr PySem.F.plain_repr PySem.F.entry_repr (PySem.F.args_repr1 _) ?_
    unfold Builtin.«repr»
    refine wpAny_bind (m := oneArg "repr" _) (wpAny_pure ?_)
    refine wpAny_bind (wpAny_cRoomFor (by show X.A.units + 1 < cLine; omega) ?_)
    refine wpAny_bind (wpAny_specialOf (name := Str.ofString "__repr__") hTy PySem.F.slot_list_repr.lookup ?_)
    cases its with
    | nil =>
      cases rv
      have e0 : ds = [] := List.length_eq_zero_iff.mp t.len
      subst e0
      refine wpAny_bind (m := callSpecialIfBound? (.ref a) (Str.ofString "__repr__")) (wpAny_callSpecialIfBound?_slot (name := Str.ofString "__repr__") hTy PySem.F.slot_list_repr (call_list_repr_empty hTy h1 h4 ?_))
      exact wpAny_bind (wpAny_isInstance (T := "str") (b := true) rfl isSubtype_str_str (wpAny_pure ⟨_, rfl, fin s.heap _ _ kk⟩))
    | cons y l =>
      have na : a ∉ as := fun z => by
        obtain ⟨d', z1, z2, z3⟩ := hP a z
        have e := Den.one hn0 z2 q0 z3
        rw [← e] at z1
        simp at z1
        omega
      refine wpAny_bind (m := callSpecialIfBound? (.ref a) (Str.ofString "__repr__")) (wpAny_callSpecialIfBound?_slot (name := Str.ofString "__repr__") hTy PySem.F.slot_list_repr
        (call_list_reprK h1 h2 h4 na (by rw [repTs_len, t.len, rv.length]; simp) (all_get hR) hg (cl _) (by show X.A.units + 1 + (32 + 1) < cLine; omega) kk (fun h' u tk hk => ?_) hz))
      exact wpAny_bind (wpAny_isInstance (T := "str") (b := true) rfl isSubtype_str_str (wpAny_pure ⟨_, rfl, fin h' _ _ hk⟩))
  | tup ds =>
    have q0 := q
    have hn0 := hn
    unfold noRef at hn
    unfold repOk at ho
    unfold depD at hd
    unfold repT at hz fin
    unfold Den at q
    obtain ⟨a, vs, rfl, ea, t⟩ := q
    cases ru
    obtain ⟨its, rv, ⟨o, h1, h2, k, h4⟩, _⟩ := I.tuple (SqT.of (K := X.K) ea)
    have hp := piled_le_tupleText (repTs ds)
    obtain ⟨as, hR, hP⟩ := reps_ok I ds vs its 32 hn ho (by omega) (by omega) t rv
    have na : a ∉ as := fun z => by
      obtain ⟨d', z1, z2, z3⟩ := hP a z
      have e := Den.one hn0 z2 q0 z3
      rw [← e] at z1
      simp at z1
      omega
    have hTy : s.TypeIs (.ref a) "tuple" := ⟨o, h1, h2⟩
    refine Calls.call_function_entry PySem.F.kind_repr PySem.F.plain_repr PySem.F.entry_repr (PySem.F.args_repr1 _) ?_
    unfold Builtin.«repr»
    refine wpAny_bind (m := oneArg "repr" _) (wpAny_pure ?_)
    refine wpAny_bind (wpAny_cRoomFor (by show X.A.units + 1 < cLine; omega) ?_)
    refine wpAny_bind (wpAny_specialOf (name := Str.ofString "__repr__") hTy PySem.F.slot_tuple_repr.lookup ?_)
    refine wpAny_bind (m := callSpecialIfBound? (.ref a) (Str.ofString "__repr__")) (wpAny_callSpecialIfBound?_slotG (name := Str.ofString "__repr__") hTy PySem.F.slot_tuple_repr
      (call_tuple_reprK h1 h2 h4 na hR hg (cl _) (by show X.A.units + 1 + (32 + 1) < cLine; omega) kk (fun h' u tk hk => ?_) hz))
    exact wpAny_bind (wpAny_isInstance (T := "str") (b := true) rfl isSubtype_str_str (wpAny_pure ⟨_, rfl, fin h' _ _ hk⟩))
  | dic ks ds =>
    have q0 := q
    have hn0 := hn
    unfold noRef at hn
    unfold repOk at ho
    rw [Bool.and_eq_true] at ho
    unfold depD at hd
    unfold repT at hz fin
    unfold Den at q
    obtain ⟨a, vs, rfl, nb, ea, el, t⟩ := q
    cases ru
    obtain ⟨_, hsys, ws, kv, o, es, ep, h1, h2, h3, h4, h5, h6⟩ := dk_rd I.hok ea
    have hp := piled_le_dictText (repKs ks ds)
    obtain ⟨ek, rv⟩ := kv_split el kv
    have hpv := piled_vals ks ds (by rw [el, t.len])
    obtain ⟨as, hR, hP⟩ := reps_ok I ds vs (ws.map (·.2)) 32 hn ho.2 (by omega) (by omega) t rv
    have na : a ∉ as := fun z => by
      obtain ⟨d', z1, z2, z3⟩ := hP a z
      have e := Den.one hn0 z2 q0 z3
      rw [← e] at z1
      simp at z1
      omega
    have hko : ks.all keyOk = true := by
      have h9 := ho.1
      rw [List.all_eq_true] at h9 ⊢
      intro k hk
      have := h9 k hk
      cases k <;> exact this
    have hTy : s.TypeIs (.ref a) "dict" := ⟨o, h1, h2.1⟩
    refine Calls.call_function_entry PySem.F.kind_repr PySem.F.plain_repr PySem.F.entry_repr (PySem.F.args_repr1 _) ?_
    unfold Builtin.«repr»
    refine wpAny_bind (m := oneArg "repr" _) (wpAny_pure ?_)
    refine wpAny_bind (wpAny_cRoomFor (by show X.A.units + 1 < cLine; omega) ?_)
    refine wpAny_bind (wpAny_specialOf (name := Str.ofString "__repr__") hTy PySem.F.slot_dict_repr.lookup ?_)
    refine wpAny_bind (m := callSpecialIfBound? (.ref a) (Str.ofString "__repr__")) (wpAny_callSpecialIfBound?_slotG (name := Str.ofString "__repr__") hTy PySem.F.slot_dict_repr
      (call_dict_reprK h1 h2.1 h3 hsys na (entries_rep h5 ek hR hko (by omega)) hg (cl _) (by show X.A.units + 1 + (32 + 1) < cLine; omega) kk (fun h' u tk hk => ?_) hz))
    exact wpAny_bind (wpAny_isInstance (T := "str") (b := true) rfl isSubtype_str_str (wpAny_pure ⟨_, rfl, fin h' _ _ hk⟩))
def gRep (st : Sto) (xs : List Dt) : Option (Dt × Sto) := match xs with
  | [x] => (deref st 8 x).bind fun d => if noRef d = true ∧ repOk d = true ∧ depD d ≤ 32 ∧ (repT d).length ≤ sizeLine then some (.str (repT d), st) else none
  | _ => none
theorem vo_rep {T : List (Addr × Str)} : VON T rRep gRep := by
  intro Z L st H xs dxs d st' Q w hx h q
  unfold gRep at h
  split at h
  · obtain ⟨v, rfl, p⟩ := dens1 hx
    obtain ⟨c, e1, e2⟩ := bind_some' h
    split at e2
    · rename_i hz
      cases e2
      exact ⟨[], Z, c, v, rfl, hz.1, hz.2.1, hz.2.2.1, hz.2.2.2, deref_ok w e1 (p.mono fun b z => .inl z), q _ H L (.refl w) Den.str⟩
    · cases e2
  · cases h
end
end HB

set_option Elab.async false
set_option linter.all false
set_option maxRecDepth 100000
set_option maxHeartbeats 1000000
/-! HB, part j: sets of texts, sorted. -/
namespace HB
open PySem PySem.Spec PyProof.Rows L2

/-! ### plain lists -/
theorem perm_of_sub {α : Type} [DecidableEq α] : ∀ (l m : List α), l.Nodup → (∀ x ∈ l, x ∈ m) → m.length = l.length → m.Perm l
  | [], m, _, _, hl => by rw [List.length_eq_zero_iff.mp hl]
  | x :: l, m, nd, hs, hl => by
    obtain ⟨nx, nd'⟩ := List.nodup_cons.mp nd
    have hx := hs x List.mem_cons_self
    have p := List.perm_cons_erase hx
    refine p.trans (.cons x (perm_of_sub l (m.erase x) nd' (fun y hy => ?_) ?_))
    · have ne : y ≠ x := fun z => nx (z ▸ hy)
      exact (List.mem_erase_of_ne ne).mpr (hs y (List.mem_cons_of_mem _ hy))
    · rw [List.length_erase_of_mem hx, hl]; simp
def strLe (a b : Str) : Bool := decide (a.cps.toList ≤ b.cps.toList)
def sortS (l : List Str) : List Str := l.mergeSort strLe
def insD (k : Str) (l : List Str) : List Str := if k ∈ l then l else k :: l
def dd : List Str → List Str
  | [] => []
  | x :: xs => insD x (dd xs)
theorem str_ext {a b : Str} (h : a.cps.toList = b.cps.toList) : a = b := by
  cases a; cases b
  simp at h
  rw [h]
theorem strLe_total (a b : Str) : (strLe a b || strLe b a) = true := by
  unfold strLe
  rcases List.le_total a.cps.toList b.cps.toList with h | h <;> simp [h]
theorem strLe_trans (a b c : Str) (h : strLe a b = true) (h' : strLe b c = true) : strLe a c = true := by
  unfold strLe at *
  rw [decide_eq_true_eq] at *
  exact List.le_trans h h'
theorem strLe_anti (a b : Str) (h : strLe a b = true) (h' : strLe b a = true) : a = b := by
  unfold strLe at *
  rw [decide_eq_true_eq] at *
  exact str_ext (List.le_antisymm h h')
theorem sortS_sorted (l : List Str) : (sortS l).Pairwise fun a b => strLe a b = true := List.pairwise_mergeSort strLe_trans strLe_total l
theorem sortS_perm (l : List Str) : (sortS l).Perm l := List.mergeSort_perm l _
theorem sortS_of_perm {l m : List Str} (h : l.Perm m) : sortS l = sortS m :=
  List.Perm.eq_of_pairwise (le := fun a b => strLe a b = true) (fun a b _ _ h1 h2 => strLe_anti a b h1 h2) (sortS_sorted l) (sortS_sorted m) ((sortS_perm l).trans (h.trans (sortS_perm m).symm))
theorem insD_mem {k x : Str} {l : List Str} : x ∈ insD k l ↔ x = k ∨ x ∈ l := by
  unfold insD
  split
  · rename_i h
    exact ⟨.inr, fun z => z.elim (fun e => e ▸ h) id⟩
  · exact List.mem_cons
theorem insD_nodup {k : Str} {l : List Str} (h : l.Nodup) : (insD k l).Nodup := by
  unfold insD
  split
  · exact h
  · rename_i n
    exact List.nodup_cons.mpr ⟨n, h⟩
theorem dd_mem {x : Str} : ∀ {l : List Str}, x ∈ dd l ↔ x ∈ l
  | [] => Iff.rfl
  | y :: l => by
    unfold dd
    rw [insD_mem, dd_mem (l := l), List.mem_cons]
theorem dd_nodup : ∀ l : List Str, (dd l).Nodup
  | [] => List.nodup_nil
  | y :: l => insD_nodup (dd_nodup l)
theorem insD_len (k : Str) (l : List Str) : (insD k l).length ≤ l.length + 1 := by
  unfold insD
  split
  · omega
  · simp
theorem dd_len : ∀ l : List Str, (dd l).length ≤ l.length
  | [] => Nat.le_refl _
  | y :: l => by
    have := dd_len l
    have := insD_len y (dd l)
    simp only [dd, List.length_cons]
    omega

/-! ### the set -/
def SSet (P : Program) (w : World) (h : Heap) (a : Addr) (l : List Str) : Prop := ∃ D : Froz.SD, h.get? a = some (Froz.sObj "set" D) ∧ Froz.TxOk P w D l ∧ l.Nodup ∧ Ris D.2.2.place.toList ∧ (w.params.followText "set-order" = true ∨ D.2.2.led = true)
theorem plain_off_ris {t : SetTable} (h : Ris t.place.toList) : Ris (if t.plain = true then { t with plain := false } else t).place.toList := by
  split <;> exact h
theorem plain_off_led {t : SetTable} : (if t.plain = true then { t with plain := false } else t).led = t.led := by
  split <;> rfl
theorem tail_ris (ep : Nat) (es : Array (Int × Value)) (t : SetTable) (b : Bool) (h : Ris t.place.toList) : Ris (Froz.tailTx ep es t b).2.2.place.toList := by
  unfold Froz.tailTx
  split
  · exact relayAll_ris _ _ _
  · exact h
theorem tail_led (ep : Nat) (es : Array (Int × Value)) (t : SetTable) (b : Bool) : (Froz.tailTx ep es t b).2.2.led = t.led := by
  unfold Froz.tailTx
  split
  · exact relayAll_led _ _ _
  · rfl
theorem addTx_ris (h : Int) (v : Value) (D : Froz.SD) (r : Ris D.2.2.place.toList) : Ris (Froz.addTx h v D).2.2.place.toList := by
  unfold Froz.addTx
  exact tail_ris _ _ _ _ (plain_off_ris (layNew_ris D.2.2 D.1 h v r))
theorem addTx_led (h : Int) (v : Value) (D : Froz.SD) : (Froz.addTx h v D).2.2.led = D.2.2.led := by
  unfold Froz.addTx
  rw [tail_led, plain_off_led, layNew_led]
section
variable {P : Program} {w : World} {A : Around} {E : Value → Shared → Prop} {s : Shared} {a : Addr} {l : List Str}
theorem SSet.at {h h' : Heap} (R : SSet P w h a l) (k : ∀ o, h.get? a = some o → h'.get? a = some o) : SSet P w h' a l := by
  obtain ⟨D, ho, r⟩ := R
  exact ⟨D, k _ ho, r⟩
theorem sset_add {k : Str} {u : Tok} {Q : Bool → Shared → Prop} (R : SSet P w s.heap a l) (room : l.length + 1 < scanBound)
    (hQ : ∀ b h', Heap.SameBut a s.heap h' → SSet P w h' a (insD k l) → Q b { s with heap := h' }) : wpAny (model P w) A (setAddHashed a (.str k u) (hashStr w k)) Q E s := by
  obtain ⟨D, ho, F, nd, r, hl⟩ := R
  by_cases hk : k ∈ l
  · have hi : insD k l = l := by unfold insD; rw [if_pos hk]
    have q := hQ false s.heap (Heap.SameBut.refl a s.heap) ⟨D, ho, by rw [hi]; exact F, by rw [hi]; exact nd, r, hl⟩
    obtain ⟨es, ep, t⟩ := D
    have hd : (Froz.sObj "set" (es, ep, t)).data = .set es ep t := rfl
    have hf : t.fits es.size = true := F.fit
    have hel : ElemsOf (strKind P w) es.toList := F.el
    have hz : es.size = l.length := F.sz
    unfold setAddHashed setAddHashedIn
    refine wpAny_holding (wpAny_bind (wpAny_setState_of ho hd hf ?_))
    dsimp only
    rw [byScan_of (x := Value.str k u) rfl (by omega) hel]
    simp only [↓reduceIte]
    unfold setAddByScan
    refine wpAny_bind ?_
    refine wpAny_bind (wpAny_rule ?_)
    refine wpAny_bind (wpAny_setScan_of (knd := strKind P w) (k := k) (Froz.is_str k u) ho hd hf hel ?_)
    cases hfi : List.findIdx? (fun e => (strKind P w).is k e.2) es.toList with
    | some j =>
      dsimp only
      exact wpAny_pure (wpAny_pure q)
    | none =>
      obtain ⟨e, he, z⟩ := (F.mem k).mp hk
      have c := List.findIdx?_eq_none_iff.mp hfi e he
      rw [z] at c
      cases c
  · have hi : insD k l = k :: l := by unfold insD; rw [if_neg hk]
    refine Froz.add_x ho F hk room ?_
    refine hQ true _ (Heap.SameBut.update _ _ _) ⟨_, Froz.get_upd _ ho rfl, by rw [hi]; exact Froz.add_ok u F, insD_nodup nd, addTx_ris _ _ _ r, hl.imp id fun z => by rw [addTx_led]; exact z⟩
/-- the members' texts -/
def txt (v : Value) : Str := match v with
  | .str k _ => k
  | _ => Str.empty
theorem isStr_of {k : Str} {v : Value} (h : Value.isStrOf k v = true) : ∃ k u, v = Value.str k u := by
  cases v with
  | str y t => exact ⟨y, t, rfl⟩
  | _ => simp [Value.isStrOf] at h
theorem isStr_txt {k : Str} {v : Value} (h : Value.isStrOf k v = true) : txt v = k := by
  cases v with
  | str y t => simp [Value.isStrOf] at h; exact h
  | _ => simp [Value.isStrOf] at h
theorem txOk_mem {D : Froz.SD} (F : Froz.TxOk P w D l) : ∀ v ∈ D.1.toList.map (·.2), ∃ k u, v = Value.str k u := fun v hv => by
  obtain ⟨e, he, rfl⟩ := List.mem_map.mp hv
  obtain ⟨⟨k, hk, _⟩, _⟩ := F.el e he
  exact isStr_of hk
theorem txOk_perm {D : Froz.SD} (F : Froz.TxOk P w D l) (nd : l.Nodup) : ((D.1.toList.map (·.2)).map txt).Perm l := by
  refine perm_of_sub l _ nd (fun x hx => ?_) ?_
  · obtain ⟨e, he, z⟩ := (F.mem x).mp hx
    refine List.mem_map.mpr ⟨e.2, List.mem_map.mpr ⟨e, he, rfl⟩, ?_⟩
    exact isStr_txt z
  · rw [List.length_map, List.length_map, Array.length_toList]; exact F.sz
/-! ### set(xs) -/
def setL (xs : List Str) : List Str := dd xs.reverse
theorem take_rev {xs : List Str} {i : Nat} {x : Str} (h : xs[i]? = some x) : setL (xs.take (i + 1)) = insD x (setL (xs.take i)) := by
  unfold setL
  rw [List.take_add_one, h, List.reverse_append]
  rfl
theorem setL_len (xs : List Str) : (setL xs).length ≤ xs.length := by
  have := dd_len xs.reverse
  rw [List.length_reverse] at this
  exact this
theorem setL_nodup (xs : List Str) : (setL xs).Nodup := dd_nodup _
theorem setL_mem {x : Str} {xs : List Str} : x ∈ setL xs ↔ x ∈ xs := by unfold setL; rw [dd_mem, List.mem_reverse]
theorem sset_new {h : Heap} {a : Addr} (ho : h.get? a = some { cls := .type "set", dict := none, data := .set #[] 0 (.fresh 0 0 (!w.params.followText "set-order")) }) : SSet P w h a [] := by
  refine ⟨(#[], 0, .fresh 0 0 (!w.params.followText "set-order")), ho, Froz.TxOk.nil rfl, List.nodup_nil, List.Pairwise.nil, ?_⟩
  cases w.params.followText "set-order"
  · exact .inr rfl
  · exact .inl rfl
theorem sset_loop {I : Addr} {fp wr : List Addr} {G : Array GenState → Array GenState → Prop} {n : Nat} {Pv : Nat → Value → Prop} {St : Nat → Shared → Prop} {R : Result → Shared → Prop} (W : WalksS P w A.in1 I fp wr G n Pv St) (C : Addr) (hC : C ∉ fp) (xs : List Str) (hz : xs.length = n) (room : n + 1 < scanBound)
    (hv : ∀ i v, Pv i v → ∃ x u, xs[i]? = some x ∧ v = .str x u) : ∀ (k i : Nat) (s : Shared), n - i = k → i ≤ n → St i s → SSet P w s.heap C (setL (xs.take i)) → (∀ s', Moved (C :: wr) G s s' → SSet P w s'.heap C (setL xs) → R (.ok (.ret .none)) s') →
      codeAny (model P w) A (.builtin "set.update.loop" ⟨[.ref C, .ref I], []⟩) R s := by
  have nw : C ∉ wr := fun h => hC (W.sub _ h)
  have sub : ∀ b ∈ wr, b ∈ C :: wr := fun b => List.mem_cons_of_mem _
  intro k
  induction k with
  | zero =>
    intro i s hk hi st R0 fin
    have e : i = n := by omega
    subst e
    rw [List.take_of_length_le (by omega)] at R0
    refine codeAny_builtin PyProof.Rows.F.entry_set_update_loop ?_
    rw [Around.under_plainId PyProof.Rows.F.plain_set_update_loop _]
    refine wpAny_bind (m := pyNext (.ref I)) (W.done s _ _ st fun s' mv => ?_)
    exact wpAny_pure (fin s' (mv.mono sub) (R0.at fun o eo => mv.heap C _ nw eo))
  | succ k ih =>
    intro i s hk hi st R0 fin
    have lt : i < n := by omega
    refine codeAny_builtin PyProof.Rows.F.entry_set_update_loop ?_
    rw [Around.under_plainId PyProof.Rows.F.plain_set_update_loop _]
    refine wpAny_bind (m := pyNext (.ref I)) (W.item i s _ _ lt st fun v s1 pv st1 mv => ?_)
    obtain ⟨x, u, hx, rfl⟩ := hv i v pv
    have R1 : SSet P w s1.heap C (setL (xs.take i)) := R0.at fun o eo => mv.heap C _ nw eo
    refine wpAny_bind (m := holding [Value.str x u] (setAdd C (.str x u))) (wpAny_holding ?_)
    unfold setAdd
    refine wpAny_holding (wpAny_bind ((strKind P w).pyHash (k := x) (Froz.is_str x u) ?_))
    have hroom : (setL (xs.take i)).length + 1 < scanBound := by
      have := setL_len (xs.take i)
      rw [List.length_take] at this
      omega
    refine sset_add (s := { s1 with toks := s1.toks + 1 }) R1 hroom fun b h' sb R2 => ?_
    rw [← take_rev hx] at R2
    refine wpAny_pure ⟨plainId_quiet PyProof.Rows.F.plain_set_update_loop _, ih (i + 1) _ (by omega) lt (W.frame _ s1 _ _ st1 (Nat.le_succ _) fun c hc o eo => ?_) R2 fun s3 mv3 R3 => ?_⟩
    · rw [sb.2 c fun z : c = C => hC (z ▸ hc)]; exact eo
    · refine fin s3 (Moved.trans W.gtrans ((mv.mono sub).then_heap (Nat.le_succ _) fun c o nc eo => ?_) mv3) R3
      rw [sb.2 c fun z : c = C => nc (z ▸ List.mem_cons_self)]; exact eo
theorem strs_get : ∀ {us : List Value} {xs : List Str}, StrsAre us xs → ∀ (i : Nat) (v : Value), us[i]? = some v → ∃ x u, xs[i]? = some x ∧ v = .str x u
  | _, _, .nil, i, v, h => by simp at h
  | _, _, .cons x t r, 0, v, h => by simp at h; exact ⟨x, t, rfl, h.symm⟩
  | _, _, .cons x t r, i + 1, v, h => by
    obtain ⟨y, u, h1, h2⟩ := strs_get r i v (by simpa using h)
    exact ⟨y, u, by simpa using h1, h2⟩
/-- the new set's object -/
abbrev nS (w : World) : Obj := { cls := .type "set", dict := none, data := .set #[] 0 (.fresh 0 0 (!w.params.followText "set-order")) }
set_option maxHeartbeats 3200000 in
theorem call_sset {p : Addr} {its : Array Value} {xs : List Str} {Q : Value → Shared → Prop} (hh : A.handled = none) (hp : s.heap.IsList p its) (hi : StrsAre its.toList xs) (hb : xs.length + 1 < scanBound)
    (h : ∀ (h' : Heap) (tk : Nat), SSet P w h' s.heap.objs.size (setL xs) → (∀ b o, s.heap.get? b = some o → h'.get? b = some o) → Q (.ref s.heap.objs.size) { s with heap := h', toks := tk }) : wpAny (model P w) A (call (.type "set") [.ref p]) Q E s := by
  have hz : xs.length = its.size := by rw [← StrsAre.len_eq hi, Array.length_toList]
  obtain ⟨c, tl, hmro⟩ := PySem.F.called_set.mro
  have g1 := PySem.F.called_set.made
  have g2 := PySem.F.called_set.sub
  refine wpAny_call (codeAny_of_tree ?_)
  show wpAny _ _ (callAny (.type "set") _) _ _ _
  refine wpAny_pure ⟨Code.quiet_builtin _ (by decide +kernel), codeAny_builtin PySem.F.entry_type_call ?_⟩
  rw [Around.under_plain (weight_type_call_type "set" [.ref p] []) rfl]
  have g3 := PySem.F.called_set.notType
  have g4 := PySem.F.called_set.canCreate
  have g5 := PySem.F.typeCall_set_1 (.ref p)
  repeat (any_goals (first | assumption | wp_step))
  refine codeAny_mono (L2.code_set_led1 (.ref p) (E := E) (Q₁ := fun obj s₁ => obj = .ref s.heap.objs.size ∧ s₁ = { s with heap := s.heap.push (nS w) }) ⟨rfl, rfl⟩) fun r s₁ hr => ?_
  match r, hr with
  | .error e, hr => exact hr
  | .ok .next, hr => exact hr.elim
  | .ok .brk, hr => exact hr.elim
  | .ok .cont, hr => exact hr.elim
  | .ok (.ret obj), hr =>
    obtain ⟨rfl, rfl⟩ := hr
    have hS : (s.heap.push (nS w)).get? s.heap.objs.size = some (nS w) := Heap.get?_push_size _ rfl
    have hT : Shared.TypeIs { s with heap := s.heap.push (nS w) } (.ref s.heap.objs.size) "set" := ⟨_, hS, rfl⟩
    have g6 := PySem.F.called_set.init.lookup
    have g7 := PySem.F.called_set.init.bind (.ref s.heap.objs.size)
    repeat (any_goals (first | assumption | wp_step))
    refine codeAny_mono (codeAny_call_builtin (R := wants (fun r s₂ => r = .none ∧ ∃ h' tk, s₂ = { s with heap := h', toks := tk } ∧ SSet P w h' s.heap.objs.size (setL xs) ∧ (∀ b o, s.heap.get? b = some o → h'.get? b = some o)) E) PySem.F.called_set.init.plain PySem.F.entry_set_init (check_set_init_1 hT ?_)) fun r₂ s₂ hr₂ => ?_
    · obtain ⟨o, ho, hc, nl, hd⟩ := hp
      obtain ⟨ocls, odict, odata, oslots⟩ := o
      simp only at hc hd
      subst hc; subst hd
      have ho1 : (s.heap.push (nS w)).get? p = some { cls := .type "list", dict := odict, data := .seq its nl, slots := oslots } := Heap.get?_push_of_some _ ho
      have g8 := PySem.F.sub_list_set
      have g9 := PySem.F.sub_list_frozenset
      have g10 : (Value.type "list" == Value.type "dict") = false := by decide
      have hl1 : (s.heap.push (nS w)).IsList p its := ⟨_, ho1, rfl, nl, rfl⟩
      unfold Builtin.«set.__init__» noKeywords Builtin.Frozenset.updateFrom
      generalize hPI : pyIter = PI
      wp_walk
      subst hPI
      refine wpAny_pyIter_list hl1 ?_
      refine wpAny_bind (wpAny_runValue ?_)
      have lp : p < s.heap.objs.size := Heap.lt_size ho
      have hh3 : A.in1.in1.in1.handled = none := by simp [hh]
      have z1 : (s.heap.push (nS w)).objs.size = s.heap.objs.size + 1 := Heap.size_push ..
      have n1 : p ≠ (s.heap.push (nS w)).objs.size := by rw [z1]; exact Nat.ne_of_lt (Nat.lt_succ_of_lt lp)
      have n2 : s.heap.objs.size ∉ [(s.heap.push (nS w)).objs.size, p] := by
        rw [z1]
        simp only [List.mem_cons, List.not_mem_nil, or_false, not_or]
        exact ⟨Nat.ne_of_lt (Nat.lt_succ_self _), Nat.ne_of_gt lp⟩
      refine sset_loop ((Walks.list hh3 _ p n1 its).toS) s.heap.objs.size n2 xs hz (by omega) (fun i v e => strs_get hi i v (by rw [Array.getElem?_toList]; exact e)) (its.size - 0) 0 _ (by omega) (Nat.zero_le _)
        ⟨⟨_, Heap.get?_push_size _ rfl, rfl, rfl⟩, (hl1.push _)⟩ (sset_new (Heap.get?_push_of_some _ hS)) fun s' mv R' => ?_
      obtain ⟨h', g2, d', tk', os'⟩ := s'
      have eg : g2 = s.gens := mv.gens
      have ed : d' = s.drawn := mv.drawn
      have eo : os' = s.os := mv.os
      subst eg; subst ed; subst eo
      refine wpAny_pure ?_
      show wpAny _ _ (ret Value.none) _ _ _
      refine wpAny_pure ⟨rfl, h', tk', rfl, R', fun b o e => ?_⟩
      have lb : b < s.heap.objs.size := Heap.lt_size e
      refine mv.heap b o ?_ (Heap.get?_push_of_some _ (Heap.get?_push_of_some _ e))
      simp only [List.mem_cons, List.not_mem_nil, or_false, not_or]
      rw [z1]
      exact ⟨Nat.ne_of_lt lb, Nat.ne_of_lt (Nat.lt_succ_of_lt lb)⟩
    · match r₂, hr₂ with
      | .error e, hr₂ => exact hr₂
      | .ok .next, hr₂ => exact hr₂.elim
      | .ok .brk, hr₂ => exact hr₂.elim
      | .ok .cont, hr₂ => exact hr₂.elim
      | .ok (.ret r), hr₂ =>
        obtain ⟨rfl, h', tk, rfl, R', k'⟩ := hr₂
        repeat (any_goals (first | assumption | wp_step))
        exact h _ _ R' k'
end
end HB

set_option Elab.async false
set_option linter.all false
set_option maxRecDepth 100000
set_option maxHeartbeats 1000000
/-! HB, part k: sorted(set(xs)), sorted(xs), sorted(d, key=lambda state: (len(state), state)). -/
namespace HB
open PySem PySem.Spec PyProof.Rows L2

/-! ### the lambda, called -/
abbrev lamP (p : Pos) : Arguments := { posonlyargs := [], args := [{ arg := "state", annotation := none, pos := p }], vararg := none, kwonlyargs := [], kw_defaults := [], kwarg := none, defaults := [] }
abbrev lamB (p1 p2 p3 p4 p5 : Pos) : Expr := .Tuple [.Call (.Name "len" p1) [.Name "state" p2] [] p3, .Name "state" p4] 0 p5
abbrev lamSc : Scope := { kind := .function, names := [("state", .local), ("len", .globalImplicit)], isGenerator := false, isCoroutine := false, more := [] }
section
variable {P : Program} {w : World} {A : Around} {s : Shared}
theorem lam_key {f c' : Addr} {q : Str} {pm ctv : Value} {x : Str} {u : Tok} {mg mb : Str → Option Value} {p0 p1 p2 p3 p4 p5 : Pos} (of : s.heap.get? f = some (PySem.W.kla_obj "<lambda>" q (lamP p0) (lamB p1 p2 p3 p4 p5) lamSc [] pm c' ctv)) (hcd : s.heap.CodeRec (.ref c') q)
    (hroom : A.depth < recursionLimit) (lim : s.heap.NoLimit) (hg : s.heap.Ns mainGlobals mg) (hm : mg "len" = none) (hb : s.heap.Ns builtinsNs mb) (hv : mb "len" = some (.builtin "len")) (hz : x.length ≤ sizeLine) :
    wpAny (model P w) A (call (.ref f) [.str x u]) (PySem.W.KeyPure (.tuple [.int x.length, .str x]) s) (fun _ _ => False) s := by
  refine wpAny_call (PySem.W.kla_callFunE hroom of rfl rfl rfl rfl hcd ?_)
  have hbind : bindArgs (PySem.W.kla_fn "<lambda>" q (lamP p0) (lamB p1 p2 p3 p4 p5) lamSc [] pm (.ref c') ctv) ⟨[.str x u], []⟩ = pure [(("state" : Str), Value.str x u)] := rfl
  rw [hbind]
  refine wpAny_pure (wpAny_newFunctionEnv (show ∀ x ∈ lamSc.names, x.2 ≠ .cell by decide) (fun y hy => by rw [List.mem_singleton.mp hy]; rfl) (fun h₁ hns hsb => ⟨lim.fresh _ hsb, ?_⟩) rfl)
  refine PySem.W.kla_codeExpr ?_
  have kp : ∀ b o, s.heap.get? b = some o → h₁.get? b = some o := fun b o e => hsb.extBut b o (Nat.ne_of_lt (Heap.lt_size e)) (Heap.get?_push_of_some _ e)
  have line := line63
  refine wpAny_Tuple_spliced (args_cons (Call_ (Calls.Name_function_global rfl rfl (Calls.loadGlobal_builtin (hg.keeps kp) hm (hb.keeps kp) hv ?_))))
  refine callWith_builtin1 (args_cons (wpAny_Name (wpAny_loadName_local rfl rfl hns rfl ?_) (by decide)))
  refine args_nil (len_str (by omega) ?_)
  refine args_cons (wpAny_Name (wpAny_loadName_local rfl rfl hns rfl ?_) (by decide))
  refine args_nil ⟨(show 2 ≤ sizeLine by decide), ?_⟩
  refine ⟨_, _, rfl, fun b o e => Heap.get?_push_of_some _ (kp b o e), ?_⟩
  exact .tuple (Heap.get?_push_size _ rfl) rfl rfl (.cons (.int _ _) (.cons (.str _ _) .nil))
end
/-! ### the lambda, made -/
section
variable {X : Cx} {pins : List (Addr × Obj)} {s1 : L2.St} {H : Hp} {s : Shared}
open LamX in
/-- the lambda is made; all but the tables stays, nothing is forgotten -/
theorem lam_new {T : List (Addr × Str)} {c R : Addr} {params : Arguments} {body : Expr} {pos : Pos} {E : Value → Shared → Prop} {Q : Value → Shared → Prop} (I : Inv X pins s1 H s) (TB : TabB X.base X.mg c R) (hc : X.env.code = .ref c)
    (hm : (R, X.env.qual ++ "<lambda>") ∈ T) (hu : ∀ p ∈ T, p.1 = R → p.2 = X.env.qual ++ "<lambda>") (hT : Tabs T H) (hdef : defaultsOf params X.env = ([], []))
    (h : ∀ (f c' : Addr) (pm ctv : Value) (H1 : Hp) (s' : Shared), Inv X pins s1 H1 s' → ExtN H H1 → (∀ b, H b ≠ none → H1 b ≠ none) → Tabs T H1 →
      s'.heap.get? f = some (PySem.W.kla_obj "<lambda>" (X.env.qual ++ "<lambda>") params body lamSc [] pm c' ctv) → s'.heap.CodeRec (.ref c') (X.env.qual ++ "<lambda>") → Q (.ref f) s') :
    wpAny (model X.prog X.w) X.A (eval (.Lambda params body lamSc pos) X.env) Q E s := by
  obtain ⟨ps, hP, ok, ha⟩ := hT _ hm
  refine PySem.W.kla_eval hdef ?_
  have hR : s.heap.get? R = some { cls := .none, data := .fields ps } := I.hok R _ hP
  have bR : s.heap.BuiltinsAt X.mg R := TB.bm.keeps I.bk
  have hclo : closureFor lamSc X.env = pure ([] : List (Str × Addr)) := rfl
  cases hca : codeAmong pos ps.toList with
  | some cv =>
    obtain ⟨c', rfl, hco⟩ := ha pos cv hca
    refine PySem.W.kla_makeFunctionHit (mg := X.mg) (c := c) (P := R) (ps := ps) hclo I.ok.glob (I.mod.glob.keeps I.bk) hc (TB.code.keeps I.bk) hR ok hca bR fun ctv h' tk hx hsz => ?_
    obtain ⟨⟨oc, vs, t, a1, a2, a3⟩, _, _⟩ := I.hok c' _ hco
    exact h _ c' _ ctv H _ (I.kept fun b o e => Heap.get?_push_of_some _ (hx b o e)) (ExtN.refl H) (fun _ z => z) hT (Heap.get?_push_size _ rfl) ⟨c', oc, vs, t, rfl, Heap.get?_push_of_some _ (hx _ _ a1), a2, a3⟩
  | none =>
    refine PySem.W.kla_makeFunction (mg := X.mg) (c := c) (P := R) (ps := ps) hclo I.ok.glob (I.mod.glob.keeps I.bk) hc (TB.code.keeps I.bk) hR ok hca TB.gP bR fun c' ctv h' tk hx hge hlt hrec htb => ?_
    obtain ⟨c2, oc, vs, t, e2, a1, a2, a3⟩ := hrec
    cases e2
    have nC : H c' = none := I.hok.fresh hge
    have I1 := inv_table (t' := tk) (more := #[rawInt pos.line, rawInt pos.col, .ref c']) (h' := h'.push (PySem.W.kla_obj "<lambda>" (X.env.qual ++ "<lambda>") params body lamSc [] ((X.mg "__name__").getD .none) c' ctv)) I hP
      (fun b o hb e => Heap.get?_push_of_some _ (hx b o hb e)) (Heap.get?_push_of_some _ htb) hge ⟨oc, vs, t, Heap.get?_push_of_some _ a1, a2, a3⟩
    have nR : R ≠ c' := ne_of_none hP nC
    have ex : ExtN H (upd (upd H R (.tbl (ps ++ #[rawInt pos.line, rawInt pos.col, .ref c']))) c' (CodeO c' (X.env.qual ++ "<lambda>"))) := fun b o e n => by
      have nb : b ≠ R := fun z => by rw [z, hP] at e; exact n ps (Option.some.inj e).symm
      rw [upd_ne (ne_of_none e nC), upd_ne nb]; exact e
    have app : (ps ++ #[rawInt pos.line, rawInt pos.col, .ref c']).toList = ps.toList ++ [rawInt pos.line, rawInt pos.col, .ref c'] := by simp
    refine h _ c' _ ctv _ _ I1 ex (fun b nb => ?_) (fun p hp => ?_) (Heap.get?_push_size _ rfl) ⟨c', oc, vs, t, rfl, Heap.get?_push_of_some _ a1, a2, a3⟩
    · by_cases z : b = c'
      · rw [z, upd_same]; simp
      · rw [upd_ne z]
        by_cases y : b = R
        · rw [y, upd_same]; simp
        · rw [upd_ne y]; exact nb
    · by_cases hb : p.1 = R
      · rw [hu p hp hb, hb]
        refine ⟨_, by rw [upd_ne nR, upd_same], by rw [app]; exact PySem.TriplesOk_snoc _ _ _ _ ok, fun p' cv hcv => ?_⟩
        rw [app] at hcv
        rcases among_app _ ok hcv with z | z
        · obtain ⟨c0, z1, z2⟩ := ha p' cv z
          exact ⟨c0, z1, ex _ _ z2 codeO_ne⟩
        · exact ⟨c', z, upd_same⟩
      · obtain ⟨qs, b1, b2, b3⟩ := hT p hp
        refine ⟨qs, by rw [upd_ne (ne_of_none b1 nC), upd_ne hb]; exact b1, b2, fun p' cv hcv => ?_⟩
        obtain ⟨c0, z1, z2⟩ := b3 p' cv hcv
        exact ⟨c0, z1, ex _ _ z2 codeO_ne⟩
end
end HB

set_option Elab.async false
set_option linter.all false
set_option maxRecDepth 100000
set_option maxHeartbeats 1000000
/-! HB, part l: sorted as rules. -/
namespace HB
open PySem PySem.Spec PyProof.Rows L2

def isS1 (v : Value) (x : Str) : Prop := ∃ u, v = Value.str x u
theorem each_strs : ∀ {vs : List Value} {xs : List Str}, StrsAre vs xs → PySem.W.EachIs isS1 vs xs
  | _, _, .nil => .nil
  | _, _, .cons x t r => .cons ⟨t, rfl⟩ (each_strs r)
theorem strs_each : ∀ {vs : List Value} {xs : List Str}, PySem.W.EachIs isS1 vs xs → StrsAre vs xs
  | _, _, .nil => .nil
  | _, _, .cons ⟨t, e⟩ r => by subst e; exact .cons _ t (strs_each r)
theorem vals_strs : ∀ {vs : List Value} {xs : List Str}, StrsAre vs xs → Vals (xs.map V.str) vs
  | _, _, .nil => .nil
  | _, _, .cons x t r => .cons ⟨t, rfl⟩ (vals_strs r)
theorem strs_reads {h : Heap} {a : Addr} : ∀ {vs : List Value} {xs : List Str}, StrsAre vs xs → PySem.W.EachIs (fun v b => ∃ as, Reads h v (.str b) as ∧ a ∉ as) vs xs
  | _, _, .nil => .nil
  | _, _, .cons x t r => .cons ⟨[], .str _ _, by simp⟩ (strs_reads r)
theorem all_strs : ∀ {vs : List Value}, (∀ v ∈ vs, ∃ k u, v = Value.str k u) → StrsAre vs (vs.map txt)
  | [], _ => .nil
  | v :: vs, h => by
    obtain ⟨k, u, rfl⟩ := h v List.mem_cons_self
    exact .cons k u (all_strs fun x hx => h x (List.mem_cons_of_mem _ hx))
section
variable {P : Program} {w : World} {A : Around} {E : Value → Shared → Prop} {s : Shared}
theorem sort_strs {a : Addr} {vs : List Value} {xs : List Str} {n : Nat} {Q : Value → Shared → Prop} (ho : s.heap.get? a = some (seqObj "list" vs.toArray n)) (hS : StrsAre vs xs) (hL : xs.length ≤ sizeLine) (hu : A.units + 2 < cLine)
    (h : ∀ out c h', StrsAre out (sortS xs) → h'.get? a = some (seqObj "list" (List.toArray out) c) → (∀ b o, b ≠ a → s.heap.get? b = some o → h'.get? b = some o) → Q .none { s with heap := h' }) : wpAny (model P w) A (call (.builtin "list.sort") [.ref a]) Q E s := by
  refine PySem.W.list_sort_data (enc := PyData.str) (R := isS1) ho (each_strs hS) (strs_reads hS) (PySem.W.AllAlike.of fun _ _ => by simp [PySem.W.alike]) (PySem.W.Sortable.others fun b => ⟨by simp, fun xs => by simp⟩) hL (fun b _ => ?_) fun out hl he => ?_
  · have : (PyData.str b).depth = 0 := by simp [PyData.depth]
    omega
  · have e : PySem.W.dataLe false PyData.str = strLe := PySem.W.dataLe_str (fun x : Str => x)
    rw [e] at he
    obtain ⟨c, hc⟩ := sortedHeap_at (vs := vs) (out := out.toArray) ho
    exact h out c _ (strs_each he) hc fun b o hb e => (sortedHeap_old hb (Heap.lt_size e)).trans e
end
section
variable {X : Cx}
/-- a set of texts, tracked -/
def SSO (P : Program) (w : World) (a : Addr) (l : List Str) : HO := .ext fun h => SSet P w h a l
theorem sso_new {w : World} {P : Program} {H : Hp} {h : Heap} {a : Addr} {l : List Str} (R : SSet P w h a l) : ObjOk P w H h a (SSO P w a l) := by
  have ⟨D, ho, _⟩ := R
  exact ⟨R, ⟨_, ho⟩, fun h1 h2 p k => SSet.at p k⟩
def rSetS (X : Cx) : List V → Hp → VK → Prop := fun xs H Q => ∃ (a : Addr) (ys : List Str), xs = [.ref a] ∧ SqL X.K H a (ys.map V.str) ∧ ys.length + 1 < scanBound ∧ ∀ p, H p = none → Q (.ref p) (upd H p (SSO X.prog X.w p (setL ys)))
theorem cr_setS (hc : X.calm = true) : CallR X (.type "set") (rSetS X) := by
  intro pins s s1 H xs us Q I r h
  obtain ⟨a, ys, rfl, hq, hb, q⟩ := h
  rw [Vals.ref1 r]
  obtain ⟨its, rv, pl, hz⟩ := I.list hq
  refine call_sset (I.ok.hd hc) pl.isList (by simpa using strsAre_of rv) hb fun h' tk R k => ?_
  exact ⟨.ref s.heap.objs.size, upd H s.heap.objs.size (SSO X.prog X.w s.heap.objs.size (setL ys)), I.laid (t' := tk) k (Nat.le_refl _) (sso_new R), rfl, q _ (I.hok.fresh (Nat.le_refl _))⟩
def rSortSS (X : Cx) : List V → Hp → VK → Prop := fun xs H Q => ∃ (a : Addr) (l : List Str), xs = [.ref a] ∧ H a = some (SSO X.prog X.w a l) ∧ l.length < scanBound ∧ ∀ p, H p = none → Q (.ref p) (upd H p (.lst ((sortS l).map V.str)))
theorem sortS_len (l : List Str) : (sortS l).length = l.length := (sortS_perm l).length_eq
theorem cr_sortSS (hc : X.calm = true) (hu : X.A.units + 64 < cLine) : CallR X (.builtin "sorted") (rSortSS X) := by
  intro pins s s1 H xs us Q I r h
  obtain ⟨a, l, rfl, ha, hb, q⟩ := h
  rw [Vals.ref1 r]
  obtain ⟨D, ho, F, nd, ris, hl⟩ := (I.hok a _ ha).1
  refine Calls.call_function_entry kind_sorted plain_sorted entry_sorted (args_sorted1 _) ?_
  unfold Builtin.«sorted»
  refine wpAny_bind (m := checkCount "sorted" 1 1 _) (wpAny_pure ?_)
  have hz : D.1.size = l.length := F.sz
  refine wpAny_bind (collect_set (A := X.A.in1) (es := D.1) (ep := D.2.1) (t := D.2.2) (I.ok.hd hc) ⟨_, ho, rfl, rfl⟩ F.fit (by omega) ris hl fun s2 vs k2 z2 g2 o2 pm => ?_)
  have hS : StrsAre vs (vs.map txt) := all_strs fun v hv => txOk_mem F v (pm.mem_iff.mp hv)
  have pk : (vs.map txt).Perm l := (pm.map txt).trans (txOk_perm F nd)
  have hlen : (vs.map txt).length = l.length := pk.length_eq
  have hsz : l.length ≤ sizeLine := by unfold scanBound at hb; rw [sizeLine_eq]; omega
  refine wpAny_bind (wpAny_newList ?_ (by rw [List.length_map] at hlen; omega))
  have hoL : (s2.heap.push (seqObj "list" vs.toArray 0)).get? s2.heap.objs.size = some (seqObj "list" vs.toArray 0) := Heap.get?_push_size _ rfl
  refine wpAny_bind (wpAny_holding (sort_strs (s := { s2 with heap := s2.heap.push (seqObj "list" vs.toArray 0) }) hoL hS (by omega) (by show X.A.units + 1 + 2 < cLine; omega) fun out c h' ho2 hc2 kp => ?_))
  rw [sortS_of_perm pk] at ho2
  refine wpAny_pure ⟨_, rfl, ?_⟩
  have hn : H s2.heap.objs.size = none := I.hok.fresh z2
  have k3 : ∀ b o, s.heap.get? b = some o → h'.get? b = some o := fun b o e => by
    have := k2 b o e
    exact kp b o (Nat.ne_of_lt (Heap.lt_size this)) (Heap.get?_push_of_some _ this)
  have J : Inv X pins s1 (upd H s2.heap.objs.size (.lst ((sortS l).map V.str))) { s with heap := h', gens := s2.gens, drawn := s2.drawn, toks := s2.toks } :=
    I.call (ch := []) (Un.laid k3 z2 hn) (I.hok.laid k3 z2 ⟨by rw [List.length_map, sortS_len]; exact hsz, out, c, vals_strs ho2, hc2⟩) (by rw [g2]; exact I.bare) (fun _ z => nomatch z)
  have e : { s2 with heap := h' } = { s with heap := h', gens := s2.gens, drawn := s2.drawn, toks := s2.toks } := by
    cases s2; cases s; cases o2; rfl
  show EP X pins s1 Q _ { s2 with heap := h' }
  rw [e]
  exact ⟨.ref _, _, J, rfl, q _ hn⟩
/-- sorted(xs), a list of texts -/
def rSortL (K : PySem.W.Frag) : List V → Hp → VK → Prop := fun xs H Q => ∃ (a : Addr) (ys : List Str), xs = [.ref a] ∧ SqL K H a (ys.map V.str) ∧ ∀ p, H p = none → Q (.ref p) (upd H p (.lst ((sortS ys).map V.str)))
theorem cr_sortL (hu : X.A.units + 64 < cLine) : CallR X (.builtin "sorted") (rSortL X.K) := by
  intro pins s s1 H xs us Q I r h
  obtain ⟨a, ys, rfl, hq, q⟩ := h
  rw [Vals.ref1 r]
  obtain ⟨its, rv, pl, hz⟩ := I.list hq
  have hS := strsAre_of rv
  have hl : its.length = ys.length := StrsAre.len_eq hS
  have hL : ys.length ≤ sizeLine := by
    rw [List.length_map] at hz
    exact hz
  refine PySem.W.sorted_data (enc := PyData.str) (R := isS1) pl.isList (each_strs hS) ((strs_reads (a := 0) hS).mono fun _ _ ⟨as, x, _⟩ => ⟨as, x⟩) (PySem.W.AllAlike.of fun _ _ => by simp [PySem.W.alike]) (PySem.W.Sortable.others fun b => ⟨by simp, fun xs => by simp⟩) hL (fun b _ => ?_) fun out ho he => ?_
  · have : (PyData.str b).depth = 0 := by simp [PyData.depth]
    omega
  · have e : PySem.W.dataLe false PyData.str = strLe := PySem.W.dataLe_str (fun x : Str => x)
    rw [e] at he
    obtain ⟨c, hc⟩ := sortedAll_at s.heap its out.toArray
    have hn : H (s.heap.objs.size + 1) = none := I.hok.fresh (Nat.le_succ _)
    exact ⟨.ref _, upd H (s.heap.objs.size + 1) (.lst ((sortS ys).map V.str)), I.laid (t' := s.toks) (fun _ _ => sortedAll_old) (Nat.le_succ _) ⟨by rw [List.length_map, sortS_len]; exact hL, out, c, vals_strs (strs_each he), hc⟩, rfl, q _ hn⟩
end
end HB

set_option Elab.async false
set_option linter.all false
set_option maxRecDepth 100000
set_option maxHeartbeats 1000000
/-! HB, part m: sorted(d, key=lambda state: (len(state), state)); sorted as plain functions. -/
namespace HB
open PySem PySem.Spec PyProof.Rows L2

def keyLe (a b : Str) : Bool := decide (a.length < b.length) || (decide (a.length = b.length) && strLe a b)
def sortK (l : List Str) : List Str := l.mergeSort keyLe
def keyT2 (x : Str) : PyData := .tuple [.int x.length, .str x]
theorem dataLe_key : PySem.W.dataLe false keyT2 = keyLe := by
  funext a b
  show (!PySem.W.dataLt (keyT2 b) (keyT2 a)) = _
  unfold keyT2
  rw [PySem.W.dataLt_pair (by simp [PySem.W.alike]) (by simp [PySem.W.alike]), PySem.W.dataLt_int, PySem.W.dataLt_str]
  simp only [PyData.eqv, beq_iff_eq]
  unfold keyLe strLe
  by_cases h1 : (b.length : Int) = (a.length : Int)
  · have h1' : a.length = b.length := by omega
    by_cases h2 : b = a
    · subst h2
      simp
    · rw [if_pos h1, if_neg h2, PySem.W.not_lt_str]
      simp [h1']
  · rw [if_neg h1]
    have h1' : ¬ a.length = b.length := by omega
    by_cases h2 : a.length < b.length
    · have : ¬ (b.length : Int) < (a.length : Int) := by omega
      simp [h2, this]
    · have : (b.length : Int) < (a.length : Int) := by omega
      simp [h1', h2, this]
theorem sortK_len (l : List Str) : (sortK l).length = l.length := (List.mergeSort_perm l _).length_eq
theorem strs_at2 : ∀ {vs : List Value} {xs : List Str}, vs.length = xs.length → (∀ (j : Nat) v, vs[j]? = some v → ∃ x u, xs[j]? = some x ∧ v = .str x u) → StrsAre vs xs
  | [], [], _, _ => .nil
  | v :: vs, x :: xs, hl, h => by
    obtain ⟨y, u, e1, e2⟩ := h 0 v rfl
    simp at e1
    subst e1; subst e2
    exact .cons _ u (strs_at2 (by simpa using hl) fun j v e => by simpa using h (j + 1) v (by simpa using e))
  | [], _ :: _, hl, _ => by simp at hl
  | _ :: _, [], hl, _ => by simp at hl
def tSortK (T : List (Addr × Str)) (ta : TE) : TE := fun s1 H Q => ta s1 H fun x H1 => LamX.Tabs T H1 ∧ ∀ H2, LamX.ExtN H1 H2 → (∀ b, H1 b ≠ none → H2 b ≠ none) → LamX.Tabs T H2 →
  ∃ (a : Addr) (kvs : List (Key × V)) (ks : List Str), x = .ref a ∧ Rd H2 a (.dK kvs) ∧ kvs.map (·.1) = ks.map Sum.inr ∧ (∀ k ∈ ks, k.length ≤ sizeLine) ∧ ∀ p, H2 p = none → Q (.ref p) (upd H2 p (.lst ((sortK ks).map V.str)))
section
variable {X : Cx} {a : Expr} {ta : TE}
theorem pe_sortK {T : List (Addr × Str)} {k : Nat} {c R : Addr} {p0 p1 p2 p3 p4 p5 p6 p7 p8 p9 : Pos} (TB : LamX.TabB X.base X.mg c R) (hcode : X.env.code = .ref c) (hmT : (R, X.env.qual ++ "<lambda>") ∈ T) (huT : ∀ p ∈ T, p.1 = R → p.2 = X.env.qual ++ "<lambda>")
    (hr : Room (k + 2) X.A) (hg : Gl X "sorted") (hm : X.mg "sorted" = none) (hml : X.mg "len" = none) (ha : PE X a ta) (hs : starEach [a] X.env = (false, eval a X.env) :: starEach [] X.env := by rfl) :
    PE X (.Call (.Name "sorted" p6) [a] [{ arg := some "key", value := .Lambda (lamP p0) (lamB p1 p2 p3 p4 p5) lamSc p7, pos := p8 }] p9) (tSortK T ta) := by
  refine ⟨fun pins s s1 H Q I h => ?_⟩
  refine wpAny_Call_Name_kw (ld_blt I hg hm boot_sorted ?_)
  refine callWith_kw (args_cons (thn (ha.run pins s s1 H _ I h) fun v s2 ⟨x, H1, I1, r1, hT, q⟩ => args_nil ?_) hs) (by rw [hs]; rfl) (by rw [hs]; rfl) rfl rfl
  show wpAny _ _ (evalAll ((do let v ← eval (.Lambda (lamP p0) (lamB p1 p2 p3 p4 p5) lamSc p7) X.env; standAt p9; pure v) :: [])) _ _ s2
  refine wpAny_evalAll_cons (wpAny_bind (lam_new I1 TB hcode hmT huT hT rfl fun f c' pm ctv H2 s3 I3 ex trk hT2 hf hcd => wpAny_bind (wpAny_standAt (wpAny_pure (wpAny_evalAll_nil ?_)))))
  obtain ⟨d, kvs, ks, rfl, hd, hks, hkz, q⟩ := q H2 ex trk hT2
  cases r1
  show wpAny _ _ (call (.builtin "sorted") [.ref d] [(Str.ofString "key", .ref f)]) _ _ s3
  obtain ⟨z, lo, vs, rel, dd⟩ := dk_rd I3.hok hd
  obtain ⟨ep, hat⟩ := dd.dictAt
  have hkeys : vs.map (·.1) = ks.map Sum.inr := rel.keys.symm.trans hks
  have hl : vs.length = ks.length := by simpa using congrArg List.length hkeys
  have hL : vs.length ≤ sizeLine := by rw [← rel.length]; exact z
  refine call_function_entry_kw kind_sorted plain_sorted entry_sorted (PyProof.Rows.ksk_s1 _ _) ?_
  unfold Builtin.«sorted»
  refine wpAny_bind (m := checkCount "sorted" 1 1 _) (wpAny_pure ?_)
  refine wpAny_bind (PySem.W.kdu_collect (A := X.A.in1) (PySem.W.kdl_dict (knd := mixKind X.prog X.w) (kvs := vs) (ep := ep) lo) hr.hd hat hL fun h' tk acc hk hacc => ?_)
  have hal : acc.toList.length = ks.length := by rw [Array.length_toList, hacc.1, hl]
  have hS : StrsAre acc.toList ks := strs_at2 hal fun j v e => by
    obtain ⟨k, x, e1, e2⟩ := hacc.2 j v (by rw [← Array.getElem?_toList]; exact e)
    have e3 : (vs.map (·.1))[j]? = some k := by rw [List.getElem?_map, e1]; rfl
    rw [hkeys, List.getElem?_map] at e3
    cases e4 : ks[j]? with
    | none => rw [e4] at e3; cases e3
    | some y =>
      rw [e4] at e3
      obtain rfl : Sum.inr y = k := Option.some.inj e3
      obtain ⟨t, ev⟩ := Value.isStrOf_shape (x := y) (v := v) e2
      exact ⟨y, t, rfl, ev⟩
  have I4 : Inv X pins s1 H2 { s3 with heap := h', toks := tk } := I3.kept hk
  refine wpAny_bind (wpAny_newList ?_ (by rw [hal, ← hl]; exact hL))
  have hoL : (h'.push (seqObj "list" acc.toList.toArray 0)).get? h'.objs.size = some (seqObj "list" acc.toList.toArray 0) := Heap.get?_push_size _ rfl
  obtain ⟨mb, hb1, hb2⟩ := I3.mod.blt
  have hun := hr.un
  have hdp := hr.dp
  refine wpAny_bind (wpAny_holding (PySem.W.list_sort_key_data (s := { s3 with heap := h'.push (seqObj "list" acc.toList.toArray 0), toks := tk }) (f := .ref f) (b := false) (R := isS1) keyT2 hoL (each_strs hS) (PySem.W.AllAlike.of fun _ _ => by simp [PySem.W.alike, PySem.W.alikeAll, keyT2]) (PySem.W.Sortable.tuples fun _ => ⟨_, _, rfl⟩) (by rw [← hl]; exact hL)
    (fun x _ => ?_) (PyProof.Rows.ksk_l1 _ _) (PyProof.Rows.ksk_t1 _ _) (fun v x hv hx g tk2 kb => ?_) fun out c' g tk2 kb hg2 hlo he => ?_))
  · have : (keyT2 x).depth = 1 := by simp [keyT2, PyData.depth, PyData.depthAll]
    show X.A.units + 1 + 1 + (keyT2 x).depth < cLine
    omega
  · obtain ⟨u, rfl⟩ := hv
    have kall : ∀ b o, s3.heap.get? b = some o → g.get? b = some o := fun b o e => by
      have := hk b o e
      exact kb b o (Nat.ne_of_lt (Heap.lt_size this)) (Heap.get?_push_of_some _ this)
    refine lam_key (s := { s3 with heap := g, toks := tk2 }) (mg := X.mg) (mb := mb) (kall _ _ hf) (hcd.keeps kall) ?_ (I3.nolimit.keeps kall) ((I3.mod.glob.keeps I3.bk).keeps kall) hml ((hb1.keeps I3.bk).keeps kall) ((hb2 _ (by decide)).trans boot_len) (hkz x hx)
    show X.A.depth < recursionLimit
    omega
  · rw [dataLe_key] at he
    have k5 : ∀ b o, h'.get? b = some o → g.get? b = some o := fun b o e => kb b o (Nat.ne_of_lt (Heap.lt_size e)) (Heap.get?_push_of_some _ e)
    have hn : H2 h'.objs.size = none := I4.hok.fresh (Nat.le_refl _)
    refine wpAny_pure ⟨_, rfl, .ref h'.objs.size, upd H2 h'.objs.size (.lst ((sortK ks).map V.str)), I4.laid (t' := tk2) k5 (Nat.le_refl _) ⟨?_, out, c', vals_strs (strs_each he), hg2⟩, rfl, q _ hn⟩
    rw [List.length_map, sortK_len, ← hl]; exact hL
end
end HB

set_option Elab.async false
set_option linter.all false
set_option maxRecDepth 100000
set_option maxHeartbeats 1000000
/-! HB, part n: subscripts as a rule, sorted as plain functions, the law's first statement. -/
namespace HB
open PySem PySem.Spec PyProof.Rows L2

theorem ix_dic {X : Cx} (hu : X.A.units + 64 < cLine) : IxR X rIxDic := by
  intro value slice pins s s1 H x y v u Q I rx ry h hs
  obtain ⟨a, z, rfl, g, q⟩ := h
  obtain rfl : v = Value.ref a := rx
  exact tail_any (dict_typeIs I g) PySem.F.slot_dict_getitem.lookup (d_getItem (by omega) I g ry fun w' s3 I3 rw' => ⟨z, H, I3, rw', q⟩) hs
theorem ix_A {X : Cx} (hu : X.A.units + 64 < cLine) : IxR X (rIxA X.K) := ix_seq.or (ix_dic hu)

section
variable {T : List (Addr × Str)} {K : PySem.W.Frag}
theorem dens_strs {L : List Addr} {B : Addr → Prop} {H : Hp} : ∀ xs : List Str, Dens L B H (xs.map Dt.str) (xs.map V.str)
  | [] => .nil
  | _ :: xs => .cons Den.str (dens_strs xs)
/-- sorted(set(xs)) -/
def gSS (st : Sto) (xs : List Dt) : Option (Dt × Sto) := match xs with
  | [x] => (asL st x).bind fun ds => (strs' ds).bind fun ys => if ys.length + 1 < scanBound then some (.lst ((sortS (setL ys)).map .str), st) else none
  | _ => none
theorem sim_ss {X : Cx} {te : TE} {f : SE} (hf : SimE T te f) : SimE T (tCB (rSortSS X) (tCons (tCB (rSetS X) (tCons te tNil)) tNil)) (eN gSS (aCons f aNil)) := by
  intro Z L st H s r d st' Q w e h q
  obtain ⟨⟨ds, st1⟩, h1, h⟩ := bind_some' h
  obtain ⟨⟨dx, st2⟩, h2, h3⟩ := bind_some' h1
  cases h3
  refine hf Z L st H s r dx _ _ w e h2 fun x H1 L1 f1 p1 => ?_
  dsimp only at h
  unfold gSS at h
  obtain ⟨es, e1, h⟩ := bind_some' h
  obtain ⟨ys, e2, h⟩ := bind_some' h
  split at h
  case isFalse => cases h
  case isTrue hb =>
  cases h
  obtain ⟨a, vs, rfl, ea, t⟩ := asL_ok f1.wd p1 e1
  have ev := strs_ok t e2
  subst ev
  refine ⟨a, ys, rfl, SqL.of ea, hb, fun p np => ?_⟩
  have n1 : Af T Z L1 _ H1 L1 _ (upd H1 p (SSO X.prog X.w p (setL ys))) := .new f1.wd np
  have hlen : (setL ys).length < scanBound := by have := setL_len ys; omega
  refine ⟨p, setL ys, rfl, upd_same, hlen, fun p2 np2 => ?_⟩
  exact q _ _ L1 (f1.trans (n1.trans (.new n1.wd np2))) (.newL n1.wd np2 (dens_strs _))
/-- sorted(xs), texts -/
def gSortL (st : Sto) (xs : List Dt) : Option (Dt × Sto) := match xs with
  | [x] => (asL st x).bind fun ds => (strs' ds).map fun ys => (.lst ((sortS ys).map .str), st)
  | _ => none
theorem vo_sortL : VON T (rSortL K) gSortL := by
  intro Z L st H xs dxs d st' Q w hx h q
  unfold gSortL at h
  split at h
  · obtain ⟨v, rfl, p⟩ := dens1 hx
    obtain ⟨es, e1, h⟩ := bind_some' h
    obtain ⟨ys, e2, e3⟩ := Option.map_eq_some_iff.mp h
    cases e3
    obtain ⟨a, vs, rfl, ea, t⟩ := asL_ok w p e1
    have ev := strs_ok t e2
    subst ev
    exact ⟨a, ys, rfl, SqL.of ea, fun p np => q _ _ L (.new w np) (.newL w np (dens_strs _))⟩
  · cases h
/-- the keys are texts -/
def kStrs : List Key → Option (List Str)
  | [] => some []
  | .inr x :: ks => (kStrs ks).map fun xs => x :: xs
  | _ => none
theorem kStrs_ok : ∀ {ks : List Key} {xs : List Str}, kStrs ks = some xs → ks = xs.map Sum.inr
  | [], _, h => by cases h; rfl
  | .inr x :: ks, _, h => by
    obtain ⟨ys, e1, e2⟩ := Option.map_eq_some_iff.mp h
    subst e2
    rw [kStrs_ok e1]; rfl
  | .inl _ :: ks, _, h => by cases h
/-- sorted(d, key=..), as a new live object -/
def eSortK (f : SE) : SE := fun r st => (f r st).bind fun x => (asD x.2 x.1).bind fun y => (kStrs y.1).bind fun ks => if ks.all (fun k => decide (k.length ≤ sizeLine)) = true then some (.ref x.2.length, x.2 ++ [some (.lst ((sortK ks).map .str))]) else none
theorem zip_keys : ∀ {ks : List Key} {vs : List V}, ks.length = vs.length → (ks.zip vs).map (·.1) = ks
  | [], _, _ => rfl
  | k :: ks, v :: vs, h => by
    rw [List.zip_cons_cons, List.map_cons, zip_keys (by simpa using h)]
  | _ :: _, [], h => by simp at h
theorem Wd.lam {Z : Addr → Prop} {L : List Addr} {st : Sto} {H H2 : Hp} (w : Wd T Z L st H) (ex : LamX.ExtN H H2) (trk : ∀ b, H b ≠ none → H2 b ≠ none) (hT : LamX.Tabs T H2) : Af T Z L st H L st H2 := by
  have stay : ∀ b u, H b = some u → (∀ ps, u ≠ .tbl ps) → H2 b = some u := ex
  refine ⟨⟨hT, w.len, w.inj, fun k a d h1 h2 => ?_, fun a z => trk a (w.zt a z)⟩, ⟨[], by simp⟩, fun b u e _ n => stay b u e n, fun a l => .inl l, trk, fun b us e => stay b _ e (fun ps z => by cases z), fun k a h e => absurd (List.getElem?_eq_some_iff.mp e).1 (by omega), fun a z => .inl z⟩
  obtain ⟨nz, o, e, q⟩ := w.own k a d h1 h2
  refine ⟨nz, o, stay a o e fun ps z => ?_, q.imp fun ds vs t => t.stay stay⟩
  rcases q.kind with ⟨xs, y⟩ | ⟨kvs, y⟩ <;> (rw [y] at z; cases z)
theorem sim_sortK {te : TE} {f : SE} (hf : SimE T te f) : SimE T (tSortK T te) (eSortK f) := by
  intro Z L st H s r d st' Q w e h q
  obtain ⟨⟨dx, st1⟩, h1, h⟩ := bind_some' h
  obtain ⟨⟨ks, ds⟩, h2, h⟩ := bind_some' h
  obtain ⟨xs, h3, h⟩ := bind_some' h
  split at h
  case isFalse => cases h
  case isTrue hz =>
  cases h
  refine hf Z L st H s r dx _ _ w e h1 fun x H1 L1 f1 p1 => ?_
  refine ⟨f1.wd.tabs, fun H2 ex trk hT => ?_⟩
  have f2 := f1.wd.lam ex trk hT
  obtain ⟨a, vs, rfl, ea, el, t⟩ := asD_ok f2.wd (p1.keep f2) h2
  refine ⟨a, _, xs, rfl, ea, ?_, fun k hk => ?_, fun p np => ?_⟩
  · exact (zip_keys el).trans (kStrs_ok h3)
  · rw [List.all_eq_true] at hz
    simpa using hz k hk
  · refine q _ _ (L1 ++ [p]) (f1.trans (f2.trans (.newR f2.wd np ⟨_, rfl, dens_strs _⟩))) ?_
    unfold Den
    exact ⟨p, by rw [← f2.wd.len]; simp, rfl⟩
/-- a new object, from now on a value -/
def eFrz (f : SE) : SE := fun r st => (f r st).bind fun x => match x.1 with
  | .ref k => (match x.2[k]? with
    | some (some d) => some (d, x.2.set k none)
    | _ => none)
  | _ => none
theorem sim_eFrz {te : TE} {f : SE} (hf : SimE T te f) : SimE T te (eFrz f) := by
  intro Z L st H s r d st' Q w e h q
  obtain ⟨⟨dx, st1⟩, h1, h⟩ := bind_some' h
  refine hf Z L st H s r dx _ _ w e h1 fun x H1 L1 f1 p1 => ?_
  cases dx with
  | ref k =>
    dsimp only at h
    split at h
    · rename_i d' hd
      cases h
      unfold Den at p1
      obtain ⟨a, ka, rfl⟩ := p1
      obtain ⟨ff, pp⟩ := f1.wd.frz ka hd
      exact q _ H1 L1 (f1.trans ff) pp
    · cases h
  | _ => cases h
end

/-! ### at one world -/
section
variable {T : List (Addr × Str)} {K : PySem.W.Frag} {Z : Addr → Prop} {L : List Addr} {st : Sto} {H : Hp} {s : L2.St} {r : Evr}
theorem at_op {ta tb : TE} {fa fb : SE} {o : R2} {g : Sto → Dt → Dt → Option (Dt × Sto)} (e : EnvOk L (Bad Z L st) H r s) (ha : EAt T Z L st H s r ta fa) (hb : SimE T tb fb) (ho : VO2 T o g) : EAt T Z L st H s r (tOp o ta tb) (eOp2 g fa fb) := by
  intro d st' Q h q
  obtain ⟨⟨dx, st1⟩, h1, h⟩ := bind_some' h
  obtain ⟨⟨dy, st2⟩, h2, h⟩ := bind_some' h
  refine ha dx st1 _ h1 fun x H1 L1 f1 p1 => ?_
  refine hb Z L1 st1 H1 s r dy st2 _ f1.wd (e.keep f1) h2 fun y H2 L2 f2 p2 => ?_
  exact ho Z L2 st2 H2 x y dx dy d st' Q f2.wd (p1.keep f2) p2 h fun v H3 L3 f3 p3 => q v H3 L3 (f1.trans (f2.trans f3)) p3
theorem at_iL {te : TE} {f : SE} (hf : EAt T Z L st H s r te f) : IAt T Z L st H s r (iList K te) (iE itL f) := by
  intro xs st' Q h q
  obtain ⟨⟨dx, st1⟩, h1, h2⟩ := bind_some' h
  obtain ⟨ys, h3, h4⟩ := Option.map_eq_some_iff.mp h2
  cases h4
  refine hf dx _ _ h1 fun x H1 L1 f1 p1 => ?_
  cases dx with
  | lst ds =>
    cases h3
    have p1' := p1
    unfold Den at p1'
    obtain ⟨a, vs, rfl, nb, ea, t⟩ := p1'
    refine ⟨a, rfl, ⟨vs, SqL.of ea⟩, q _ H1 L1 f1 fun Z2 L2 st2 H2 f2 => ?_⟩
    have ea2 : H2 a = some (.lst vs) := f2.kp a _ ea (fun z => nb (.inr z)) (fun ps z => by cases z)
    have t2 := t.keep f2
    refine ⟨⟨vs, SqL.of ea2, Nat.le_of_eq t.len.symm⟩, fun i d hd => ?_⟩
    obtain ⟨v, hv, pv⟩ := t2.get hd
    refine ⟨⟨vs, v, SqL.of ea2, hv⟩, fun x H3 y => ?_⟩
    obtain ⟨rfl, y⟩ := y
    have := y vs (SqL.of ea2)
    rw [hv] at this
    cases this
    exact ⟨.refl f2.wd, pv⟩
  | _ => cases h3
end
end HB

set_option Elab.async false
set_option linter.all false
set_option maxRecDepth 100000
set_option maxHeartbeats 1000000
/-! HB, part o: the end of a law. -/
namespace HB
open PySem PySem.Spec PyProof.Rows L2

section
variable {P : Program} {w : World} {K : PySem.W.Frag} {mg mb : Str → Option Value} {k : Nat} {fa a : Addr} {cs : List (Addr × Addr)} {fd : FuncData} {x : Str} {sp : Sp} {s₁ : Shared} {vs : List Value} {ns : List Int}
abbrev tabO : Obj := { cls := .none, data := .fields #[] }
abbrev scrO (vs : List Value) : Obj := { cls := .type "list", data := .seq vs.toArray }
open Classical in
/-- what is known of the heap at the law's entry: the tables, the script if it is not of the module -/
noncomputable def h0 (K : PySem.W.Frag) (cs : List (Addr × Addr)) (a : Addr) (vs : List Value) (ns : List Int) : Hp := fun b =>
  if (∃ p ∈ cs, p.2 = b) then some (.tbl #[]) else if b = a ∧ K.lookup a = none then some (.frz (scrO vs) (.lst (ns.map V.int))) else none
theorem h0_cases {b : Addr} {u : HO} (h : h0 K cs a vs ns b = some u) : (∃ p ∈ cs, p.2 = b ∧ u = .tbl #[]) ∨ (b = a ∧ K.lookup a = none ∧ u = .frz (scrO vs) (.lst (ns.map V.int))) := by
  unfold h0 at h
  split at h
  · rename_i q
    obtain ⟨p, hp, e⟩ := q
    cases h
    exact .inl ⟨p, hp, e, rfl⟩
  · split at h
    · rename_i q
      cases h
      exact .inr ⟨q.1, q.2, rfl⟩
    · cases h
theorem law_go (KX : K.In s₁.heap) (hns : s₁.heap.Ns mainGlobals mg) (hb : s₁.heap.Ns builtinsNs mb) (hbb : ∀ x : Str, x ≠ "__name__" → mb x = bootBuiltins x) (hlim : s₁.heap.NoLimit) (hg : s₁.gens = #[])
    (hT : ∀ p ∈ cs, s₁.heap.get? p.2 = some tabO) (nT : ∀ p ∈ cs, K.lookup p.2 = none) (C : ∀ p ∈ cs, PySem.W.CodeHd s₁.heap p.1 p.2)
    (hbm : ∃ (bm : Addr) (ob : Obj), mg "__builtins__" = some (.ref bm) ∧ bm ≠ builtinsNs ∧ s₁.heap.get? bm = some ob ∧ ob.cls = .type "module" ∧ ob.dict = some builtinsNs ∧ ob.data = .plain)
    (ha : s₁.heap.get? a = some (scrO vs)) (hi : IntsAre vs ns) (hl : ns.length ≤ sizeLine) (hr : Room k callerA)
    (F : ∀ base : Heap, K.In base → base.Ns mainGlobals mg → (∀ p ∈ cs, LamX.TabB base mg p.1 p.2) → GFn P w K mg base k fa fd [x] sp) (hbind : ∀ (s : Shared) (u : Value), BindsTo s fd ⟨[u], []⟩ [(x, u)])
    (hsp : ∀ H : Hp, (∀ p ∈ cs, H p.2 = some (.tbl #[])) → SqL K H a (ns.map V.int) → sp [.ref a] H (fun v _ => v = .bl true) E0) :
    codeAny (model P w) callerA (.call (.ref fa) ⟨[.ref a], []⟩) (fun r s' => r = .ok (.ret (.bool true)) ∧ OldK s₁.heap s'.heap ∧ s'.os = s₁.os ∧ AllBare s'.gens) s₁ := by
  have rv := vals_ints hi
  have lv := hi.length
  have hH : ∀ p ∈ cs, h0 K cs a vs ns p.2 = some (.tbl #[]) := fun p hp => if_pos ⟨p, hp, rfl⟩
  have na : ¬ ∃ p ∈ cs, p.2 = a := fun ⟨p, hp, e⟩ => by
    have q := hT p hp
    rw [e, ha] at q
    have := congrArg Obj.data (Option.some.inj q)
    cases this
  have hS : SqL K (h0 K cs a vs ns) a (ns.map V.int) := by
    cases hk : K.lookup a with
    | some o =>
      have e := KX a o hk
      rw [ha] at e
      cases e
      exact .inr ⟨_, vs.toArray, _, hk, rfl, rfl, rfl, by rw [List.size_toArray, lv]; exact hl, by simpa using rv⟩
    | none => exact .inl (.inr ⟨scrO vs, by unfold h0; rw [if_neg na, if_pos ⟨rfl, hk⟩]⟩)
  have hok : HOk P w (h0 K cs a vs ns) s₁.heap := fun b u e => by
    rcases h0_cases e with ⟨p, hp, rfl, rfl⟩ | ⟨rfl, _, rfl⟩
    · exact hT p hp
    · exact ⟨ha, by rw [List.length_map]; exact hl, vs, _, rv, ha⟩
  -- what is neither a table nor the script is not hidden
  have free : ∀ {b : Addr} {o : Obj}, s₁.heap.get? b = some o → (∀ us n, o.data ≠ .seq us n) → o.data ≠ .fields #[] → h0 K cs a vs ns b = none := fun {b o} e h1 h2 => by
    cases q : h0 K cs a vs ns b with
    | none => rfl
    | some u =>
      rcases h0_cases q with ⟨p, hp, rfl, _⟩ | ⟨rfl, _, _⟩
      · rw [hT p hp] at e; cases e; exact (h2 rfl).elim
      · rw [ha] at e; cases e; exact (h1 _ _ rfl).elim
  have stays : ∀ {b : Addr} {o : Obj}, s₁.heap.get? b = some o → (∀ us n, o.data ≠ .seq us n) → o.data ≠ .fields #[] → (hidT s₁.heap (h0 K cs a vs ns)).get? b = some o := fun e h1 h2 => hidT_get e (free e h1 h2)
  have nsK : ∀ {b : Addr} {m : Str → Option Value}, s₁.heap.Ns b m → (hidT s₁.heap (h0 K cs a vs ns)).Ns b m := fun {b m} ⟨o, es, ep, e, d, r⟩ =>
    ⟨o, es, ep, stays e (fun us n z => by rw [d] at z; cases z) (fun z => by rw [d] at z; cases z), d, r⟩
  have hKb : K.In (hidT s₁.heap (h0 K cs a vs ns)) := fun b o e => hidT_get (KX b o e) (by
    cases q : h0 K cs a vs ns b with
    | none => rfl
    | some u =>
      rcases h0_cases q with ⟨p, hp, rfl, _⟩ | ⟨rfl, hk, _⟩
      · rw [nT p hp] at e; cases e
      · rw [hk] at e; cases e)
  have hM : L2.Mod K mg (hidT s₁.heap (h0 K cs a vs ns)) := ⟨hKb, nsK hns, ⟨mb, nsK hb, hbb⟩, let ⟨mc, h1, h2⟩ := hlim; ⟨mc, nsK h1, h2⟩⟩
  have TB : ∀ p ∈ cs, LamX.TabB (hidT s₁.heap (h0 K cs a vs ns)) mg p.1 p.2 := fun p hp => by
    refine ⟨?_, ?_, fun z => ?_⟩
    · obtain ⟨o, us, file, tf, flags, tg, inF, text, tt, e1, r1, r2, r3, r⟩ := C p hp
      refine ⟨o, us, file, tf, flags, tg, inF, text, tt, stays e1 (fun us n z => by rw [r2] at z; cases z) (fun z => ?_), r1, r2, r3, r⟩
      rw [r2] at z
      cases z
      simp at r3
    · obtain ⟨bm, ob, b1, b2, b3, b4, b5, b6⟩ := hbm
      refine ⟨bm, ob, b1, b2, fun q => ?_, fun q => ?_, stays b3 (fun us n z => by rw [b6] at z; cases z) (fun z => by rw [b6] at z; cases z), b4, b5, b6⟩
      · obtain ⟨o, es, ep, e, hd, _⟩ := hns
        rw [q, e] at b3
        cases b3
        rw [hd] at b6
        cases b6
      · rw [q, hT p hp] at b3
        cases b3
        cases b6
    · obtain ⟨o, es, ep, e, hd, _⟩ := hns
      rw [z, hT p hp] at e
      cases e
      cases hd
  have e0 : Env0 P w K mg (hidT s₁.heap (h0 K cs a vs ns)) callerA [] s₁ (h0 K cs a vs ns) :=
    ⟨rfl, hM, fun b o e => of_hidT e, Nat.le_of_eq (hidT_size _ _), trivial, fun b hb => absurd (show b ∈ ([] : List Addr) from hb) (by simp), hok, .of_eq hg⟩
  refine codeAny_mono ((F _ hKb (nsK hns) TB).run callerA [] s₁ (h0 K cs a vs ns) ⟨[.ref a], []⟩ [.ref a] [.ref a] _ hr rfl e0 (hbind s₁ (.ref a)) rfl (.cons rfl .nil) (hsp _ hH hS)) fun r s' h => ?_
  match r, h with
  | .error _, h => exact h.elim
  | .ok .next, h => exact h.elim
  | .ok .brk, h => exact h.elim
  | .ok .cont, h => exact h.elim
  | .ok (.ret u), h =>
    obtain ⟨v, H', os, bare, un, hok', r', q⟩ := h
    obtain rfl : v = .bl true := q
    obtain rfl : u = Value.bool true := r'
    have tabs : ∀ p ∈ cs, ∃ more : Array Value, s'.heap.get? p.2 = some { cls := .none, data := .fields more } := fun p hp => by
      obtain ⟨more, z⟩ := un.tbls p.2 #[] (hH p hp)
      exact ⟨_, hok' p.2 _ z⟩
    have rest : ∀ b o, (¬ ∃ p ∈ cs, p.2 = b) → s₁.heap.get? b = some o → s'.heap.get? b = some o := fun b o nb e => by
      cases q : h0 K cs a vs ns b with
      | none => exact un.keep b o e q (fun z => absurd (show b ∈ ([] : List Addr) from z) (by simp)) (by simp)
      | some u =>
        rcases h0_cases q with ⟨p, hp, e', _⟩ | ⟨e', _, e2⟩
        · exact absurd ⟨p, hp, e'⟩ nb
        · rw [e2] at q
          obtain ⟨e3, _⟩ := hok' b _ (un.frzs b _ _ q)
          rw [e', ha] at e
          cases e
          exact e3
    refine ⟨rfl, ⟨fun b o e => ?_, fun b o e => ?_⟩, os, bare⟩
    · by_cases nb : ∃ p ∈ cs, p.2 = b
      · obtain ⟨p, hp, rfl⟩ := nb
        obtain ⟨more, hm⟩ := tabs p hp
        rw [hT p hp] at e
        cases e
        exact .inr (.inl ⟨((C p hp).tab (hT p hp)).isCodeTable, rfl, #[], more, rfl, by rw [Array.empty_append]; exact hm⟩)
      · exact .inl (rest b o nb e)
    · by_cases nb : ∃ p ∈ cs, p.2 = b
      · obtain ⟨p, hp, rfl⟩ := nb
        obtain ⟨more, hm⟩ := tabs p hp
        exact ⟨_, hm⟩
      · exact ⟨o, rest b o nb e⟩
end
/-- what is known of the law at the head's heap h: cs, the code objects that make lambdas and their tables -/
def LawAt (l : PySem.W.OpenLaw) (w : World) (K : PySem.W.Frag) (k n : Nat) (x : Str) (mg : Str → Option Value) (fa : Addr) (h : Heap) : Prop :=
  ∃ (fd : FuncData) (cs : List (Addr × Addr)) (sp : Sp), (∀ p ∈ cs, h.get? p.2 = some tabO) ∧ (∀ p ∈ cs, K.lookup p.2 = none) ∧ (∀ p ∈ cs, PySem.W.CodeHd h p.1 p.2) ∧ (∀ (s : Shared) (u : Value), BindsTo s fd ⟨[u], []⟩ [(x, u)]) ∧
    (∀ (H : Hp) (a : Addr) (ns : List Int), ns.length ≤ n → (∀ z ∈ ns, Builtin.Int.intBits z ≤ 1048576) → (∀ p ∈ cs, H p.2 = some (.tbl #[])) → SqL K H a (ns.map V.int) → sp [.ref a] H (fun v _ => v = .bl true) E0) ∧
    ∀ base : Heap, K.In base → base.Ns mainGlobals mg → (∀ p ∈ cs, LamX.TabB base mg p.1 p.2) → GFn l.prog w K mg base k fa fd [x] sp
theorem walk_go {l : PySem.W.OpenLaw} {n k : Nat} {q : Program} {loose : List Str} {XP : (Str → Option Value) → Heap → Prop} {YP : World → Heap → Prop} {d : DefRec} {K : Params → PySem.W.Frag} {x : Str}
    (hn : l.most = some n) (hn2 : n ≤ sizeLine) (hdf : d.params.defaults = []) (hr : Room k callerA) (hY : ∀ (w : World) (h : Heap), YP w h → (K w.params).In h)
    (F : ∀ (w : World) (mg : Str → Option Value) (fa : Addr) (h : Heap), YP w h → (K w.params).In h → h.Ns mainGlobals mg → mg d.name = some (.ref fa) → LawAt l w (K w.params) k n x mg fa h) :
    PySem.W.WalkO q loose XP YP l.row.toRowW d [] (fun f vs => PySem.call f vs) := by
  refine Att.attach_callB hn hdf fun w s₀ s₁ mg mb fa o pm cd doc a vs ns G Y ho hd hcd hmg hobj hints hlen hbits hg => ?_
  have KX := hY w _ Y
  obtain ⟨fd, cs, sp, hT, nT, C, hb, hsp, hF⟩ := F w mg fa _ Y KX G.T.g hmg
  exact law_go KX G.T.g G.T.b G.T.builtins G.T.nolimit hg hT nT C G.T.bmain hobj hints (Nat.le_trans hlen hn2) hr hF hb fun H hH hS => hsp H a ns hlen hbits hH hS
end HB

set_option Elab.async false
set_option linter.all false
set_option maxRecDepth 100000
set_option maxHeartbeats 1000000
/-! HB, part p: one judgement for the derivation and the plain function. -/
namespace HB
open PySem PySem.Spec PyProof.Rows L2

section
variable (T : List (Addr × Str))
/-- the readings that a plain function gives -/
def rE (f : SE) : TE := fun s H Q => ∃ Z L st r d st', Wd T Z L st H ∧ EnvOk L (Bad Z L st) H r s ∧ f r st = some (d, st') ∧ ∀ v H' L', Af T Z L st H L' st' H' → Den L' (Bad Z L' st') H' d v → Q v H'
def rT (f : ST) : TT := fun s H Q => ∃ Z L st r b st', Wd T Z L st H ∧ EnvOk L (Bad Z L st) H r s ∧ f r st = some (b, st') ∧ ∀ H' L', Af T Z L st H L' st' H' → Q b H'
def rA (f : SA) : TA := fun s H Q => ∃ Z L st r d st', Wd T Z L st H ∧ EnvOk L (Bad Z L st) H r s ∧ f r st = some (d, st') ∧ ∀ v H' L', Af T Z L st H L' st' H' → Dens L' (Bad Z L' st') H' d v → Q v H'
def rS (g : SS) : TS := fun D s H => ∃ Z L st r o, Wd T Z L st H ∧ EnvOk L (Bad Z L st) H r s ∧ g r st = some o ∧ OuOk T Z L st H D o
def rI (f : SA) : TI := fun s H Q => ∃ Z L st r d st', Wd T Z L st H ∧ EnvOk L (Bad Z L st) H r s ∧ f r st = some (d, st') ∧ ∀ J H' L', Af T Z L st H L' st' H' → WalkD T Z L' st' H' J d → Q J H'
def rO (f : SO) : TO := fun s H Q => ∃ Z L st r d st', Wd T Z L st H ∧ EnvOk L (Bad Z L st) H r s ∧ f r st = some (d, st') ∧ ∀ H' L', Af T Z L st H L' st' H' → Q d H'
end
section
variable {T : List (Addr × Str)}
theorem sE {f : SE} : SimE T (rE T f) f := fun Z L st H s r d st' Q w e h q => ⟨Z, L, st, r, d, st', w, e, h, q⟩
theorem sT {f : ST} : SimT T (rT T f) f := fun Z L st H s r d st' Q w e h q => ⟨Z, L, st, r, d, st', w, e, h, q⟩
theorem sA {f : SA} : SimA T (rA T f) f := fun Z L st H s r d st' Q w e h q => ⟨Z, L, st, r, d, st', w, e, h, q⟩
theorem sS {g : SS} : SimS T (rS T g) g := fun Z L st H s r o D w e h q => ⟨Z, L, st, r, o, w, e, h, q⟩
theorem sI {f : SA} : SimI T (rI T f) f := fun Z L st H s r d st' Q w e h q => ⟨Z, L, st, r, d, st', w, e, h, q⟩
theorem sO {f : SO} : SimO T (rO T f) f := fun Z L st H s r d st' Q w e h q => ⟨Z, L, st, r, d, st', w, e, h, q⟩
variable {X : Cx}
theorem toE {e : Expr} {t : TE} {f : SE} (h : PE X e t) (k : SimE T t f) : PE X e (rE T f) := ⟨fun pins s s1 H Q I ⟨Z, L, st, r, d, st', w, ev, hf, q⟩ => h.run pins s s1 H Q I (k Z L st H s1 r d st' Q w ev hf q)⟩
theorem toTT {e : Expr} {t : TT} {f : ST} (h : PT X e t) (k : SimT T t f) : PT X e (rT T f) := ⟨fun pins s s1 H Q I ⟨Z, L, st, r, d, st', w, ev, hf, q⟩ => h.run pins s s1 H Q I (k Z L st H s1 r d st' Q w ev hf q)⟩
theorem toW {e : Expr} {t : TT} {f : ST} (h : PW X e t) (k : SimT T t f) : PW X e (rT T f) := ⟨fun wh pins s s1 H Q I ⟨Z, L, st, r, d, st', w, ev, hf, q⟩ => h.run wh pins s s1 H Q I (k Z L st H s1 r d st' Q w ev hf q)⟩
theorem toTs {e : List Expr} {t : TT} {f : ST} (h : PTs X e t) (k : SimT T t f) : PTs X e (rT T f) := ⟨fun pins s s1 H Q I ⟨Z, L, st, r, d, st', w, ev, hf, q⟩ => h.run pins s s1 H Q I (k Z L st H s1 r d st' Q w ev hf q)⟩
theorem toA {e : List Expr} {t : TA} {f : SA} (h : PA X e t) (k : SimA T t f) : PA X e (rA T f) := ⟨fun pos pins s s1 H Q I ⟨Z, L, st, r, d, st', w, ev, hf, q⟩ => h.run pos pins s s1 H Q I (k Z L st H s1 r d st' Q w ev hf q)⟩
theorem toK {e : List Keyword} {t : TA} {f : SA} (h : PK X e t) (k : SimA T t f) : PK X e (rA T f) := ⟨fun pos pins s s1 H Q I ⟨Z, L, st, r, d, st', w, ev, hf, q⟩ => h.run pos pins s s1 H Q I (k Z L st H s1 r d st' Q w ev hf q)⟩
theorem toS {e : Stmt} {t : TS} {f : SS} (h : PS X e t) (k : SimS T t f) : PS X e (rS T f) := ⟨fun pins s s1 H D I ⟨Z, L, st, r, o, w, ev, hf, q⟩ => h.run pins s s1 H D I (k Z L st H s1 r o D w ev hf q)⟩
theorem toSs {e : List Stmt} {t : TS} {f : SS} (h : PSs X e t) (k : SimS T t f) : PSs X e (rS T f) := ⟨fun pins s s1 H D I ⟨Z, L, st, r, o, w, ev, hf, q⟩ => h.run pins s s1 H D I (k Z L st H s1 r o D w ev hf q)⟩
theorem toI {tg e : Expr} {t : TI} {f : SA} (h : PI X tg e t) (k : SimI T t f) : PI X tg e (rI T f) := ⟨fun pins s s1 H Q I ⟨Z, L, st, r, d, st', w, ev, hf, q⟩ => h.run pins s s1 H Q I (k Z L st H s1 r d st' Q w ev hf q)⟩
theorem toO {e : Option Expr} {t : TO} {f : SO} (h : PO X e t) (k : SimO T t f) : PO X e (rO T f) := ⟨fun pins s s1 H Q I ⟨Z, L, st, r, d, st', w, ev, hf, q⟩ => h.run pins s s1 H Q I (k Z L st H s1 r d st' Q w ev hf q)⟩
end
/-! ### the rules -/
section
variable {T : List (Addr × Str)} {X : Cx} {a b c e o : Expr} {es rest : List Expr} {fa fb fc : SE} {ga gb : ST} {fs : SA} {pos : Pos}
theorem jv (i : Nat) {x : Str} (hN : X.N[i]? = some x := by rfl) (hv : Vis X.env.scope x := by first | exact Or.inl rfl | exact Or.inr (Or.inl rfl) | exact Or.inr (Or.inr rfl)) (hd : (x == ("__debug__" : Str)) = false := by decide)
    (hcd : (x == ("__classdict__" : Str)) = false := by decide) : PE X (.Name x pos) (rE T (eVar i)) := toE (pe_var hN hv hd hcd) sim_var
theorem jInt {i : Int} {j : Nat} : PE X (.Constant (.int i) j pos) (rE T (eC (.int i))) := toE pe_int sim_int
theorem jStr {x : Str} {j : Nat} : PE X (.Constant (.str x) j pos) (rE T (eC (.str x))) := toE pe_str sim_str
theorem jBl {x : Bool} {j : Nat} : PE X (.Constant (.bool x) j pos) (rE T (eC (.bl x))) := toE pe_bl sim_bl
theorem jNon {j : Nat} : PE X (.Constant .none j pos) (rE T (eC .non)) := toE pe_non sim_non
theorem jGI {x : Str} {i : Int} {t : Tok} (hg : Gl X x) (hm : X.mg x = some (.int i t)) (hd : (x == ("__debug__" : Str)) = false := by decide) : PE X (.Name x pos) (rE T (eC (.int i))) := toE (pe_glob (v := .int i) hg hm ⟨t, rfl⟩ hd) sim_int
theorem jOp {op : Operator} {r : R2} {g : Sto → Dt → Dt → Option (Dt × Sto)} (ho : OpR X (binaryOp op) r) (hv : VO2 T r g) (ha : PE X a (rE T fa)) (hb : PE X b (rE T fb)) : PE X (.BinOp a op b pos) (rE T (eOp2 g fa fb)) := toE (pe_op ho ha hb) (sim_op sE sE hv)
theorem jCmp {op : CmpOp} {r : R2} {g : Sto → Dt → Dt → Option (Dt × Sto)} (ho : OpR X (compareOp op) r) (hv : VO2 T r g) (ha : PE X a (rE T fa)) (hb : PE X b (rE T fb)) (hm : behindInMarks op b = false := by first | rfl | exact nomark _) : PE X (.Compare a [op] [b] pos) (rE T (eOp2 g fa fb)) := toE (pe_cmpR ho ha hb hm) (sim_op sE sE hv)
theorem jtCmp {op : CmpOp} {r : R2} {g : Sto → Dt → Dt → Option (Dt × Sto)} (ho : OpR X (compareOp op) r) (hv : VO2 T r g) (ha : PE X a (rE T fa)) (hb : PE X b (rE T fb)) (hm : behindInMarks op b = false := by first | rfl | exact nomark _) : PT X (.Compare a [op] [b] pos) (rT T (cB (eOp2 g fa fb))) := toTT (pt_cmpR ho ha hb hm) (sim_cBT (sim_op sE sE hv))
theorem jtVal (h : PE X e (rE T fa)) (he : ∀ whole, isTrue e X.env whole = (do let v ← whole; standAt e.pos; holding [v] (truthy v)) := by intro _; rfl) : PT X e (rT T (cB fa)) := toTT (pt_val h he) (sim_cB sE)
theorem jtNot (h : PT X a (rT T ga)) : PT X (.UnaryOp .Not a pos) (rT T (cNot ga)) := toTT (pt_not h) (sim_not sT)
theorem jwAnd1 (h : PT X a (rT T ga)) : PW X (.BoolOp .And [a] pos) (rT T ga) := pw_and1 h
theorem jwOr1 (h : PT X a (rT T ga)) : PW X (.BoolOp .Or [a] pos) (rT T ga) := pw_or1 h
theorem jwAnd (ha : PT X a (rT T ga)) (hb : PW X (.BoolOp .And (b :: rest) pos) (rT T gb)) : PW X (.BoolOp .And (a :: b :: rest) pos) (rT T (cAnd ga gb)) := toW (pw_and ha hb) (sim_and sT sT)
theorem jwOr (ha : PT X a (rT T ga)) (hb : PW X (.BoolOp .Or (b :: rest) pos) (rT T gb)) : PW X (.BoolOp .Or (a :: b :: rest) pos) (rT T (cOr ga gb)) := toW (pw_or ha hb) (sim_or sT sT)
theorem jOne {op : BoolOp} (h : PE X a (rE T fa)) : PE X (.BoolOp op [a] pos) (rE T fa) := pe_one h
theorem jAnd (ha : PE X a (rE T fa)) (hb : PE X (.BoolOp .And (b :: rest) pos) (rE T fb)) : PE X (.BoolOp .And (a :: b :: rest) pos) (rE T (eAndV fa fb)) := toE (pe_and ha hb) (sim_andV sE sE)
theorem jOr (ha : PE X a (rE T fa)) (hb : PE X (.BoolOp .Or (b :: rest) pos) (rE T fb)) : PE X (.BoolOp .Or (a :: b :: rest) pos) (rE T (eOrV fa fb)) := toE (pe_or ha hb) (sim_orV sE sE)
theorem jNot (ha : PE X a (rE T fa)) : PE X (.UnaryOp .Not a pos) (rE T (eNotV fa)) := toE (pe_not ha) (sim_notV sE)
theorem jIf (hc : PT X c (rT T ga)) (ha : PE X a (rE T fa)) (hb : PE X b (rE T fb)) : PE X (.IfExp c a b pos) (rE T (eIf ga fa fb)) := toE (pe_ifExp hc ha hb) (sim_if sT sE sE)
theorem jNil : PA X [] (rA T aNil) := toA pa_nil sim_nil
theorem jCons (ha : PE X e (rE T fa)) (hr : PA X es (rA T fs)) (hs : starEach (e :: es) X.env = (false, eval e X.env) :: starEach es X.env := by rfl) : PA X (e :: es) (rA T (aCons fa fs)) := toA (pa_cons ha hr hs) (sim_cons sE sA)
theorem jB {x : Str} {id : String} {r : List V → Hp → VK → Prop} {g : Sto → List Dt → Option (Dt × Sto)} {p : Pos} (hc : CallR X (.builtin id) r) (hv : VON T r g) (hg : Gl X x) (hm : X.mg x = none) (hb : bootBuiltins x = some (.builtin id)) (ha : PA X (e :: es) (rA T fs)) (hn : x ≠ "__name__" := by decide) (hdb : (x == ("__debug__" : Str)) = false := by decide)
    (he : starEach (e :: es) X.env = (false, eval e X.env) :: starEach es X.env := by rfl) (hpl : (backTo pos (starEach es X.env)).any (·.1) = false := by rfl) : PE X (.Call (.Name x p) (e :: es) [] pos) (rE T (eN g fs)) := toE (pe_callB hc hg hm hb ha hn hdb he hpl) (sim_N sA hv)
theorem jTy {x : Str} {id : String} {r : List V → Hp → VK → Prop} {g : Sto → List Dt → Option (Dt × Sto)} {p : Pos} (hc : CallR X (.type id) r) (hv : VON T r g) (hg : Gl X x) (hm : X.mg x = none) (hb : bootBuiltins x = some (.type id)) (ha : PA X (e :: es) (rA T fs)) (hn : x ≠ "__name__" := by decide) (hdb : (x == ("__debug__" : Str)) = false := by decide)
    (he : starEach (e :: es) X.env = (false, eval e X.env) :: starEach es X.env := by rfl) (hpl : (backTo pos (starEach es X.env)).any (·.1) = false := by rfl) : PE X (.Call (.Name x p) (e :: es) [] pos) (rE T (eN g fs)) := toE (pe_callTy hc hg hm hb ha hn hdb he hpl) (sim_N sA hv)
/-- isinstance(e, c) -/
theorem jIsi {y : Str} {c : String} {p p2 : Pos} (hg : Gl X "isinstance") (hm : X.mg "isinstance" = none) (hgc : Gl X y) (hmc : X.mg y = none) (hbc : bootBuiltins y = some (.type c)) (ha : PE X e (rE T fa)) (hn : y ≠ "__name__" := by decide) (hdb : (y == ("__debug__" : Str)) = false := by decide)
    (he : starEach [e, .Name y p2] X.env = (false, eval e X.env) :: starEach [.Name y p2] X.env := by rfl) : PE X (.Call (.Name "isinstance" p) [e, .Name y p2] [] pos) (rE T (eN (gIs c) (aCons fa aNil))) :=
  toE (pe_callB call_isi hg hm boot_isinstance (pa_cons ha (pa_cons (pe_bltn (v := .ty c) hgc hmc hbc rfl hn hdb) pa_nil rfl) he) (by decide) (by decide) he rfl) (sim_isi sE)
/-- f(e, ..) -/
theorem jCall {k : Nat} {x : Str} {ps : List Str} {F : List Dt → Sto → Option (Dt × Sto)} {p : Pos} (c : GCal X.prog X.w X.K X.mg X.base k x ps (SpF T ps.length F)) (hr : Room k X.A) (hg : X.A.guards = some []) (gl : Gl X x) (ha : PA X (e :: es) (rA T fs)) (hdb : (x == ("__debug__" : Str)) = false := by decide)
    (he : starEach (e :: es) X.env = (false, eval e X.env) :: starEach es X.env := by rfl) (hpl : (backTo pos (starEach es X.env)).any (·.1) = false := by rfl) : PE X (.Call (.Name x p) (e :: es) [] pos) (rE T (eN (gF ps.length F) fs)) := toE (pe_g c hr hg gl ha hdb he hpl) (sim_g sA)
theorem jkNil : PK X [] (rA T aNil) := toK pk_nil sim_nil
theorem jkCons {kws : List Keyword} {nm : Option Str} {kpos : Pos} (ha : PE X e (rE T fa)) (hr : PK X kws (rA T fs)) : PK X (⟨nm, e, kpos⟩ :: kws) (rA T (aCons fa fs)) := toK (pk_cons ha hr) (sim_cons sE sA)
theorem jCallK {k : Nat} {x : Str} {ps : List Str} {F : List Dt → Sto → Option (Dt × Sto)} {p : Pos} {kws : List Keyword} {q : List Nat} (c : GCal X.prog X.w X.K X.mg X.base k x ps (SpF T ps.length F)) (hr : Room k X.A) (hg : X.A.guards = some []) (gl : Gl X x) (hk : PK X kws (rA T fs)) (hq : q.Perm (List.range ps.length)) (hdb : (x == ("__debug__" : Str)) = false := by decide)
    (hall : (backToKw pos (keywordEach kws X.env)).all (·.1.isSome) = true := by rfl) (hks : (backToKw pos (keywordEach kws X.env)).filterMap (·.1) = q.map fun i => ps.getD i "" := by rfl)
    (hpl : ((backTo pos (starEach [] X.env)).any (·.1) || (backToKw pos (keywordEach kws X.env)).any (·.1.isNone)) = false := by rfl) : PE X (.Call (.Name x p) [] kws pos) (rE T (eN (gFk ps.length q F) fs)) := toE (pe_gk c hr hg gl hk hq hdb hall hks hpl) (sim_gk sA hq)
theorem jIx (hu : X.A.units + 64 < cLine) (ha : PE X a (rE T fa)) (hb : PE X b (rE T fb)) (hs : PlainIx b := by intro _ _; rfl) : PE X (.Subscript a b pos) (rE T (eOp2 gIx fa fb)) := toE (pe_ix (ix_A hu) ha hb hs) (sim_op sE sE vo_Ix)
theorem joNone : PO X none (rO T oNo) := toO po_none sim_oNo
theorem joSome (h : PE X e (rE T fa)) : PO X (some e) (rO T (oE fa)) := toO (po_some h) (sim_oE sE)
theorem jSl {lo hi : Option Expr} {fl fh : SO} {p2 : Pos} (he : PE X e (rE T fa)) (hl : PO X lo (rO T fl)) (hh : PO X hi (rO T fh)) : PE X (.Subscript e (.Slice lo hi none p2) pos) (rE T (eSl fa fl fh)) := toE (pe_slice sl_any he hl hh) (sim_sl sE sO sO)
theorem jLstV (h : PA X es (rA T fs)) : PE X (.List es pos) (rE T (toV (small fs))) := toE (pe_lst h) (sim_lstV sA)
theorem jLstR (h : PA X es (rA T fs)) : PE X (.List es pos) (rE T (toR (small fs))) := toE (pe_lst h) (sim_lstR sA)
theorem jTup {x1 : Nat} (h : PA X es (rA T fs)) : PE X (.Tuple es x1 pos) (rE T (toT fs)) := toE (pe_tup h) (sim_tup sA)
theorem jDR : PE X (.Dict [] [] pos) (rE T eDR) := toE pe_dnewK sim_dnewR
theorem jFrz (h : PE X e (rE T fa)) : PE X e (rE T (eFrz fa)) := toE h (sim_eFrz sE)
theorem jSS {p p2 q : Pos} (hc : X.calm = true) (hu : X.A.units + 64 < cLine) (hg : Gl X "sorted") (hm : X.mg "sorted" = none) (hg2 : Gl X "set") (hm2 : X.mg "set" = none) (ha : PE X a (rE T fa)) (he : starEach [a] X.env = (false, eval a X.env) :: starEach [] X.env := by rfl)
    (he2 : starEach [.Call (.Name "set" p2) [a] [] q] X.env = (false, eval (.Call (.Name "set" p2) [a] [] q) X.env) :: starEach [] X.env := by rfl) : PE X (.Call (.Name "sorted" p) [.Call (.Name "set" p2) [a] [] q] [] pos) (rE T (eN gSS (aCons fa aNil))) :=
  toE (pe_callB (cr_sortSS hc hu) hg hm boot_sorted (pa_cons (pe_callTy (cr_setS hc) hg2 hm2 boot_set (pa_cons ha pa_nil he) (by decide) (by decide) he rfl) pa_nil he2) (by decide) (by decide) he2 rfl) (sim_ss sE)
theorem jSortK {k : Nat} {c R : Addr} {p0 p1 p2 p3 p4 p5 p6 p7 p8 p9 : Pos} (TB : LamX.TabB X.base X.mg c R) (hcode : X.env.code = .ref c) (hmT : (R, X.env.qual ++ "<lambda>") ∈ T) (huT : ∀ p ∈ T, p.1 = R → p.2 = X.env.qual ++ "<lambda>")
    (hr : Room (k + 2) X.A) (hg : Gl X "sorted") (hm : X.mg "sorted" = none) (hml : X.mg "len" = none) (ha : PE X a (rE T fa)) (hs : starEach [a] X.env = (false, eval a X.env) :: starEach [] X.env := by rfl) :
    PE X (.Call (.Name "sorted" p6) [a] [{ arg := some "key", value := .Lambda (lamP p0) (lamB p1 p2 p3 p4 p5) lamSc p7, pos := p8 }] p9) (rE T (eSortK fa)) := toE (pe_sortK TB hcode hmT huT hr hg hm hml ha hs) (sim_sortK sE)
theorem jJoin {apos : Pos} (ho : PE X o (rE T fa)) (he : PE X e (rE T fb)) (hs : starEach [e] X.env = [(false, eval e X.env)] := by rfl) (hbase : attributeBase o "join" X.env (eval o X.env) = eval o X.env := by rfl) (hline : (apos.endLine == pos.line) = true := by rfl) :
    PE X (.Call (.Attribute o "join" apos) [e] [] pos) (rE T (eM1 gJoin fa fb)) := toE (pe_join ho he hs hbase hline) (sim_join sE sE)
theorem jApp {apos : Pos} (ho : PE X o (rE T fa)) (ha : PA X [e] (rA T fs))
    (hbase : attributeBase o "append" X.env (eval o X.env) = eval o X.env := by rfl)
    (hfew : ((backTo pos (starEach [e] X.env)).all (fun x => !x.1) && (backToKw pos (keywordEach [] X.env)).all (fun x => x.1.isSome) && decide ([e].length + ([] : List Keyword).length + (if ([] : List Keyword).isEmpty then 0 else 1) < 30)) = true := by rfl)
    (hline : (apos.endLine == pos.line) = true := by rfl) (hs : starEach [e] X.env = (false, eval e X.env) :: starEach [] X.env := by rfl) :
    PE X (.Call (.Attribute o "append" apos) [e] [] pos) (rE T (eM isL gApp fa fs)) := toE (pe_bm PySem.F.plainAttrs_list PySem.F.slot_list_append PySem.F.type_list_append mt_append ho ha hbase hfew hline hs rfl) (sim_bmL sE sA vo_append)
theorem jEnds {apos : Pos} (ho : PE X o (rE T fa)) (ha : PA X [e] (rA T fs))
    (hbase : attributeBase o "endswith" X.env (eval o X.env) = eval o X.env := by rfl)
    (hfew : ((backTo pos (starEach [e] X.env)).all (fun x => !x.1) && (backToKw pos (keywordEach [] X.env)).all (fun x => x.1.isSome) && decide ([e].length + ([] : List Keyword).length + (if ([] : List Keyword).isEmpty then 0 else 1) < 30)) = true := by rfl)
    (hline : (apos.endLine == pos.line) = true := by rfl) (hs : starEach [e] X.env = (false, eval e X.env) :: starEach [] X.env := by rfl) :
    PE X (.Call (.Attribute o "endswith" apos) [e] [] pos) (rE T (eM isS gEnds fa fs)) := toE (pe_bm PySem.F.plainAttrs_str PySem.F.slot_str_endswith PySem.F.type_str_endswith mt_endswith ho ha hbase hfew hline hs rfl) (sim_bmS sE sA vo_ends)
/-! what is walked -/
theorem jiL {tg : Expr} (h : PE X e (rE T fa)) : PI X tg e (rI T (iE itL fa)) := toI (pi_list h) (sim_iL sE)
theorem jiS {tg : Expr} (h : PE X e (rE T fa)) : PI X tg e (rI T (iE itS fa)) := toI (pi_str h) (sim_iS sE)
theorem jiR1 {tg : Expr} {p : Pos} (hg : Gl X "range") (hm : X.mg "range" = none) (ha : PA X [a] (rA T fs)) (hs : starEach [a] X.env = [(false, eval a X.env)] := by rfl) : PI X tg (.Call (.Name "range" p) [a] [] pos) (rI T (iR rg1 fs)) := toI (pi_range1 hg hm ha hs) (sim_rg1 sA)
theorem jiR2 {tg : Expr} {p : Pos} (hg : Gl X "range") (hm : X.mg "range" = none) (ha : PA X [a, b] (rA T fs)) (hs : starEach [a, b] X.env = [(false, eval a X.env), (false, eval b X.env)] := by rfl) (hs2 : starEach [b] X.env = [(false, eval b X.env)] := by rfl) :
    PI X tg (.Call (.Name "range" p) [a, b] [] pos) (rI T (iR rg2 fs)) := toI (pi_range2 hg hm ha hs hs2) (sim_rg2 sA)
theorem jiEn {p tpos : Pos} {elts : List Expr} {kk : Nat} (hg : Gl X "enumerate") (hm : X.mg "enumerate" = none) (ha : PA X [e] (rA T fs)) (hs : starEach [e] X.env = [(false, eval e X.env)] := by rfl) :
    PI X (.Tuple elts kk tpos) (.Call (.Name "enumerate" p) [e] [] pos) (rI T (iR en fs)) := toI (pi_enum hg hm ha hs) (sim_enum sA)
/-! comprehensions -/
abbrev blkX (X : Cx) (scope : Scope) (s : Shared) (H : Hp) (C : Addr) (cl : List (Str × Addr)) (fp : List Addr) : Cx := X.blk s H scope (compEnvC scope cl C X.env) fp
theorem jLcV {elt tg iter : Expr} {ifs : List Expr} {scope : Scope} {own : List (Str × Nat)} {g : TG} {k : SG} {fi : SA} {is : List Nat} (hc : X.calm = true) (hN : X.N.Nodup) (hk : SimG T is g k) (hi : PI X tg iter (rI T fi)) (ok : BlkOk X.N X.env.scope scope own)
    (hg : ∀ s H C cl fp, PG (blkX X scope s H C cl fp) tg g) (ht : ∀ s H C cl fp, PTs (blkX X scope s H C cl fp) ifs (rT T ga)) (he : ∀ s H C cl fp, PE (blkX X scope s H C cl fp) elt (rE T fa)) (hz : ∀ i ∈ is, i ∈ own.map (·.2)) (hs : ∀ x, foldedSetIterable iter X.env x = pure x := by intro _; rfl) :
    PE X (.ListComp elt [⟨tg, iter, ifs, 0⟩] scope pos) (rE T (toV (lc fi (own.map (·.2)) k ga fa))) := toE (pe_lc hc hN hi ok hg ht he hs) (sim_lcV sI hk sT sE hz)
theorem jDcV {kx vx tg iter : Expr} {ifs : List Expr} {scope : Scope} {own : List (Str × Nat)} {g : TG} {k : SG} {fi : SA} {is : List Nat} (hc : X.calm = true) (hN : X.N.Nodup) (hk : SimG T is g k) (hi : PI X tg iter (rI T fi)) (ok : BlkOk X.N X.env.scope scope own)
    (hg : ∀ s H C cl fp, PG (blkX X scope s H C cl fp) tg g) (ht : ∀ s H C cl fp, PTs (blkX X scope s H C cl fp) ifs (rT T ga)) (hkx : ∀ s H C cl fp, PE (blkX X scope s H C cl fp) kx (rE T fa)) (hvx : ∀ s H C cl fp, PE (blkX X scope s H C cl fp) vx (rE T fb)) (hz : ∀ i ∈ is, i ∈ own.map (·.2)) (hs : ∀ x, foldedSetIterable iter X.env x = pure x := by intro _; rfl) :
    PE X (.DictComp kx vx [⟨tg, iter, ifs, 0⟩] scope pos) (rE T (dToV (dc fi (own.map (·.2)) k ga fa fb))) := toE (pe_dc hc hN hi ok hg ht hkx hvx hs) (sim_dcV sI hk sT sE sE hz)
/-! statements -/
variable {st : Stmt} {ss : List Stmt} {g k : SS}
theorem jsOne (h : PS X st (rS T g)) : PSs X [st] (rS T g) := pss_one h
theorem jsNil : PSs X [] (rS T sNx) := toSs pss_nil sim_nx
theorem jsCons (h1 : PS X st (rS T g)) (h2 : PSs X ss (rS T k)) : PSs X (st :: ss) (rS T (sSeq g k)) := toSs (pss_cons h1 h2) (sim_seq sS sS)
theorem jsFrz {i : Nat} (h : PSs X ss (rS T g)) : PSs X ss (rS T (sSeq (sFrz i) g)) := toSs h (sim_frz sS)
theorem jsNo : PSs X ss (rS T sNo) := toSs pss_never sim_never
theorem jsSet {i : Nat} {x : Str} {pos' : Pos} (hN : X.N.Nodup) (he : PE X e (rE T fa)) (hi : X.N[i]? = some x := by rfl) (hx : Loc X.env.scope x := by first | exact Or.inl rfl | exact Or.inr rfl) (hs : swapsWith e (some (.Name x pos')) pos.line X.env = pure false := by rfl) (hf : X.fn x = true ∨ X.env.scope.names.lookup x = some .local := by first | exact .inl rfl | exact .inr rfl) :
    PS X (.Assign [.Name x pos'] e pos) (rS T (sSet i fa)) := toS (ps_set hN hi hx he hs hf) (sim_set sE)
theorem jsSetLc {i : Nat} {y : Str} {py lpos : Pos} {elt tg iter : Expr} {ifs : List Expr} {scope : Scope} {own : List (Str × Nat)} {g : TG} {k : SG} {fi : SA} {is : List Nat} (hc : X.calm = true) (hN : X.N.Nodup) (hk : SimG T is g k)
    (hsw : swapsWith (.ListComp elt [⟨tg, iter, ifs, 0⟩] scope lpos) (some (.Name y py)) pos.line X.env = pure true) (hi : PI X tg iter (rI T fi)) (ok : BlkOk X.N X.env.scope scope own)
    (hg : ∀ s H C cl fp, PG (blkX X scope s H C cl fp) tg g) (ht : ∀ s H C cl fp, PTs (blkX X scope s H C cl fp) ifs (rT T ga)) (he : ∀ s H C cl fp, PE (blkX X scope s H C cl fp) elt (rE T fa)) (hz : ∀ i ∈ is, i ∈ own.map (·.2)) (hy : X.N[i]? = some y := by rfl) (hyl : X.env.scope.names.lookup y = some .local := by rfl) (hs : ∀ x, foldedSetIterable iter X.env x = pure x := by intro _; rfl) :
    PS X (.Assign [.Name y py] (.ListComp elt [⟨tg, iter, ifs, 0⟩] scope lpos) pos) (rS T (sSet i (toV (lc fi (own.map (·.2)) k ga fa)))) := toS (ps_setLc hc hN hy hyl hsw hi ok hg ht he hs) (sim_set (sim_lcV sI hk sT sE hz))
theorem jsRet (he : PE X e (rE T fa)) : PS X (.Return (some e) pos) (rS T (sRet fa)) := toS (ps_ret he) (sim_ret sE)
theorem jsRetN : PS X (.Return none pos) (rS T sRetN) := toS ps_retN sim_retN
theorem jsEx (he : PE X e (rE T fa)) (hs : swapsWith e none pos.line X.env = pure false := by rfl) : PS X (.Expr e pos) (rS T (sEx fa)) := toS (ps_expr he hs) (sim_ex sE)
theorem jsIf {p q : List Stmt} (hc : PT X c (rT T ga)) (ha : PSs X p (rS T g)) (hb : PSs X q (rS T k)) : PS X (.If c p q pos) (rS T (sIf ga g k)) := toS (ps_if hc ha hb) (sim_ifS sT sS sS)
theorem jsFor {tg iter : Expr} {body : List Stmt} {tgt : TG} {kt : SG} {fi : SA} {is : List Nat} (hp : PassesOwn (model X.prog X.w) X.A X.env X.xe) (hc : X.calm = true) (hk : SimG T is tgt kt) (hi : PI X tg iter (rI T fi)) (hg : PG X tg tgt) (hb : PSs X body (rS T g)) (hs : ∀ x, foldedSetIterable iter X.env x = pure x := by intro _; rfl) :
    PS X (.For tg iter body [] pos) (rS T (sFor fi kt g)) := toS (ps_for hp hc hi hg hb hs) (sim_for sI hk sS)
theorem jsDP {value i : Expr} {pos' : Pos} (hu : X.A.units + 64 < cLine) (ho : PE X o (rE T fa)) (hi : PE X i (rE T fb)) (hv : PE X value (rE T fc)) (hs : swapsWith value (some (.Subscript o i pos')) pos.line X.env = pure false := by rfl) : PS X (.Assign [.Subscript o i pos'] value pos) (rS T (sDP fa fb fc)) :=
  toS (ps_dput (by omega) ho hi hv hs) (sim_dput sE sE sE)
/-- xs[i] = v of a live list -/
def sLP (fd fk fv : SE) : SS := fun r st => (fv r st).bind fun x => (fd r x.2).bind fun y => (fk r y.2).bind fun z => match y.1, z.1 with
  | .ref i, .int k => (match z.2[i]? with
    | some (some (.lst ds)) => (ixN ds.length k).map fun j => .nx r (z.2.set i (some (.lst (ds.set j x.1))))
    | _ => none)
  | _, _ => none
theorem sim_lput {td ty tv : TE} {fd fk fv : SE} (hd : SimE T td fd) (hk : SimE T ty fk) (hv : SimE T tv fv) : SimS T (tAsg tv (gSub td ty rSetL)) (sLP fd fk fv) := by
  intro Z L st H s r o D w e h q
  obtain ⟨⟨dv, st1⟩, h1, h⟩ := bind_some' h
  obtain ⟨⟨dd, st2⟩, h2, h⟩ := bind_some' h
  obtain ⟨⟨dk, st3⟩, h3, h⟩ := bind_some' h
  refine hv Z L st H s r dv st1 _ w e h1 fun v H1 L1 f1 p1 => ?_
  refine hd Z L1 st1 H1 s r dd st2 _ f1.wd (e.keep f1) h2 fun x H2 L2 f2 p2 => ?_
  refine hk Z L2 st2 H2 s r dk st3 _ f2.wd ((e.keep f1).keep f2) h3 fun y H3 L3 f3 p3 => ?_
  dsimp only at h
  split at h
  · rename_i i k _
    split at h
    · rename_i ds hi
      obtain ⟨j, e1, e2⟩ := Option.map_eq_some_iff.mp h
      cases e2
      have p2' := p2.keep f3
      unfold Den at p2'
      obtain ⟨a, ia, rfl⟩ := p2'
      obtain ⟨nz, oo, eo, vs, rfl, t⟩ := f3.wd.own i a _ ia hi
      refine ⟨a, vs, k, j, rfl, den_int p3, eo, by rw [← t.len]; exact e1, ?_⟩
      have af := Afz.wr (o := .lst (vs.set j v)) (d' := .lst (ds.set j dv)) f3.wd ia hi ⟨_, rfl, t.set ((p1.keep f2).keep f3) j⟩
      exact q s _ L3 (f1.trans (f2.trans (f3.trans af))) ((((e.keep f1).keep f2).keep f3).keep af)
    · cases h
  · cases h
theorem jsLP {value i : Expr} {pos' : Pos} (ho : PE X o (rE T fa)) (hi : PE X i (rE T fb)) (hv : PE X value (rE T fc))
    (ha : ∀ v, assign (.Subscript o i pos') X.env v = (do
      let ov ← holding [v] (eval o X.env)
      let iv ← holding [v, ov] (eval i X.env)
      standAt pos'
      holding [v, ov, iv] (setItem ov iv v)
      release [v, ov, iv] []) := by intro _; rfl)
    (hs : swapsWithSole [.Subscript o i pos'] value pos.line X.env = pure false := by rfl) (hw : swappedStores [.Subscript o i pos'] value X.env = pure none := by rfl) (h1 : (assignEach [.Subscript o i pos'] X.env).map (·.2) = [assign (.Subscript o i pos') X.env] := by rfl) :
    PS X (.Assign [.Subscript o i pos'] value pos) (rS T (sLP fa fb fc)) := toS (ps_asg hv (pg_sub ho hi set_list ha) hs hw h1) (sim_lput sE sE sE)
end
end HB

set_option Elab.async false
set_option linter.all false
set_option maxRecDepth 100000
set_option maxHeartbeats 1000000
/-! HB, part q: defs by their derivations; the law's def; the head's hook with tables of code objects. -/
namespace HB
open PySem PySem.Spec PyProof.Rows L2

/-! ### calls by position alone -/
structure GP (P : Program) (w : World) (K : PySem.W.Frag) (mg : Str → Option Value) (base : Heap) (k : Nat) (x : Str) (ps : List Str) (sp : Sp) : Prop where
  ex : ∃ (f : Addr) (fd : FuncData), mg x = some (.ref f) ∧ PySem.W.keepIn K (.ref f) = true ∧ GFn P w K mg base k f fd ps sp ∧ ∀ (s : Shared) (us : List Value), us.length = ps.length → BindsTo s fd ⟨us, []⟩ (ps.zip us)
theorem jCallP {T : List (Addr × Str)} {X : Cx} {e : Expr} {es : List Expr} {fs : SA} {pos p : Pos} {k : Nat} {x : Str} {ps : List Str} {F : List Dt → Sto → Option (Dt × Sto)} (c : GP X.prog X.w X.K X.mg X.base k x ps (SpF T ps.length F)) (hr : Room k X.A) (hg : X.A.guards = some []) (gl : Gl X x) (ha : PA X (e :: es) (rA T fs)) (hdb : (x == ("__debug__" : Str)) = false := by decide)
    (he : starEach (e :: es) X.env = (false, eval e X.env) :: starEach es X.env := by rfl) (hpl : (backTo pos (starEach es X.env)).any (·.1) = false := by rfl) : PE X (.Call (.Name x p) (e :: es) [] pos) (rE T (eN (gF ps.length F) fs)) := by
  obtain ⟨f, fd, hm, hk, G, hb⟩ := c.ex
  have z : PE X (.Call (.Name x p) (e :: es) [] pos) (tG ps.length (SpF T ps.length F) (rA T fs)) := by
    constructor
    intro pins s s1 H Q I h
    refine wpAny_Call_Name_kw (ld_glob I gl hm ?_ hdb)
    refine PySem.W.callWith_K (h₀ := X.base) I.ok.mod.kin hk (thn (ha.run pos pins s s1 H _ I h) fun us s2 ⟨vs, H1, I1, r, hl, q⟩ => ⟨I1.kIn, ?_⟩) he hpl
    have hl' : us.length = ps.length := by rw [← r.length]; exact hl
    exact run_g G hr hg (hb s2 us hl') hl' I1 r q
  exact toE z (sim_g sA)
section
variable {T : List (Addr × Str)} {P : Program} {w : World} {K : PySem.W.Frag} {mg : Str → Option Value} {base : Heap} {x : Str} {args : Arguments} {body : List Stmt} {sc : Scope} {f : Addr} {fd : FuncData} {N ps : List Str} {k : Nat}
/-- a def by its derivation -/
theorem gfnJ {g : SS} (F : FunD K x x args body sc [] [] f fd) (S : FnScope N ps sc)
    (hb : ∀ A outer s H, Room k (gX P w K mg base N x sc f fd.code A outer s H).A → (gX P w K mg base N x sc f fd.code A outer s H).A.guards = some [] → PSs (gX P w K mg base N x sc f fd.code A outer s H) body (rS T g)) :
    GFn P w K mg base (k + 1) f fd ps (SpF T ps.length (bodyF g N.length)) := gfn F S hb sS
/-- a weaker promise -/
theorem GFn.weak {n : Nat} {F G : List Dt → Sto → Option (Dt × Sto)} (h : GFn P w K mg base k f fd ps (SpF T n F)) (hi : ∀ ds st x, G ds st = some x → F ds st = some x) : GFn P w K mg base k f fd ps (SpF T n G) := by
  refine h.imp fun vs H Q => ?_
  rintro ⟨Z, L, st, ds, d, st', hl, wd, dn, hF, q⟩
  exact ⟨Z, L, st, ds, d, st', hl, wd, dn, hi _ _ _ hF, q⟩
theorem liftV_mono {f g : List Dt → Option Dt} (h : ∀ ds d, f ds = some d → g ds = some d) (ds : List Dt) (st : Sto) (x : Dt × Sto) (e : liftV f ds st = some x) : liftV g ds st = some x := by
  unfold liftV at e ⊢
  split at e
  · rename_i hn
    obtain ⟨d, e1, e2⟩ := Option.map_eq_some_iff.mp e
    rw [if_pos hn, h ds d e1]
    exact congrArg some e2
  · cases e
theorem liftR_mono {f g : List Dt → Option Dt} (h : ∀ ds d, f ds = some d → g ds = some d) (ds : List Dt) (st : Sto) (x : Dt × Sto) (e : liftR f ds st = some x) : liftR g ds st = some x := by
  unfold liftR at e ⊢
  split at e
  · rename_i hn
    obtain ⟨d, e1, e2⟩ := Option.map_eq_some_iff.mp e
    rw [if_pos hn, h ds d e1]
    exact congrArg some e2
  · cases e
theorem liftE_mono {f g : Dt → List Dt → Option (Dt × Dt)} (h : ∀ c ds d, f c ds = some d → g c ds = some d) (ds : List Dt) (st : Sto) (x : Dt × Sto) (e : liftE f ds st = some x) : liftE g ds st = some x := by
  unfold liftE at e ⊢
  split at e
  · split at e
    · rename_i hn
      rw [if_pos hn]
      split at e
      · rename_i c hc
        split at e
        · rename_i hn2
          obtain ⟨d, e1, e2⟩ := Option.map_eq_some_iff.mp e
          simp only [hc, if_pos hn2, h _ _ d e1]
          exact congrArg some e2
        · cases e
      · cases e
    · cases e
  · cases e
theorem GFn.byV {n : Nat} {F : List Dt → Sto → Option (Dt × Sto)} {m : List Dt → Option Dt} (h : GFn P w K mg base k f fd ps (SpF T n F)) (hi : ∀ ds d, m ds = some d → fV F ds = some d) : GFn P w K mg base k f fd ps (SpF T n (liftV m)) := (gfn_V h).weak (liftV_mono hi)
theorem GFn.byR {n : Nat} {F : List Dt → Sto → Option (Dt × Sto)} {m : List Dt → Option Dt} (h : GFn P w K mg base k f fd ps (SpF T n F)) (hi : ∀ ds d, m ds = some d → fR F ds = some d) : GFn P w K mg base k f fd ps (SpF T n (liftR m)) := (gfn_R h).weak (liftR_mono hi)
theorem GFn.byE {n : Nat} {F : List Dt → Sto → Option (Dt × Sto)} {m : Dt → List Dt → Option (Dt × Dt)} (h : GFn P w K mg base k f fd ps (SpF T n F)) (hi : ∀ c ds d, m c ds = some d → fE F c ds = some d) : GFn P w K mg base k f fd ps (SpF T n (liftE m)) := (gfn_E h).weak (liftE_mono hi)
theorem GP.of {sp : Sp} (F : FunD K x x args body sc [] [] f fd) (hm : mg x = some (.ref f)) (G : GFn P w K mg base k f fd ps sp)
    (h : ∀ (kV doc pm : Value) (an : Option Addr) (cdv ct : Value) (us : List Value), us.length = ps.length → bindArgs (PySem.W.fnOf x x args body sc .none kV doc pm an cdv ct) ⟨us, []⟩ = pure (ps.zip us)) : GP P w K mg base k x ps sp :=
  ⟨f, fd, hm, F.kp, G, fun s us hl => FunD.bindsA F h s us hl⟩
theorem perm_one {p : List Nat} (h : p.Perm [0]) : p = [0] := List.perm_singleton.mp h
theorem perm_two {p : List Nat} (h : p.Perm [0, 1]) : p = [0, 1] ∨ p = [1, 0] := by
  have hl := h.length_eq
  match p, hl with
  | [a, b], _ =>
    have nd : [a, b].Nodup := h.nodup_iff.mpr (by decide)
    have ha : a ∈ [0, 1] := h.mem_iff.mp (by simp)
    have hb : b ∈ [0, 1] := h.mem_iff.mp (by simp)
    simp at nd ha hb
    rcases ha with rfl | rfl <;> rcases hb with rfl | rfl <;> first | exact absurd rfl nd | simp
theorem GCal.of {sp : Sp} (F : FunD K x x args body sc [] [] f fd) (hm : mg x = some (.ref f)) (G : GFn P w K mg base k f fd ps sp)
    (h : ∀ (kV doc pm : Value) (an : Option Addr) (cdv ct : Value) (us : List Value), us.length = ps.length → bindArgs (PySem.W.fnOf x x args body sc .none kV doc pm an cdv ct) ⟨us, []⟩ = pure (ps.zip us))
    (h2 : ∀ (kV doc pm : Value) (an : Option Addr) (cdv ct : Value) (p : List Nat) (ws : List Value), ws.length = ps.length → p.Perm (List.range ps.length) → bindArgs (PySem.W.fnOf x x args body sc .none kV doc pm an cdv ct) ⟨[], (p.map fun i => ps.getD i "").zip (p.map fun i => ws.getD i .none)⟩ = pure (ps.zip ws)) : GCal P w K mg base k x ps sp := by
  refine ⟨f, fd, hm, F.kp, G, fun s us hl => FunD.bindsA F h s us hl, fun s p ws hl hp => ?_⟩
  obtain ⟨oc, od, dV, kV, doc, pm, an, cdv, ct, osl, rfl, lk, hcd, hD, hK⟩ := F.ex
  rcases hD with ⟨_, rfl⟩ | ⟨e, _⟩
  · exact .of_eq (h2 kV doc pm an cdv ct p ws hl hp)
  · exact absurd rfl e
/-! ### the law's def -/
/-- what is asked of the law's plain function: ns, the script's numbers -/
def SpL (T : List (Addr × Str)) (K : PySem.W.Frag) (ok : List Int → Prop) : Sp := fun vs H Q _ => ∃ (a : Addr) (ns : List Int), vs = [.ref a] ∧ LamX.Tabs T H ∧ SqL K H a (ns.map V.int) ∧ ok ns ∧ ∀ H', Q (.bl true) H'
/-- the script's first numbers -/
def eScr (n : Int) (ns : List Int) : SE := fun _ st => some (.lst (cutL (ns.map Dt.int) none (some n)), st)
theorem dens_ints {L : List Addr} {B : Addr → Prop} {H : Hp} : ∀ xs : List Int, Dens L B H (xs.map Dt.int) (xs.map V.int)
  | [] => .nil
  | _ :: xs => .cons Den.int (dens_ints xs)
theorem gfnL {g : List Int → SS} {ok : List Int → Prop} {n : Int} {t : TE → TS} (F : FunD K x x args body sc [] [] f fd) (S : FnScope N ["_law_script"] sc)
    (hb : ∀ A outer s H, Room k (gX P w K mg base N x sc f fd.code A outer s H).A → (gX P w K mg base N x sc f fd.code A outer s H).A.guards = some [] → PSs (gX P w K mg base N x sc f fd.code A outer s H) body (t (tSl (rSlA K) (tVar 0) tNoPart (tPart (tC (.int n))))))
    (hs : ∀ ns te Z L st H s r o D, Wd T Z L st H → EnvOk L (Bad Z L st) H r s → EAt T Z L st H s r te (eScr n ns) → g ns r st = some o → OuOk T Z L st H D o → t te D s H)
    (hok : ∀ ns, ok ns → ∃ st', g ns (List.replicate N.length none) [] = some (.rt (.bl true) st')) :
    GFn P w K mg base (k + 1) f fd ["_law_script"] (SpL T K ok) := by
  obtain ⟨oc, od, dV, kV, doc, pm, an, cdv, ct, osl, rfl, lk, hcd, _, _⟩ := F.ex
  constructor
  intro A outer s H binds us vs Q hr hg e0 hbt hlu rv hsp
  obtain ⟨a, ns, rfl, tabs, hS, hk, q⟩ := hsp
  have keeps : ∀ b o, base.get? b = some o → s.heap.get? b = some o := fun b o e => (e0.bs b o e).1
  have inK : K.In s.heap := e0.mod.kin.keeps keeps
  have places : ∀ y ∈ (["_law_script"] : List Str).zip us, sc.names.lookup y.1 = some .local ∨ (sc.names.lookup y.1 = some .cell ∧ ((cellsFrom (s.heap.objs.size + 1) sc.names []).lookup y.1).isSome = true) := by
    intro y hy
    cases S.par y.1 (List.of_mem_zip (a := y.1) (b := y.2) hy).1 with
    | inl z => exact .inl z
    | inr z => exact .inr ⟨z, PySem.W.cellsFrom_some _ _ _ (.inl z)⟩
  refine codeAny_call_function hr.depth (inK _ _ lk) rfl S.co S.gen rfl (PySem.W.codeRec_of inK hcd) (hbt _ _ _ _ ?_)
  refine wpAny_newFunctionEnv_cells S.kind places fun env he s1 ic => ?_
  subst he
  refine ⟨(e0.mod.nolimit.keeps keeps).keeps ic.toInCall.keep, codeAny_func ?_⟩
  have I : Inv (cxOf CX0 P w K mg base N x sc f cdv A outer s H E0) [] (L2.start N [.ref a]) H s1 := inv_start S hr.hd e0 rfl rv ic
  have ht := hb A outer s H (hr.deeper _) hg
  obtain ⟨st', a1⟩ := hok ns hk
  have hN : 1 ≤ N.length := by
    have := congrArg List.length S.pre
    rw [List.length_take] at this
    simp at this
    omega
  have w0 : Wd T (fun _ => False) [] [] H := ⟨tabs, rfl, fun i j b d e h => by simp at h, fun i b d h => by simp at h, fun b z => z.elim⟩
  have ev : EnvOk [] (Bad (fun _ => False) [] []) H (List.replicate N.length none) (L2.start N [.ref a]) := by
    refine ⟨by unfold L2.start; simp; omega, fun i d e => ?_⟩
    rw [List.getElem?_replicate] at e
    split at e <;> cases e
  have reading : t (tSl (rSlA K) (tVar 0) tNoPart (tPart (tC (.int n)))) { nx := fun _ H' => Q .non H', rt := Q } (L2.start N [.ref a]) H := by
    refine hs ns _ _ _ _ _ _ _ _ _ w0 ev (fun d st2 Q2 hd q2 => ?_) a1 fun v H' L' f p => ?_
    · cases hd
      refine ⟨.ref a, rfl, n, rfl, .inl ⟨a, ns.map V.int, rfl, hS, fun p np => ?_⟩⟩
      refine q2 _ _ [] (.new w0 np) (.newL w0 np ?_)
      show Dens _ _ _ (cutL (ns.map Dt.int) none (some n)) (cutV (ns.map V.int) none (some n))
      unfold cutL cutV
      rw [List.length_map, List.length_map]
      exact ((dens_ints ns).drop _).take _
    · rw [den_bl p]; exact q H'
  refine wpAny_mono (ht.nox.run [] s1 _ H _ I reading) (fun fl s2 hq => ?_) fun _ _ hx => hx
  match fl, hq with
  | .ret u, ⟨v, _, H', J, rv', qv⟩ => exact ⟨v, H', J.os, J.bare, J.base, J.hok, rv', qv⟩
  | .next, ⟨_, H', J, qv⟩ => exact ⟨.non, H', J.os, J.bare, J.base, J.hok, rfl, qv⟩
  | .brk, ⟨_, _, _, qv⟩ => exact False.elim qv
  | .cont, ⟨_, _, _, qv⟩ => exact False.elim qv
end
end HB

set_option Elab.async false
set_option linter.all false
set_option maxRecDepth 100000
set_option maxHeartbeats 1000000
/-! HB, part r: the head's hook with tables of code objects; the end over it. -/
namespace HB
open PySem PySem.Spec PyProof.Rows L2

def tabAt (g : Addr → Option Obj) (R : Addr) : Bool := match g R with
  | some ⟨.none, none, .fields ps, sl⟩ => decide (ps.size = 0) && decide (sl.size = 0)
  | _ => false
def isStrV : Value → Bool
  | .str _ _ => true
  | _ => false
def isIntV : Value → Bool
  | .int _ _ => true
  | _ => false
def isBoolV : Value → Bool
  | .bool _ => true
  | _ => false
def hdOk (c R : Addr) (cls : Value) (vs : Array Value) : Bool :=
  decide (cls = .type "code") && (isStrV (vs.getD 18 .none) && (isIntV (vs.getD 7 .none) && (isBoolV (vs.getD 9 .none) && (isIntV (vs.getD 10 .none) && decide (c ≠ R)))))
def tabOk (g : Addr → Option Obj) (K : PySem.W.Frag) (x : Str) : Bool := match K.lookup (He.ga K x) with
  | some ⟨_, _, .func fd, _⟩ => (match fd.code with
    | .ref c => (match g c with
      | some ⟨cls, _, .fields vs, _⟩ => (match (vs[11]? : Option Value) with
        | some (.ref R) => (K.lookup R).isNone && (tabAt g R && hdOk c R cls vs)
        | _ => false)
      | _ => false)
    | _ => false)
  | _ => false
/-- the def x makes lambdas: c its code object, R the table -/
structure TabD (K : PySem.W.Frag) (h : Heap) (x : Str) (c R : Addr) : Prop where
  fn : ∃ oc od fd osl, K.lookup (He.ga K x) = some ⟨oc, od, .func fd, osl⟩ ∧ fd.code = .ref c
  no : K.lookup R = none
  tab : h.get? R = some tabO
  hd : PySem.W.CodeHd h c R
theorem tabAt_ok {h : Heap} {R : Addr} (e : tabAt h.get? R = true) : h.get? R = some tabO := by
  unfold tabAt at e
  split at e
  · rename_i ps sl q
    rw [Bool.and_eq_true, decide_eq_true_eq, decide_eq_true_eq] at e
    rw [q, Array.size_eq_zero_iff.mp e.1, Array.size_eq_zero_iff.mp e.2]
  · cases e
theorem str_of {v : Value} (h : isStrV v = true) : ∃ x t, v = .str x t := by
  cases v <;> first | exact ⟨_, _, rfl⟩ | cases h
theorem int_of {v : Value} (h : isIntV v = true) : ∃ x t, v = .int x t := by
  cases v <;> first | exact ⟨_, _, rfl⟩ | cases h
theorem bool_of {v : Value} (h : isBoolV v = true) : ∃ x, v = .bool x := by
  cases v <;> first | exact ⟨_, rfl⟩ | cases h
theorem tabOk_ok {h : Heap} {K : PySem.W.Frag} {x : Str} (e : tabOk h.get? K x = true) : ∃ c R, TabD K h x c R := by
  unfold tabOk at e
  split at e
  · rename_i oc od fd osl h1
    split at e
    · rename_i c h2
      split at e
      · rename_i cls od2 vs osl2 h3
        split at e
        · rename_i R h4
          simp only [Bool.and_eq_true] at e
          obtain ⟨e1, e2, e3⟩ := e
          unfold hdOk at e3
          simp only [Bool.and_eq_true, decide_eq_true_eq] at e3
          obtain ⟨a1, a2, a3, a4, a5, a6⟩ := e3
          obtain ⟨z1, t1, b1⟩ := str_of a2
          obtain ⟨z2, t2, b2⟩ := int_of a3
          obtain ⟨z3, b3⟩ := bool_of a4
          obtain ⟨z4, t4, b4⟩ := int_of a5
          refine ⟨c, R, ⟨oc, od, fd, osl, h1, h2⟩, Option.isNone_iff_eq_none.mp e1, tabAt_ok e2, _, vs, z1, t1, z2, t2, z3, z4, t4, h3, a1, rfl, h4, ?_, b1, b2, b3, b4, a6⟩
          rw [Array.getD_eq_getD_getElem?, h4]; rfl
        · cases e
      · cases e
    · cases e
  · cases e
def hookT (n : Nat) (fa : List He.Fa) (fn : List He.DefD) (ls : List Str) : PySem.W.Hook where
  α := He.AlD × Bool
  obs := fun s => (He.obsDG n fa fn s.heap.get?, ls.all (tabOk s.heap.get? (He.frG s.heap.get? (He.asD s.heap.get? n))))
  val := fun _ => (He.valD fn, true)
  says := fun _ h => ∃ K : PySem.W.Frag, K.In h ∧ He.SaysD fa fn K ∧ ∀ x ∈ ls, ∃ c R, TabD K h x c R
  of := fun _ s e => ⟨He.frG s.heap.get? (He.asD s.heap.get? n), He.frG_in, congrArg (fun z : He.AlD × Bool => z.1) e, fun x hx => tabOk_ok (List.all_eq_true.mp (congrArg (fun z : He.AlD × Bool => z.2) e) x hx)⟩
  keeps := fun _ _ _ ⟨K, hK, c, t⟩ k => ⟨K, PySem.W.Frag.In.keeps hK k, c, fun x hx => let ⟨a, R, d⟩ := t x hx; ⟨a, R, d.fn, d.no, k _ _ d.tab, d.hd.keeps k⟩⟩
def obT (n : Nat) (fa : List He.Fa) (fn : List He.DefD) (ls : List Str) (g : Addr → Option Obj) : He.AlD × Bool := (He.obsDG n fa fn g, ls.all (tabOk g (He.frG g (He.asD g n))))
theorem obT_eq {n : Nat} {fa : List He.Fa} {fn : List He.DefD} {ls : List Str} {g : Addr → Option Obj} {s : Shared} (h : ∀ a, g a = s.heap.get? a) : obT n fa fn ls g = (hookT n fa fn ls).obs s := by
  have e : g = s.heap.get? := funext h
  rw [e]; rfl
theorem walk_goE {l : PySem.W.OpenLaw} {n k : Nat} {q : Program} {loose : List Str} {XP : (Str → Option Value) → Heap → Prop} {YP : World → Heap → Prop} {d : DefRec} {x : Str}
    (hn : l.most = some n) (hn2 : n ≤ sizeLine) (hdf : d.params.defaults = []) (hr : Room k callerA)
    (F : ∀ (w : World) (mg : Str → Option Value) (fa : Addr) (h : Heap), YP w h → h.Ns mainGlobals mg → mg d.name = some (.ref fa) → ∃ K : PySem.W.Frag, K.In h ∧ LawAt l w K k n x mg fa h) :
    PySem.W.WalkO q loose XP YP l.row.toRowW d [] (fun f vs => PySem.call f vs) := by
  refine Att.attach_callB hn hdf fun w s₀ s₁ mg mb fa o pm cd doc a vs ns G Y ho hd hcd hmg hobj hints hlen hbits hg => ?_
  obtain ⟨K, KX, fd, cs, sp, hT, nT, C, hb, hsp, hF⟩ := F w mg fa _ Y G.T.g hmg
  exact law_go KX G.T.g G.T.b G.T.builtins G.T.nolimit hg hT nT C G.T.bmain hobj hints (Nat.le_trans hlen hn2) hr hF hb fun H hH hS => hsp H a ns hlen hbits hH hS
end HB

set_option Elab.async false
set_option linter.all false
set_option maxRecDepth 100000
set_option maxHeartbeats 1000000
/-! HB, part s: more of the rules, as the printed derivations use them. -/
namespace HB
open PySem PySem.Spec PyProof.Rows L2

abbrev cT : Int → Int → Bool := fun _ _ => true
def cMul (i j : Int) : Bool := decide ((-(2 ^ 64) < i ∧ i < 2 ^ 64) ∨ (-(2 ^ 64) < j ∧ j < 2 ^ 64))
def cDiv (_ j : Int) : Bool := decide (0 < j ∧ j < 1073741824)
def cMod (_ j : Int) : Bool := decide (0 < j)
def cPow (i j : Int) : Bool := decide (0 ≤ j ∧ (Builtin.Int.intBits i : Int) * j ≤ 2 ^ 27)
def gMin : Sto → Dt → Dt → Option (Dt × Sto) := gI cT fun i j => i - j
def gMul : Sto → Dt → Dt → Option (Dt × Sto) := gI cMul fun i j => i * j
def gDiv : Sto → Dt → Dt → Option (Dt × Sto) := gI cDiv fun i j => i / j
def gMod : Sto → Dt → Dt → Option (Dt × Sto) := gI cMod fun i j => i % j
def gPow : Sto → Dt → Dt → Option (Dt × Sto) := gI cPow fun i j => i ^ j.toNat
def gLt : Sto → Dt → Dt → Option (Dt × Sto) := gIb fun i j => decide (i < j)
def gGt : Sto → Dt → Dt → Option (Dt × Sto) := gIb fun i j => decide (j < i)
def gGe : Sto → Dt → Dt → Option (Dt × Sto) := gIb fun i j => decide (j ≤ i)
theorem cMul_ok {i j : Int} (h : cMul i j = true) : CMul i j := by unfold cMul at h; simp only [decide_eq_true_eq] at h; exact h
theorem cDiv_ok {i j : Int} (h : cDiv i j = true) : CDiv i j := by unfold cDiv at h; simp only [decide_eq_true_eq] at h; exact h
theorem cMod_ok {i j : Int} (h : cMod i j = true) : 0 < j := by unfold cMod at h; simp only [decide_eq_true_eq] at h; exact h
theorem cPow_ok {i j : Int} (h : cPow i j = true) : CPowW i j := by unfold cPow at h; simp only [decide_eq_true_eq] at h; exact h
section
variable {T : List (Addr × Str)} {X : Cx} {a b c e o : Expr} {es rest : List Expr} {fa fb fc : SE} {ga gb : ST} {fs : SA} {pos : Pos}
theorem jAdd (ha : PE X a (rE T fa)) (hb : PE X b (rE T fb)) : PE X (.BinOp a .Add b pos) (rE T (eOp2 gAdd fa fb)) := jOp op_Add vo_Add ha hb
theorem jMin (ha : PE X a (rE T fa)) (hb : PE X b (rE T fb)) : PE X (.BinOp a .Sub b pos) (rE T (eOp2 gMin fa fb)) := jOp op_sub vo_I0 ha hb
theorem jMul (ha : PE X a (rE T fa)) (hb : PE X b (rE T fb)) : PE X (.BinOp a .Mult b pos) (rE T (eOp2 gMul fa fb)) := jOp op_mul (vo_I fun i j h => cMul_ok h) ha hb
theorem jDiv (ha : PE X a (rE T fa)) (hb : PE X b (rE T fb)) : PE X (.BinOp a .FloorDiv b pos) (rE T (eOp2 gDiv fa fb)) := jOp op_fdiv (vo_I fun i j h => cDiv_ok h) ha hb
theorem jMod (ha : PE X a (rE T fa)) (hb : PE X b (rE T fb)) : PE X (.BinOp a .Mod b pos) (rE T (eOp2 gMod fa fb)) := jOp op_mod (vo_I fun i j h => cMod_ok h) ha hb
theorem jPow (ha : PE X a (rE T fa)) (hb : PE X b (rE T fb)) : PE X (.BinOp a .Pow b pos) (rE T (eOp2 gPow fa fb)) := jOp op_powW (vo_I fun i j h => cPow_ok h) ha hb
def eNeg (f : SE) : SE := fun r st => (f r st).bind fun x => match x.1 with
  | .int i => some (.int (-i), x.2)
  | _ => none
theorem jNeg (ha : PE X a (rE T fa)) : PE X (.UnaryOp .USub a pos) (rE T (eNeg fa)) := by
  refine toE (pe_un un_neg ha) fun Z L st H s r d st' Q w e h q => ?_
  obtain ⟨⟨dx, st1⟩, h1, h⟩ := bind_some' h
  refine sE Z L st H s r dx _ _ w e h1 fun x H1 L1 f1 p1 => ?_
  cases dx with
  | int i => cases h; exact ⟨i, den_int p1, q _ H1 L1 f1 Den.int⟩
  | _ => cases h
theorem vLt : VO2 T (rI0 fun i j => .bl (decide (i < j))) gLt := vo_Ib
theorem vGt : VO2 T (rI0 fun i j => .bl (decide (j < i))) gGt := vo_Ib
theorem vGe : VO2 T (rI0 fun i j => .bl (decide (j ≤ i))) gGe := vo_Ib
theorem jChain {op op' : CmpOp} {r r' : R2} {g g' : Sto → Dt → Dt → Option (Dt × Sto)} (ho : OpR X (compareOp op) r) (hv : VO2 T r g) (ho' : OpR X (compareOp op') r') (hv' : VO2 T r' g') (ha : PE X a (rE T fa)) (hb : PE X b (rE T fb)) (hc : PE X c (rE T fc))
    (hm : lastMarks [op, op'] [b, c] = false := by with_unfolding_all rfl) : PE X (.Compare a [op, op'] [b, c] pos) (rE T (eChain g g' fa fb fc)) := toE (pe_chain ho ho' ha hb hc hm) (sim_chain hv hv' sE sE sE)
theorem jtChain {op op' : CmpOp} {r r' : R2} {g g' : Sto → Dt → Dt → Option (Dt × Sto)} (ho : OpR X (compareOp op) r) (hv : VO2 T r g) (ho' : OpR X (compareOp op') r') (hv' : VO2 T r' g') (ha : PE X a (rE T fa)) (hb : PE X b (rE T fb)) (hc : PE X c (rE T fc))
    (hm : lastMarks [op, op'] [b, c] = false := by with_unfolding_all rfl) : PT X (.Compare a [op, op'] [b, c] pos) (rT T (cB (eChain g g' fa fb fc))) := toTT (pt_chain ho ho' ha hb hc hm) (sim_cBT (sim_chain hv hv' sE sE sE))
theorem jg (i : Nat) {x : Str} (hN : X.N.Nodup) (hi : X.N[i]? = some x := by rfl) (hx : Loc X.env.scope x := by first | exact Or.inl rfl | exact Or.inr rfl) (hf : X.fn x = true ∨ X.env.scope.names.lookup x = some .local := by first | exact .inl rfl | exact .inr rfl) : PG X (.Name x pos) (gName i) := pg_name hN hi hx hf
theorem sim_g2 {K : PySem.W.Frag} {i j : Nat} : SimG T [i, j] (gTup K 2 (gCons (gName i) (gCons (gName j) gNil))) (kTup (ksCons (kName i) (ksCons (kName j) ksNil))) := by
  refine sim_gtup (is := [i] ++ ([j] ++ [])) (sim_gcons sim_gname (sim_gcons sim_gname sim_gnil)) fun ds r r' h => ?_
  match ds, h with
  | [_, _], _ => rfl
  | [], h => cases h
  | [_], h => cases h
  | _ :: _ :: _ :: _, h => cases h
theorem jg2 {x y : Expr} {i j k : Nat} (hc : X.calm = true) (h1 : PG X x (gName i)) (h2 : PG X y (gName j)) (hs : (assignEach [x, y] X.env).map (·.2) = assign x X.env :: (assignEach [y] X.env).map (·.2) := by rfl) (hs2 : (assignEach [y] X.env).map (·.2) = assign y X.env :: (assignEach [] X.env).map (·.2) := by rfl)
    (hn : (assignEach [x, y] X.env).length = 2 := by rfl) (hst : (assignEach [x, y] X.env).findIdx? (·.1) = none := by rfl) : PG X (.Tuple [x, y] k pos) (gTup X.K 2 (gCons (gName i) (gCons (gName j) gNil))) := pg_tup hc (pgs_cons h1 (pgs_cons h2 pgs_nil hs2) hs) hn hst
theorem jLcR {elt tg iter : Expr} {ifs : List Expr} {scope : Scope} {own : List (Str × Nat)} {g : TG} {k : SG} {fi : SA} {is : List Nat} (hc : X.calm = true) (hN : X.N.Nodup) (hk : SimG T is g k) (hi : PI X tg iter (rI T fi)) (ok : BlkOk X.N X.env.scope scope own)
    (hg : ∀ s H C cl fp, PG (blkX X scope s H C cl fp) tg g) (ht : ∀ s H C cl fp, PTs (blkX X scope s H C cl fp) ifs (rT T ga)) (he : ∀ s H C cl fp, PE (blkX X scope s H C cl fp) elt (rE T fa)) (hz : ∀ i ∈ is, i ∈ own.map (·.2)) (hs : ∀ x, foldedSetIterable iter X.env x = pure x := by intro _; rfl) :
    PE X (.ListComp elt [⟨tg, iter, ifs, 0⟩] scope pos) (rE T (toR (lc fi (own.map (·.2)) k ga fa))) := toE (pe_lc hc hN hi ok hg ht he hs) (sim_lcR sI hk sT sE hz)
theorem jtNil : PTs X [] (rT T cYes) := toTs pts_nil sim_yes
theorem jtOne (h : PT X c (rT T ga)) : PTs X [c] (rT T ga) := pts_one h
end
end HB

set_option Elab.async false
set_option linter.all false
set_option maxRecDepth 100000
set_option maxHeartbeats 1000000
/-! HB, part t: the law's first statement. -/
namespace HB
open PySem PySem.Spec PyProof.Rows L2
section
variable {T : List (Addr × Str)} {K : PySem.W.Frag} {i j : Nat} {n : Int} {fz fd : SE} {gb gr : SS}
/-- for x in [f(y) for y in script[:n] + [0]]: .., the rest -/
def tLaw (T : List (Addr × Str)) (K : PySem.W.Frag) (i j : Nat) (fz fd : SE) (gb gr : SS) (te : TE) : TS :=
  tSeq (tFor (iList K (tLc (iList K (tOp rAdd te (rE T fz))) (gName j) tYes (rE T fd) [j])) (gName i) (rS T gb)) (rS T gr)
def gLaw (i j : Nat) (n : Int) (fz fd : SE) (gb gr : SS) (ns : List Int) : SS :=
  sSeq (sFor (iE itL (toV (lc (iE itL (eOp2 gAdd (eScr n ns) fz)) [j] (kName j) cYes fd))) (kName i) gb) gr
theorem law_first (ns : List Int) (te : TE) (Z : Addr → Prop) (L : List Addr) (st : Sto) (H : Hp) (s : L2.St) (r : Evr) (o : Ou) (D : Ends) (w : Wd T Z L st H) (e : EnvOk L (Bad Z L st) H r s) (hte : EAt T Z L st H s r te (eScr n ns))
    (h : gLaw i j n fz fd gb gr ns r st = some o) (q : OuOk T Z L st H D o) : tLaw T K i j fz fd gb gr te D s H := by
  obtain ⟨o1, h1, h2⟩ := bind_some' h
  refine for_run (at_iL (at_lcV (at_iL (at_op e hte sE vo_Add)) sim_gname sim_yes sE (by simp) w e)) sim_gname sS w e h1 ?_
  cases o1 with
  | nx r1 st1 =>
    intro s1 H1 L1 f1 e1
    refine sS Z L1 st1 H1 s1 r1 o _ f1.wd e1 h2 ?_
    cases o with
    | nx r2 st2 => exact fun s2 H2 L2 f2 e2 => q s2 H2 L2 (f1.trans f2) e2
    | rt d st2 => exact fun v H2 L2 f2 e2 => q v H2 L2 (f1.trans f2) e2
    | bk r2 st2 => exact fun s2 H2 L2 f2 e2 => q s2 H2 L2 (f1.trans f2) e2
    | ct r2 st2 => exact fun s2 H2 L2 f2 e2 => q s2 H2 L2 (f1.trans f2) e2
  | rt d st1 => cases h2; exact q
  | bk r1 st1 => cases h2; exact q
  | ct r1 st1 => cases h2; exact q
end
end HB

set_option Elab.async false
set_option linter.all false
set_option maxRecDepth 100000
set_option maxHeartbeats 1000000
/-! HB, part u: plain functions worked out, step by step. -/
namespace HB
open PySem PySem.Spec PyProof.Rows L2
section
variable {r r1 : Evr} {st st1 st2 st3 : Sto} {d x y z : Dt} {fa fb fc : SE} {ds : List Dt} {fs : SA} {ca cb : ST} {g k : SS} {o : Ou} {a b : Bool}
theorem v_var {i : Nat} (h : r[i]? = some (some d)) : eVar i r st = some (d, st) := by unfold eVar; rw [h]
theorem v_op {f : Sto → Dt → Dt → Option (Dt × Sto)} {q : Dt × Sto} (ha : fa r st = some (x, st1)) (hb : fb r st1 = some (y, st2)) (h : f st2 x y = some q) : eOp2 f fa fb r st = some q := by unfold eOp2; rw [ha]; show (fb r st1).bind _ = _; rw [hb]; exact h
theorem v_nil : aNil r st = some ([], st) := rfl
theorem v_cons (ha : fa r st = some (x, st1)) (hb : fs r st1 = some (ds, st2)) : aCons fa fs r st = some (x :: ds, st2) := by unfold aCons; rw [ha]; show (fs r st1).bind _ = _; rw [hb]; rfl
theorem v_one (ha : fa r st = some (x, st1)) : aCons fa aNil r st = some ([x], st1) := v_cons ha v_nil
theorem v_N {f : Sto → List Dt → Option (Dt × Sto)} {q : Dt × Sto} (ha : fs r st = some (ds, st1)) (h : f st1 ds = some q) : eN f fs r st = some q := by unfold eN; rw [ha]; exact h
theorem v_chain {f f' : Sto → Dt → Dt → Option (Dt × Sto)} {q : Dt × Sto} (ha : fa r st = some (x, st1)) (hb : fb r st1 = some (y, st2)) (h : f st2 x y = some (.bl true, st3)) {st4 : Sto} (hc : fc r st3 = some (z, st4)) (h' : f' st4 y z = some q) : eChain f f' fa fb fc r st = some q := by
  unfold eChain; rw [ha]; show (fb r st1).bind _ = _; rw [hb]; show (f st2 x y).bind _ = _; rw [h]; show (fc r st3).bind _ = _; rw [hc]; exact h'
theorem v_chain0 {f f' : Sto → Dt → Dt → Option (Dt × Sto)} (ha : fa r st = some (x, st1)) (hb : fb r st1 = some (y, st2)) (h : f st2 x y = some (.bl false, st3)) : eChain f f' fa fb fc r st = some (.bl false, st3) := by
  unfold eChain; rw [ha]; show (fb r st1).bind _ = _; rw [hb]; show (f st2 x y).bind _ = _; rw [h]; rfl
theorem v_and (ha : fa r st = some (.bl true, st1)) {q : Dt × Sto} (hb : fb r st1 = some q) : eAndV fa fb r st = some q := by unfold eAndV; rw [ha]; exact hb
theorem v_sl {l h : SO} {lo hi : Option Int} (ha : fa r st = some (x, st1)) (h1 : l r st1 = some (lo, st2)) (h2 : h r st2 = some (hi, st3)) (e : gSl st3 x lo hi = some d) : eSl fa l h r st = some (d, st3) := by
  unfold eSl; rw [ha]; show (l r st1).bind _ = _; rw [h1]; show (h r st2).bind _ = _; rw [h2]; show (gSl st3 x lo hi).map _ = _; rw [e]; rfl
theorem v_oE {i : Int} (ha : fa r st = some (.int i, st1)) : oE fa r st = some (some i, st1) := by unfold oE; rw [ha]; rfl
theorem v_toV (h : fs r st = some (ds, st1)) : toV fs r st = some (.lst ds, st1) := by unfold toV; rw [h]; rfl
theorem v_toR (h : fs r st = some (ds, st1)) : toR fs r st = some (.ref st1.length, st1 ++ [some (.lst ds)]) := by unfold toR; rw [h]; rfl
theorem v_small (h : fs r st = some (ds, st1)) (hl : ds.length ≤ sizeLine) : small fs r st = some (ds, st1) := by unfold small; rw [h]; exact if_pos hl
theorem v_gF {n : Nat} {F : List Dt → Sto → Option (Dt × Sto)} {q : Dt × Sto} (hn : ds.length = n) (h : F ds st = some q) : gF n F st ds = some q := by unfold gF; rw [if_pos hn]; exact h
theorem v_V {m : List Dt → Option Dt} (hn : noRefs ds = true) (h : m ds = some d) : liftV m ds st = some (d, st) := by unfold liftV; rw [if_pos hn, h]; rfl
theorem v_R {m : List Dt → Option Dt} (hn : noRefs ds = true) (h : m ds = some d) : liftR m ds st = some (.ref st.length, st ++ [some d]) := by unfold liftR; rw [if_pos hn, h]; rfl
theorem v_Ee {m : Dt → List Dt → Option (Dt × Dt)} {i : Nat} {c c' : Dt} (hn : noRefs ds = true) (hi : st[i]? = some (some c)) (hc : noRef c = true) (h : m c ds = some (d, c')) : liftE m (.ref i :: ds) st = some (d, st.set i (some c')) := by
  unfold liftE; dsimp only; rw [if_pos hn, hi]; dsimp only; rw [if_pos hc, h]; rfl
theorem t_B (ha : fa r st = some (.bl a, st1)) : cB fa r st = some (a, st1) := by unfold cB; rw [ha]; rfl
theorem t_not (ha : ca r st = some (a, st1)) : cNot ca r st = some (!a, st1) := by unfold cNot; rw [ha]; rfl
theorem t_orF (ha : ca r st = some (false, st1)) {q : Bool × Sto} (hb : cb r st1 = some q) : cOr ca cb r st = some q := by unfold cOr; rw [ha]; exact hb
theorem t_orT (ha : ca r st = some (true, st1)) : cOr ca cb r st = some (true, st1) := by unfold cOr; rw [ha]; rfl
theorem t_andT (ha : ca r st = some (true, st1)) {q : Bool × Sto} (hb : cb r st1 = some q) : cAnd ca cb r st = some q := by unfold cAnd; rw [ha]; exact hb
theorem t_andF (ha : ca r st = some (false, st1)) : cAnd ca cb r st = some (false, st1) := by unfold cAnd; rw [ha]; rfl
theorem s_seq (h1 : g r st = some (.nx r1 st1)) {q : Ou} (h2 : k r1 st1 = some q) : sSeq g k r st = some q := by unfold sSeq; rw [h1]; exact h2
theorem s_seqRt (h1 : g r st = some (.rt d st1)) : sSeq g k r st = some (.rt d st1) := by unfold sSeq; rw [h1]; rfl
theorem s_ifF (hc : ca r st = some (false, st1)) {q : Ou} (h : k r st1 = some q) : sIf ca g k r st = some q := by unfold sIf; rw [hc]; exact h
theorem s_ifT (hc : ca r st = some (true, st1)) {q : Ou} (h : g r st1 = some q) : sIf ca g k r st = some q := by unfold sIf; rw [hc]; exact h
theorem s_set {i : Nat} (h : fa r st = some (d, st1)) : sSet i fa r st = some (.nx (r.set i (some d)) st1) := by unfold sSet; rw [h]; rfl
theorem s_ret (h : fa r st = some (d, st1)) : sRet fa r st = some (.rt d st1) := by unfold sRet; rw [h]; rfl
theorem s_ex (h : fa r st = some (d, st1)) : sEx fa r st = some (.nx r st1) := by unfold sEx; rw [h]; rfl
theorem s_for {fi : SA} {kt : SG} {xs : List Dt} (h : fi r st = some (xs, st1)) {q : Ou} (h2 : sForGo kt g xs r st1 = some q) : sFor fi kt g r st = some q := by unfold sFor; rw [h]; exact h2
theorem v_iE {f : Sto → Dt → Option (List Dt)} {xs : List Dt} (h : fa r st = some (d, st1)) (h2 : f st1 d = some xs) : iE f fa r st = some (xs, st1) := by unfold iE; rw [h]; show (f st1 d).map _ = _; rw [h2]; rfl
theorem v_iR {f : List Dt → Option (List Dt)} {xs : List Dt} (h : fs r st = some (ds, st1)) (h2 : f ds = some xs) : iR f fs r st = some (xs, st1) := by unfold iR; rw [h]; show (f ds).map _ = _; rw [h2]; rfl
/-- one turn of for -/
theorem for_cons {kt : SG} {xs : List Dt} {r2 : Evr} (hk : kt x r = some r1) (h : g r1 st = some (.nx r2 st1)) {q : Ou} (h2 : sForGo kt g xs r2 st1 = some q) : sForGo kt g (x :: xs) r st = some q := by
  show (kt x r).bind _ = _; rw [hk]; show (g r1 st).bind _ = _; rw [h]; exact h2
/-- a comprehension that leaves the store -/
theorem lcGo_pure {α : Type} {kt : SG} {c : ST} {f : SE} (D : α → Dt) (p : α → Bool) (q : α → Dt) : ∀ xs : List α, (∀ w ∈ xs, ∃ r1, kt (D w) r = some r1 ∧ c r1 st = some (p w, st) ∧ (p w = true → f r1 st = some (q w, st))) → lcGo kt c f r (xs.map D) st = some ((xs.filter p).map q, st)
  | [], _ => rfl
  | w :: xs, h => by
    obtain ⟨r1, h1, h2, h3⟩ := h w List.mem_cons_self
    have ih := lcGo_pure D p q xs fun v hv => h v (List.mem_cons_of_mem _ hv)
    show (kt (D w) r).bind _ = _
    rw [h1]
    show (c r1 st).bind _ = _
    rw [h2]
    cases hp : p w with
    | true =>
      show (f r1 st).bind _ = _
      rw [h3 hp]
      show (lcGo kt c f r (xs.map D) st).bind _ = _
      rw [ih, List.filter_cons_of_pos hp]
      rfl
    | false =>
      show lcGo kt c f r (xs.map D) st = _
      rw [ih, List.filter_cons_of_neg (by simp [hp])]
theorem lc_pure {α : Type} {fi : SA} {own : List Nat} {kt : SG} {c : ST} {f : SE} (D : α → Dt) (p : α → Bool) (q : α → Dt) (xs : List α) (hi : fi r st = some (xs.map D, st1))
    (h : ∀ w ∈ xs, ∃ r1, kt (D w) (wipeD r own) = some r1 ∧ c r1 st1 = some (p w, st1) ∧ (p w = true → f r1 st1 = some (q w, st1))) (hl : xs.length ≤ sizeLine) : lc fi own kt c f r st = some ((xs.filter p).map q, st1) := by
  unfold lc
  rw [hi]
  show (lcGo kt c f (wipeD r own) (xs.map D) st1).bind _ = _
  rw [lcGo_pure D p q xs h]
  refine if_pos ?_
  rw [List.length_map]
  exact Nat.le_trans (List.length_filter_le _ _) hl
/-- .. without a test -/
theorem lc_map {α : Type} {fi : SA} {own : List Nat} {kt : SG} {f : SE} (D : α → Dt) (q : α → Dt) (xs : List α) (hi : fi r st = some (xs.map D, st1))
    (h : ∀ w ∈ xs, ∃ r1, kt (D w) (wipeD r own) = some r1 ∧ f r1 st1 = some (q w, st1)) (hl : xs.length ≤ sizeLine) : lc fi own kt cYes f r st = some (xs.map q, st1) := by
  have := lc_pure (c := cYes) D (fun _ => true) q xs hi (fun w hw => let ⟨r1, h1, h2⟩ := h w hw; ⟨r1, h1, rfl, fun _ => h2⟩) hl
  rw [List.filter_eq_self.mpr (by simp)] at this
  exact this
theorem b_rt {n : Nat} (h : g (startD n ds) [] = some (.rt d st1)) : bodyF g n ds [] = some (d, st1) := by unfold bodyF; rw [h]; rfl
theorem b_nx {n : Nat} (h : g (startD n ds) [] = some (.nx r st1)) : bodyF g n ds [] = some (.non, st1) := by unfold bodyF; rw [h]; rfl
theorem fV_of {F : List Dt → Sto → Option (Dt × Sto)} (h : F ds [] = some (x, st1)) (h2 : deref st1 6 x = some d) : fV F ds = some d := by unfold fV; rw [h]; exact h2
theorem deref_no {n : Nat} (h : noRef d = true) : deref st n d = some d := by
  cases n with
  | zero => unfold deref; rw [if_pos h]
  | succ n => unfold deref; rw [if_pos h]
theorem derefs_no : ∀ {n : Nat} {ds : List Dt}, noRefs ds = true → derefs st n ds = some ds
  | 0, [], _ => by unfold derefs; rfl
  | n + 1, [], _ => by unfold derefs; rfl
  | 0, d :: ds, h => by unfold derefs; rw [if_pos h]
  | n + 1, d :: ds, h => by
    have h' := h
    unfold noRefs at h'
    rw [Bool.and_eq_true] at h'
    unfold derefs
    rw [deref_no h'.1]
    show (derefs st n ds).map _ = _
    rw [derefs_no h'.2]
    rfl
theorem deref_ref {n i : Nat} (hi : st[i]? = some (some d)) (h : noRef d = true) : deref st (n + 1) (.ref i) = some d := by
  unfold deref
  rw [if_neg (by unfold noRef; simp)]
  simp only [hi]
  exact deref_no h
theorem fR_lst {F : List Dt → Sto → Option (Dt × Sto)} {i : Nat} {es : List Dt} (h : F ds [] = some (.ref i, st1)) (hi : st1[i]? = some (some (.lst es))) (hn : noRefs es = true) : fR F ds = some (.lst es) := by
  unfold fR
  rw [h]
  show (match st1[i]? with
    | some (some (.lst ds)) => (derefs (st1.set i none) 6 ds).map Dt.lst
    | some (some (.dic ks ds)) => (derefs (st1.set i none) 6 ds).map (Dt.dic ks)
    | _ => none) = _
  rw [hi]
  show (derefs (st1.set i none) 6 es).map _ = _
  rw [derefs_no hn]
  rfl
theorem fV_lst {F : List Dt → Sto → Option (Dt × Sto)} {i : Nat} {es : List Dt} (h : F ds [] = some (.ref i, st1)) (hi : st1[i]? = some (some (.lst es))) (hn : noRefs es = true) : fV F ds = some (.lst es) :=
  fV_of h (deref_ref hi (by unfold noRef; exact hn))
theorem fE_of {F : List Dt → Sto → Option (Dt × Sto)} {c c' : Dt} (h : F (.ref 0 :: ds) [some c] = some (x, st1)) (h0 : st1[0]? = some (some c')) (hn : noRef c' = true) (hx : deref (st1.set 0 none) 6 x = some d) : fE F c ds = some (d, c') := by
  unfold fE
  rw [h]
  show (match st1[0]? with
    | some (some c') => if noRef c' = true then (deref (st1.set 0 none) 6 x).map fun d => (d, c') else none
    | _ => none) = _
  rw [h0]
  show (if noRef c' = true then _ else none) = _
  rw [if_pos hn, hx]
  rfl
end
/-! plain data -/
theorem noRefs_str : ∀ l : List Str, noRefs (l.map Dt.str) = true
  | [] => by unfold noRefs; rfl
  | x :: l => by
    show noRefs (Dt.str x :: l.map Dt.str) = true
    unfold noRefs
    rw [noRefs_str l]
    unfold noRef
    rfl
theorem noRef_lstS (l : List Str) : noRef (.lst (l.map Dt.str)) = true := by unfold noRef; exact noRefs_str l
theorem strs_self (l : List Str) : strs' (l.map Dt.str) = some l := by
  have := strs_map (fun x : Str => x) l
  simpa using this
theorem strs_inv : ∀ {ds : List Dt} {l : List Str}, strs' ds = some l → ds = l.map Dt.str
  | [], _, h => by cases h; rfl
  | d :: ds, l, h => by
    cases d with
    | str x =>
      obtain ⟨m, h1, h2⟩ := Option.map_eq_some_iff.mp h
      subst h2
      rw [strs_inv h1]
      rfl
    | _ => cases h
theorem v_gI {C : Int → Int → Bool} {f : Int → Int → Int} {st : Sto} {i j : Int} (h : C i j = true) : gI C f st (.int i) (.int j) = some (.int (f i j), st) := by
  show (if C i j = true then _ else _) = _
  exact if_pos h
theorem v_le (st : Sto) (i j : Int) : gLe st (.int i) (.int j) = some (.bl (decide (i ≤ j)), st) := rfl
theorem v_leS (st : Sto) (i j : Str) : gLe st (.str i) (.str j) = some (.bl (!decide (j.cps.toList < i.cps.toList)), st) := rfl
theorem v_lenL {st : Sto} {d : Dt} {ds : List Dt} (h : d = .lst ds) : gLen st [d] = some (.int ds.length, st) := by subst h; rfl
theorem v_lenS {st : Sto} {z : Str} (h : z.length ≤ sizeLine) : gLen st [.str z] = some (.int z.length, st) := by
  show (if z.length ≤ sizeLine then _ else _) = _
  exact if_pos h
theorem v_slS {st : Sto} {z : Str} {lo hi : Option Int} (h : z.length ≤ sizeLine) : gSl st (.str z) lo hi = some (.str (cutS z lo hi)) := by
  show (if z.length ≤ sizeLine then _ else _) = _
  exact if_pos h
theorem v_ixL {st : Sto} {ds : List Dt} {i : Int} {d : Dt} (h : atI ds i = some d) : gIx st (.lst ds) (.int i) = some (d, st) := by
  show (atI ds i).map _ = _
  rw [h]; rfl
theorem v_ixS {st : Sto} {z : Str} {i : Int} {c : Nat} (hz : z.length ≤ sizeLine) (h : atI z.cps.toList i = some c) : gIx st (.str z) (.int i) = some (.str ⟨#[c]⟩, st) := by
  show (if z.length ≤ sizeLine then (atI z.cps.toList i).map _ else none) = _
  rw [if_pos hz, h]; rfl
theorem v_eqS {st : Sto} {x y : Str} : gEq st (.str x) (.str y) = some (.bl (decide (x = y)), st) := by
  show ((if scal (.str x) (.str y) = true then some (decide (V.str x = V.str y)) else none).map _) = _
  have : decide (V.str x = V.str y) = decide (x = y) := by simp
  rw [this]; rfl
theorem v_neS {st : Sto} {x y : Str} : gNe st (.str x) (.str y) = some (.bl (!decide (x = y)), st) := by
  show ((if scal (.str x) (.str y) = true then some (decide (V.str x = V.str y)) else none).map _) = _
  have : decide (V.str x = V.str y) = decide (x = y) := by simp
  rw [this]; rfl
theorem v_neI {st : Sto} {x y : Int} : gNe st (.int x) (.int y) = some (.bl (!decide (x = y)), st) := by
  show ((if scal (.int x) (.int y) = true then some (decide (V.int x = V.int y)) else none).map _) = _
  have : decide (V.int x = V.int y) = decide (x = y) := by simp
  rw [this]; rfl
theorem v_neB {st : Sto} {x y : Bool} : gNe st (.bl x) (.bl y) = some (.bl (!decide (x = y)), st) := by
  show ((if scal (.bl x) (.bl y) = true then some (decide (V.bl x = V.bl y)) else none).map _) = _
  have : decide (V.bl x = V.bl y) = decide (x = y) := by simp
  rw [this]; rfl
theorem flats_str : ∀ l : List Str, flats (l.map Dt.str) = some (l.map V.str)
  | l => by
    have := flats_map (fun x : Str => Dt.str x) (fun x => V.str x) (fun x => rfl) l
    exact this
theorem inV_str (x : Str) : ∀ l : List Str, inV (.str x) (l.map V.str) = decide (x ∈ l)
  | [] => by simp [inV]
  | y :: l => by
    have ih := inV_str x l
    unfold inV at ih ⊢
    rw [List.map_cons, List.any_cons, ih]
    have e : eqV (V.str y) (V.str x) = decide (x = y) := by
      by_cases h : x = y
      · subst h; simp [eqV]
      · have h' : ¬ y = x := fun z => h z.symm
        simp [eqV, h, h']
    rw [e]
    by_cases h : x = y <;> simp [h]
theorem v_inS {st : Sto} {x : Str} {l : List Str} {neg : Bool} {d : Dt} (h : asL st d = some (l.map Dt.str)) : gIn neg st (.str x) d = some (.bl (if neg then !decide (x ∈ l) else decide (x ∈ l)), st) := by
  unfold gIn inD
  rw [h]
  show ((flats (l.map Dt.str)).map _).map _ = _
  rw [flats_str]
  show some (Dt.bl (if neg = true then !(inV (.str x) (l.map V.str)) else inV (.str x) (l.map V.str)), st) = _
  rw [inV_str]
end HB

set_option Elab.async false
set_option linter.all false
set_option maxRecDepth 100000
set_option maxHeartbeats 1000000
/-! HB, part v: == and != of data with dicts. -/
namespace HB
open PySem PySem.Spec PyProof.Rows L2

def allO : List (Option Bool) → Option Bool
  | [] => some true
  | o :: os => o.bind fun b => (allO os).map fun c => b && c
def eqPl (x y : Dt) : Option Bool := (py [] 8 x).bind fun a => (py [] 8 y).bind fun b => if (SeqAt.shaped a && SeqAt.shaped b) = true then some (PyData.eqv a b) else none
/-- equal or not, data without live objects -/
def eqQ : Nat → Dt → Dt → Option Bool
  | 0, _, _ => none
  | n + 1, x, y => match x, y with
    | .lst xs, .lst ys => if xs.length = ys.length then allO (List.zipWith (eqQ n) xs ys) else some false
    | .dic ks xs, .dic ls ys => if ks.Nodup ∧ ks.length = xs.length ∧ ls.length = ys.length then (if ks.length = ls.length then allO ((ks.zip xs).map fun p => match pGet p.1 ls ys with
        | none => some false
        | some y => eqQ n p.2 y) else some false) else none
    | x, y => eqPl x y
theorem allO_of : ∀ {os : List (Option Bool)} {b : Bool}, allO os = some b → ∃ cs : List Bool, os = cs.map some ∧ b = cs.all id
  | [], b, h => by cases h; exact ⟨[], rfl, rfl⟩
  | o :: os, b, h => by
    obtain ⟨c, h1, h2⟩ := bind_some' h
    obtain ⟨d, h3, h4⟩ := Option.map_eq_some_iff.mp h2
    obtain ⟨cs, h5, h6⟩ := allO_of h3
    exact ⟨c :: cs, by rw [h1, h5]; rfl, by rw [← h4, h6]; rfl⟩
theorem allO_map : ∀ cs : List Bool, allO (cs.map some) = some (cs.all id)
  | [] => rfl
  | c :: cs => by
    show ((allO (cs.map some)).map fun d => c && d) = _
    rw [allO_map cs]; rfl
theorem pGet_mem {α : Type} : ∀ {ks : List Key} {xs : List α}, ks.Nodup → ∀ p ∈ ks.zip xs, pGet p.1 ks xs = some p.2
  | [], xs, _, p, h => by simp at h
  | k :: ks, [], _, p, h => by simp at h
  | k :: ks, x :: xs, nd, p, h => by
    rw [List.zip_cons_cons] at h
    rw [List.nodup_cons] at nd
    rcases List.mem_cons.mp h with e | h
    · subst e; simp [pGet]
    · have hm : p.1 ∈ ks := (List.of_mem_zip (a := p.1) (b := p.2) h).1
      have hne : ¬ k = p.1 := fun z => nd.1 (z ▸ hm)
      have ih := pGet_mem nd.2 p h
      simp [pGet, hne, ih]
theorem eqPl_refl {x : Dt} {b : Bool} (h : eqPl x x = some b) : b = true := by
  obtain ⟨a, h1, h2⟩ := bind_some' h
  obtain ⟨c, h3, h4⟩ := bind_some' h2
  rw [h1] at h3
  cases h3
  split at h4
  · rename_i hs
    cases h4
    rw [Bool.and_eq_true] at hs
    exact SeqAt.eqv_refl a (SeqAt.canLay_of_shaped hs.1)
  · cases h4
theorem eqQ_refl : ∀ (n : Nat) (x : Dt) (b : Bool), eqQ n x x = some b → b = true
  | 0, _, _, h => by cases h
  | n + 1, x, b, h => by
    have ih := eqQ_refl n
    cases x with
    | lst ys =>
      unfold eqQ at h
      dsimp only at h
      rw [if_pos rfl] at h
      obtain ⟨cs, h1, h2⟩ := allO_of h
      rw [h2, List.all_eq_true]
      intro c hc
      have hm : some c ∈ List.zipWith (eqQ n) ys ys := by rw [h1]; exact List.mem_map_of_mem hc
      have key : ∀ l : List Dt, some c ∈ List.zipWith (eqQ n) l l → ∃ d ∈ l, eqQ n d d = some c := by
        intro l
        induction l with
        | nil => intro z; simp at z
        | cons d l k =>
          intro z
          rw [List.zipWith_cons_cons] at z
          rcases List.mem_cons.mp z with z | z
          · exact ⟨d, by simp, z.symm⟩
          · obtain ⟨d', m, e⟩ := k z
            exact ⟨d', by simp [m], e⟩
      obtain ⟨d, _, e⟩ := key ys hm
      exact ih d c e
    | dic ks xs =>
      unfold eqQ at h
      dsimp only at h
      split at h
      · rename_i hk
        rw [if_pos rfl] at h
        obtain ⟨cs, h1, h2⟩ := allO_of h
        rw [h2, List.all_eq_true]
        intro c hc
        have hm : some c ∈ cs.map some := List.mem_map_of_mem hc
        rw [← h1] at hm
        obtain ⟨p, hp, e⟩ := List.mem_map.mp hm
        rw [pGet_mem hk.1 p hp] at e
        exact ih p.2 c e
      · cases h
    | _ => exact eqPl_refl h
section
variable {X : Cx} {pins : List (Addr × Obj)} {s1 : L2.St} {H : Hp} {s : Shared} {L : List Addr} {B : Addr → Prop}
theorem pyD {d : Dt} {p : PyData} {v : V} {K : PySem.W.Frag} (hn : noRef d = true) (h : py [] 8 d = some p) (q : Den L B H d v) : Dp K H v p := by
  have w : Wd ([] : List (Addr × Str)) (fun _ => False) [] [] H := ⟨fun p hp => by simp at hp, rfl, fun i j a d e h => by simp at h, fun k a d h => by simp at h, fun a z => z.elim⟩
  exact py_ok (B := fun _ => False) w h ((q.anyL hn).mono fun _ z => z.elim)
theorem eqPl_ok (I : Inv X pins s1 H s) {A : Around} (hu : A.units + 64 < cLine) {dx dy : Dt} {b : Bool} {x y : V} {v u : Value} (h : eqPl dx dy = some b) (nx : noRef dx = true) (ny : noRef dy = true) (px : Den L B H dx x) (py' : Den L B H dy y) (rx : RelV x v) (ry : RelV y u) : SeqAt.EqP X.prog X.w A s v u b := by
  obtain ⟨a, h1, h2⟩ := bind_some' h
  obtain ⟨c, h3, h4⟩ := bind_some' h2
  split at h4
  · rename_i hs
    cases h4
    rw [Bool.and_eq_true] at hs
    obtain ⟨as, r1⟩ := Dp.reads I a x v (pyD (K := X.K) nx h1 px) rx
    obtain ⟨bs, r2⟩ := Dp.reads I c y u (pyD (K := X.K) ny h3 py') ry
    exact (SeqAt.eqAt_reads a c A s v u as bs r1 r2 (SeqAt.canLay_of_shaped hs.1) (SeqAt.canLay_of_shaped hs.2) (SeqAt.room_of_shaped hs.1 hu)).eqP
  · cases h4
theorem hitsQ {A : Around} {n : Nat} {ls : List Key} {ys : List Dt} {us : List V} {vb : List (Key × Value)} (ih : ∀ dx dy b, eqQ n dx dy = some b → noRef dx = true → noRef dy = true → ∀ x y v u, Den L B H dx x → Den L B H dy y → RelV x v → RelV y u → SeqAt.EqP X.prog X.w A s v u b)
    (ny : noRefs ys = true) (ey : Dens L B H ys us) (el : ls.length = us.length) (rb : KV (ls.zip us) vb) : ∀ (ks : List Key) (xs : List Dt) (vs : List V) (va : List (Key × Value)) (r : Bool), ks.length = vs.length → noRefs xs = true → Dens L B H xs vs → KV (ks.zip vs) va →
    allO ((ks.zip xs).map fun p => match pGet p.1 ls ys with
      | none => some false
      | some y => eqQ n p.2 y) = some r → PySem.W.KeqHitsP X.prog X.w A s vb va r
  | [], xs, vs, va, r, _, _, _, ra, h => by
    cases ra
    cases h
    exact .nil
  | k :: ks, [], vs, va, r, hl, _, d, ra, h => by
    unfold Dens at d
    subst d
    simp at hl
  | k :: ks, x :: xs, vs, va, r, hl, nx, d, ra, h => by
    obtain ⟨v, vs', rfl, pv, d'⟩ := d.uncons
    unfold noRefs at nx
    rw [Bool.and_eq_true] at nx
    rw [List.zip_cons_cons] at ra h
    cases ra with
    | @cons _ q _ qs h1 h2 =>
    obtain ⟨e1, e2⟩ := h1
    obtain ⟨qk, qv⟩ := q
    have e1' : k = qk := e1
    subst e1'
    rw [List.map_cons] at h
    obtain ⟨b, h3, h4⟩ := bind_some' h
    obtain ⟨c, h5, h6⟩ := Option.map_eq_some_iff.mp h4
    have rest := hitsQ ih ny ey el rb ks xs vs' qs c (by simpa using hl) nx.2 d' h2 h5
    have rr : RelO (pGet k ls us) (valueAt vb k) := by rw [← pGet_val]; exact rb.val k
    dsimp only at h3
    rcases ey.pGet k (ks := ls) with ⟨z1, z2⟩ | ⟨dy, y, z1, z2, py'⟩
    · rw [z1] at h3
      cases h3
      rw [z2] at rr
      have hn : valueAt vb k = none := by
        cases q : valueAt vb k with
        | none => rfl
        | some z => rw [q] at rr; exact rr.elim
      rw [← h6]
      exact .miss hn
    · rw [z1] at h3
      rw [z2] at rr
      obtain ⟨w, hw, rw'⟩ := rr.some_of
      rw [← h6]
      refine .hit hw (ih x dy b h3 nx.1 ?_ v y qv w pv py' e2 rw') rest
      have : ∀ {ls : List Key} {ys : List Dt}, noRefs ys = true → pGet k ls ys = some dy → noRef dy = true := by
        intro ls
        induction ls with
        | nil => intro ys _ z; cases ys <;> simp [pGet] at z
        | cons l ls g =>
          intro ys nn z
          cases ys with
          | nil => simp [pGet] at z
          | cons y ys =>
            unfold noRefs at nn
            rw [Bool.and_eq_true] at nn
            by_cases hk : l = k
            · simp [pGet, hk] at z
              exact z ▸ nn.1
            · simp [pGet, hk] at z
              exact g nn.2 z
      exact this ny z1
/-- the items of two lists -/
theorem itemsQ {A : Around} {n : Nat} (ih : ∀ dx dy b, eqQ n dx dy = some b → noRef dx = true → noRef dy = true → ∀ x y v u, Den L B H dx x → Den L B H dy y → RelV x v → RelV y u → SeqAt.EqP X.prog X.w A s v u b) :
    ∀ (xs ys : List Dt) (vs us : List V) (va vb : List Value) (cs : List Bool), noRefs xs = true → noRefs ys = true → Dens L B H xs vs → Dens L B H ys us → Vals vs va → Vals us vb → List.zipWith (eqQ n) xs ys = cs.map some → ∀ j (h1 : j < va.length) (h2 : j < vb.length), SeqAt.EqP X.prog X.w A s va[j] vb[j] (cs.getD j true)
  | [], ys, vs, us, va, vb, cs, _, _, dx, dy, ra, rb, e, j, h1, h2 => by
    unfold Dens at dx
    subst dx
    cases ra
    simp at h1
  | x :: xs, [], vs, us, va, vb, cs, _, _, dx, dy, ra, rb, e, j, h1, h2 => by
    unfold Dens at dy
    subst dy
    cases rb
    simp at h2
  | x :: xs, y :: ys, vs, us, va, vb, cs, nx, ny, dx, dy, ra, rb, e, j, h1, h2 => by
    obtain ⟨v, vs', rfl, pv, dx'⟩ := dx.uncons
    obtain ⟨u, us', rfl, pu, dy'⟩ := dy.uncons
    unfold noRefs at nx ny
    rw [Bool.and_eq_true] at nx ny
    rw [List.zipWith_cons_cons] at e
    cases ra with
    | cons a1 b1 =>
    cases rb with
    | cons a2 b2 =>
    cases cs with
    | nil => simp at e
    | cons c cs =>
    rw [List.map_cons] at e
    injection e with e1 e2
    cases j with
    | zero => exact ih x y c e1 nx.1 ny.1 v u _ _ pv pu a1 a2
    | succ j => exact itemsQ ih xs ys vs' us' _ _ cs nx.2 ny.2 dx' dy' b1 b2 e2 j (Nat.lt_of_succ_lt_succ h1) (Nat.lt_of_succ_lt_succ h2)
theorem all_getD : ∀ cs : List Bool, ((List.range cs.length).all fun j => cs.getD j true) = cs.all id
  | [] => rfl
  | c :: cs => by
    rw [List.length_cons, List.range_succ_eq_map, List.all_cons, List.all_map, List.all_cons, ← all_getD cs]
    rfl
/-! != of lists, of dicts -/
section
variable {prog : Program} {w : World}
open AutoSeq1 (wpAny_loadPart')
open MeetsSeq MeetsSeq2 MeetsSeq3 SeqRoads2 SeqAt
theorem neQ_loop (l b : Addr) (xs ys : Array Value) (n m : Nat) (dd de : Option Addr) (sl se : Array (Option Value)) (hsz : xs.size = ys.size) (e : Nat → Bool) (k : Nat) : ∀ i : Nat, xs.size - i = k → MeetsIn prog w (Builtin.«list.__eq__.loop» ⟨[.ref l, .ref b, rawInt i, rawInt 3], []⟩)
    (fun A R s => s.heap.get? l = some { cls := .type "list", dict := dd, data := .seq xs n, slots := sl } ∧ s.heap.get? b = some { cls := .type "list", dict := de, data := .seq ys m, slots := se } ∧ (∀ j (h1 : j < xs.size) (h2 : j < ys.size), EqP prog w A.in1 s xs[j] ys[j] (e j)) ∧ R (.ok (.ret (.bool (!((List.range xs.size).drop i).all e)))) s) := by
  induction k with
  | zero =>
    intro i hk A R s h
    obtain ⟨hp, g, d, tk, os⟩ := s; obtain ⟨hl, hb, he, h⟩ := h
    wp_walk using wpAny_loadPart' hl, wpAny_loadPart' hb
    have x1 : xs[((i : Nat) : Int).toNat]? = none := by simp; omega
    have x2 : ys[((i : Nat) : Int).toNat]? = none := by simp; omega
    have x3 : (List.range xs.size).drop i = [] := by simp; omega
    rw [x3] at h
    rw [x1, x2]
    wp_walk using wpAny_loadPart' hl, wpAny_loadPart' hb
    show R (.ok (.ret (.bool (xs.size != ys.size)))) _
    rw [hsz]
    simpa using h
  | succ k ih =>
    intro i hk A R s h
    obtain ⟨hp, g, d, tk, os⟩ := s; obtain ⟨hl, hb, he, h⟩ := h
    wp_walk using wpAny_loadPart' hl, wpAny_loadPart' hb
    have l1 : i < xs.size := by omega
    have l2 : i < ys.size := by omega
    have x1 : xs[((i : Nat) : Int).toNat]? = some xs[i] := by simp [l1]
    have x2 : ys[((i : Nat) : Int).toNat]? = some ys[i] := by simp [l2]
    have x3 : (List.range xs.size).drop i = i :: (List.range xs.size).drop (i + 1) := by simp [List.drop_eq_getElem_cons, l1]
    have x4 : ((i : Int) + 1) = ((i + 1 : Nat) : Int) := by push_cast; rfl
    rw [x3, List.all_cons] at h
    rw [x1, x2]
    refine wpAny_bind (he i l1 l2 _ _ ?_)
    cases x5 : e i with
    | true =>
      rw [x5] at h
      wp_walk
      rw [x4]
      exact ⟨plainId_quiet plain_eq_loop _, codeAny_builtin entry_eq_loop (by rw [Around.under_plainId plain_eq_loop _]; exact ih (i + 1) (by omega) A R _ ⟨hl, hb, he, by simpa using h⟩)⟩
    | false =>
      rw [x5] at h
      wp_walk using wpAny_loadPart' hl, wpAny_loadPart' hb
      rw [x1, x2]
      wp_walk
      simpa using h
theorem neQ_list (l b : Addr) (xs ys : Array Value) (n m : Nat) (dd de : Option Addr) (sl se : Array (Option Value)) (hsz : xs.size = ys.size) (e : Nat → Bool) : MeetsIn prog w (Builtin.«list.__ne__» ⟨[.ref l, .ref b], []⟩)
    (fun A R s => s.heap.get? l = some { cls := .type "list", dict := dd, data := .seq xs n, slots := sl } ∧ s.heap.get? b = some { cls := .type "list", dict := de, data := .seq ys m, slots := se } ∧ (∀ j (h1 : j < xs.size) (h2 : j < ys.size), EqP prog w A.in1 s xs[j] ys[j] (e j)) ∧ R (.ok (.ret (.bool (!(List.range xs.size).all e)))) s) := by
  intro A R s h
  obtain ⟨hp, g, d, tk, os⟩ := s; obtain ⟨hl, hb, he, h⟩ := h
  have y1 := AutoSeq1.sub_list_list
  have y2 : ¬ (xs.size != ys.size) = true := by simp [hsz]
  wp_walk using wpAny_loadPart' hl, wpAny_loadPart' hb
  exact ⟨plainId_quiet plain_eq_loop _, codeAny_builtin entry_eq_loop (by rw [Around.under_plainId plain_eq_loop _]; exact neQ_loop l b xs ys n m dd de sl se hsz e _ 0 rfl A R _ ⟨hl, hb, he, by simpa using h⟩)⟩
theorem neQ_lists {A : Around} {s : Shared} {l b : Addr} {xs ys : Array Value} {e : Nat → Bool} (hl : s.heap.IsList l xs) (hb : s.heap.IsList b ys) (hsz : xs.size = ys.size) (hu : A.units < cLine)
    (he : ∀ j (h1 : j < xs.size) (h2 : j < ys.size), EqP prog w A.in1 s xs[j] ys[j] (e j)) (E Q : Value → Shared → Prop) (h : Q (.bool (!(List.range xs.size).all e)) s) : wpAny (model prog w) A (richCompare .NotEq (.ref l) (.ref b)) Q E s := by
  obtain ⟨⟨c1, dd, d1, sl⟩, o1, e1, n, f1⟩ := id hl
  obtain ⟨⟨c2, de, d2, se⟩, o2, e2, m, f2⟩ := id hb
  simp only at e1 f1 e2 f2
  subst e1 f1 e2 f2
  have ta : s.TypeIs (.ref l) "list" := ⟨_, o1, rfl⟩
  have tb : s.TypeIs (.ref b) "list" := ⟨_, o2, rfl⟩
  exact wpAny_richCompare_same_room (op := .NotEq) ta tb F.slot_list_ne (call_meetsIn F.slot_list_ne ta F.entry_list_ne (F.args_list_ne_2 _ _) (neQ_list l b xs ys n m dd de sl se hsz e) ⟨o1, o2, he, ⟨(fun x => nomatch x), h⟩⟩) hu
end
section
variable {prog : Program} {w : World} {κ : Type} [DecidableEq κ] {knd : KeyKind prog w κ} {A : Around} {s : Shared}
open PySem.W in
theorem neQ_dicts {a b : Addr} {ka kb : List (κ × Value)} {r : Bool} (ha : (a == sysModules) = false) (hb : (b == sysModules) = false) (da : s.heap.DictOf knd a ka) (db : s.heap.DictOf knd b kb) (hu : A.units < cLine) (hits : ka.length = kb.length → KeqHitsP prog w A.in1 s kb ka r) (E Q : Value → Shared → Prop)
    (h : Q (.bool (!(ka.length == kb.length && r))) s) : wpAny (model prog w) A (richCompare .NotEq (.ref a) (.ref b)) Q E s := by
  have ta := da.typeIs
  have tb := db.typeIs
  refine wpAny_richCompare_same_room (op := .NotEq) ta tb PySem.F.slot_dict_ne (wpAny_call_entry PySem.F.slot_dict_ne ta PySem.F.entry_dict_ne ?_ (PySem.F.args_dict_ne_2 _ _)) hu
  show wpAny _ _ (Builtin.Dict.dictSlotArgs "__ne__" _ >>= _) _ _ s
  refine wpAny_bind ?_
  unfold Builtin.Dict.dictSlotArgs
  refine wpAny_bind (wpAny_notOrdered_dict ta (by
    show wpAny _ _ (pure (Value.ref a, Value.ref b)) _ _ s
    refine wpAny_pure (wpAny_bind (wpAny_isInstance (T := "dict") tb PySem.F.sub_dict_dict ?_))
    simp only [Bool.not_true, Bool.false_eq_true, if_false]
    refine wpAny_bind (wpAny_pure (wpAny_bind (wpAny_pure (wpAny_bind (samePairsP ha hb da db hits (wpAny_pure ⟨_, rfl, ?_, ?_⟩))))))
    · exact fun x => nomatch x
    · simpa using h))
end
/-! the whole -/
theorem rcQ (I : Inv X pins s1 H s) {A : Around} {n : Nat} (hu : A.units < cLine) (ih : ∀ dx dy b, eqQ n dx dy = some b → noRef dx = true → noRef dy = true → ∀ x y v u, Den L B H dx x → Den L B H dy y → RelV x v → RelV y u → SeqAt.EqP X.prog X.w A.in1 s v u b)
    {xs ys : List Dt} {b : Bool} {x y : V} {v u : Value} (h : eqQ (n + 1) (.lst xs) (.lst ys) = some b) (nx : noRefs xs = true) (ny : noRefs ys = true) (px : Den L B H (.lst xs) x) (py' : Den L B H (.lst ys) y) (rx : RelV x v) (ry : RelV y u) :
    ∃ a c, v = .ref a ∧ u = .ref c ∧ (∀ (E Q : Value → Shared → Prop), Q (.bool b) s → wpAny (model X.prog X.w) A (richCompare .Eq v u) Q E s) ∧ (∀ (E Q : Value → Shared → Prop), Q (.bool (!b)) s → wpAny (model X.prog X.w) A (richCompare .NotEq v u) Q E s) := by
  unfold Den at px py'
  obtain ⟨a, vs, rfl, _, e1, t1⟩ := px
  obtain ⟨c, us, rfl, _, e2, t2⟩ := py'
  obtain rfl : v = Value.ref a := rx
  obtain rfl : u = Value.ref c := ry
  obtain ⟨va, r1, p1, _⟩ := I.list (SqL.of (K := X.K) e1)
  obtain ⟨vb, r2, p2, _⟩ := I.list (SqL.of (K := X.K) e2)
  have hx : xs.length = va.length := by rw [t1.len]; exact r1.length
  have hy : ys.length = vb.length := by rw [t2.len]; exact r2.length
  refine ⟨a, c, rfl, rfl, ?_⟩
  unfold eqQ at h
  dsimp only at h
  split at h
  · rename_i hl
    obtain ⟨cs, h1, h2⟩ := allO_of h
    have hc : cs.length = va.length := by
      have := congrArg List.length h1
      rw [List.length_zipWith, List.length_map] at this
      omega
    have hsz : va.toArray.size = vb.toArray.size := by simp; omega
    have it := itemsQ ih xs ys vs us va vb cs nx ny t1 t2 r1 r2 h1
    have it' : ∀ j (h1 : j < va.toArray.size) (h2 : j < vb.toArray.size), SeqAt.EqP X.prog X.w A.in1 s va.toArray[j] vb.toArray[j] (cs.getD j true) := fun j h1 h2 => by
      have z := it j (by simpa using h1) (by simpa using h2)
      simpa using z
    have eb : ((List.range va.toArray.size).all fun j => cs.getD j true) = b := by
      rw [h2, ← all_getD cs, hc]; simp
    refine ⟨fun E Q q => SeqAt.rcP_lists (e := fun j => cs.getD j true) p1.isList p2.isList hsz hu it' E Q ?_, fun E Q q => neQ_lists (e := fun j => cs.getD j true) p1.isList p2.isList hsz hu it' E Q ?_⟩
    · rw [eb]; exact q
    · rw [eb]; exact q
  · rename_i hl
    cases h
    have hne : (va.toArray.size != vb.toArray.size) = true := by simp; omega
    exact ⟨fun E Q q => SeqAt.RcAt.lists_lengths p1.isList p2.isList hne hu X.prog X.w E Q q, fun E Q q => SeqAt.RcNeAt.lists_lengths p1.isList p2.isList hne hu X.prog X.w E Q q⟩
theorem rcQd (I : Inv X pins s1 H s) {A : Around} {n : Nat} (hu : A.units < cLine) (ih : ∀ dx dy b, eqQ n dx dy = some b → noRef dx = true → noRef dy = true → ∀ x y v u, Den L B H dx x → Den L B H dy y → RelV x v → RelV y u → SeqAt.EqP X.prog X.w A.in1 s v u b)
    {ks ls : List Key} {xs ys : List Dt} {b : Bool} {x y : V} {v u : Value} (h : eqQ (n + 1) (.dic ks xs) (.dic ls ys) = some b) (nx : noRefs xs = true) (ny : noRefs ys = true) (px : Den L B H (.dic ks xs) x) (py' : Den L B H (.dic ls ys) y) (rx : RelV x v) (ry : RelV y u) :
    ∃ a c, v = .ref a ∧ u = .ref c ∧ (∀ (E Q : Value → Shared → Prop), Q (.bool b) s → wpAny (model X.prog X.w) A (richCompare .Eq v u) Q E s) ∧ (∀ (E Q : Value → Shared → Prop), Q (.bool (!b)) s → wpAny (model X.prog X.w) A (richCompare .NotEq v u) Q E s) := by
  unfold Den at px py'
  obtain ⟨a, vs, rfl, _, e1, l1, t1⟩ := px
  obtain ⟨c, us, rfl, _, e2, l2, t2⟩ := py'
  obtain rfl : v = Value.ref a := rx
  obtain rfl : u = Value.ref c := ry
  obtain ⟨_, ya, va, ra, da⟩ := e1.ok I.hok
  obtain ⟨_, yb, vb, rb, db⟩ := e2.ok I.hok
  have hx : ks.length = va.length := by have := ra.length; rw [List.length_zip] at this; omega
  have hy : ls.length = vb.length := by have := rb.length; rw [List.length_zip] at this; omega
  refine ⟨a, c, rfl, rfl, ?_⟩
  unfold eqQ at h
  dsimp only at h
  split at h
  · rename_i hk
    split at h
    · rename_i hl
      have hits := hitsQ ih ny t2 l2 rb ks xs vs va b l1 nx t1 ra h
      have el : (va.length == vb.length) = true := by simp; omega
      refine ⟨fun E Q q => PySem.W.rcP_dicts (knd := mixKind X.prog X.w) (r := b) ya yb da db hu (fun _ => hits) E Q ?_, fun E Q q => neQ_dicts (knd := mixKind X.prog X.w) (r := b) ya yb da db hu (fun _ => hits) E Q ?_⟩
      · rw [el, Bool.true_and]; exact q
      · rw [el, Bool.true_and]; exact q
    · rename_i hl
      cases h
      have el : (va.length == vb.length) = false := by simp; omega
      have no : va.length = vb.length → PySem.W.KeqHitsP X.prog X.w A.in1 s vb va true := fun z => absurd z (by omega)
      refine ⟨fun E Q q => PySem.W.rcP_dicts (knd := mixKind X.prog X.w) (r := true) ya yb da db hu no E Q ?_, fun E Q q => neQ_dicts (knd := mixKind X.prog X.w) (r := true) ya yb da db hu no E Q ?_⟩
      · rw [el]; exact q
      · rw [el]; exact q
  · cases h
theorem eqQ_ok (I : Inv X pins s1 H s) : ∀ (n : Nat) (A : Around), A.units + n + 64 < cLine → ∀ dx dy b, eqQ n dx dy = some b → noRef dx = true → noRef dy = true → ∀ x y v u, Den L B H dx x → Den L B H dy y → RelV x v → RelV y u → SeqAt.EqP X.prog X.w A s v u b
  | 0, A, hu, dx, dy, b, h, _, _, x, y, v, u, _, _, _, _ => by cases h
  | n + 1, A, hu, dx, dy, b, h, nx, ny, x, y, v, u, px, py', rx, ry => by
    have ih := eqQ_ok I n A.in1 (by show A.units + 1 + n + 64 < cLine; omega)
    have same : ∀ a : Addr, x = .ref a → y = .ref a → b = true := fun a e1 e2 => by
      subst e1; subst e2
      have := Den.one nx ny px py'
      subst this
      exact eqQ_refl _ _ _ h
    have fin : ∀ a c : Addr, v = .ref a → u = .ref c → x = .ref a → y = .ref c → (∀ (E Q : Value → Shared → Prop), Q (.bool b) s → wpAny (model X.prog X.w) A (richCompare .Eq v u) Q E s) → SeqAt.EqP X.prog X.w A s v u b := fun a c e1 e2 e3 e4 k => by
      subst e1; subst e2
      by_cases hac : a = c
      · subst hac
        rw [same a e3 e4]
        exact (SeqAt.EqAt.same _).eqP
      · exact SeqAt.eqP_refs hac k
    cases dx with
    | lst xs =>
      cases dy with
      | lst ys =>
        unfold noRef at nx ny
        obtain ⟨a, c, e1, e2, k, _⟩ := rcQ I (A := A) (by omega) ih h nx ny px py' rx ry
        unfold Den at px py'
        obtain ⟨a', vs, rfl, _⟩ := px
        obtain ⟨c', us, rfl, _⟩ := py'
        have z1 : v = .ref a' := rx
        have z2 : u = .ref c' := ry
        rw [z1] at e1; cases e1
        rw [z2] at e2; cases e2
        exact fin a c z1 z2 rfl rfl k
      | _ => exact eqPl_ok I (by omega) h nx ny px py' rx ry
    | dic ks xs =>
      cases dy with
      | dic ls ys =>
        unfold noRef at nx ny
        obtain ⟨a, c, e1, e2, k, _⟩ := rcQd I (A := A) (by omega) ih h nx ny px py' rx ry
        unfold Den at px py'
        obtain ⟨a', vs, rfl, _⟩ := px
        obtain ⟨c', us, rfl, _⟩ := py'
        have z1 : v = .ref a' := rx
        have z2 : u = .ref c' := ry
        rw [z1] at e1; cases e1
        rw [z2] at e2; cases e2
        exact fin a c z1 z2 rfl rfl k
      | _ => exact eqPl_ok I (by omega) h nx ny px py' rx ry
    | _ => exact eqPl_ok I (by omega) h nx ny px py' rx ry
end
/-- both lists or both dicts -/
def alikeD : Dt → Dt → Bool
  | .lst _, .lst _ => true
  | .dic _ _, .dic _ _ => true
  | _, _ => false
def rEqQ (neg : Bool) : R2 := fun x y H Q => ∃ (L : List Addr) (B : Addr → Prop) (dx dy : Dt) (b : Bool), noRef dx = true ∧ noRef dy = true ∧ alikeD dx dy = true ∧ eqQ 8 dx dy = some b ∧ Den L B H dx x ∧ Den L B H dy y ∧ Q (.bl (if neg then !b else b)) H
theorem op_EqQ {X : Cx} (hu : X.A.units + 80 < cLine) : OpR X (compareOp .Eq) (rEqQ false) := by
  intro pins s σ H x y v u Q I rx ry ⟨L, B, dx, dy, b, nx, ny, ha, h, px, py', q⟩
  have ih := eqQ_ok (L := L) (B := B) I 7 X.A.in1 (by show X.A.units + 1 + 7 + 64 < cLine; omega)
  cases dx with
  | lst xs =>
    cases dy with
    | lst ys =>
      unfold noRef at nx ny
      obtain ⟨a, c, e1, e2, k, _⟩ := rcQ I (A := X.A) (by omega) ih h nx ny px py' rx ry
      exact k _ _ ⟨.bl b, H, I, rfl, q⟩
    | _ => cases ha
  | dic ks xs =>
    cases dy with
    | dic ls ys =>
      unfold noRef at nx ny
      obtain ⟨a, c, e1, e2, k, _⟩ := rcQd I (A := X.A) (by omega) ih h nx ny px py' rx ry
      exact k _ _ ⟨.bl b, H, I, rfl, q⟩
    | _ => cases ha
  | _ => cases ha
theorem op_NeQ {X : Cx} (hu : X.A.units + 80 < cLine) : OpR X (compareOp .NotEq) (rEqQ true) := by
  intro pins s σ H x y v u Q I rx ry ⟨L, B, dx, dy, b, nx, ny, ha, h, px, py', q⟩
  have ih := eqQ_ok (L := L) (B := B) I 7 X.A.in1 (by show X.A.units + 1 + 7 + 64 < cLine; omega)
  cases dx with
  | lst xs =>
    cases dy with
    | lst ys =>
      unfold noRef at nx ny
      obtain ⟨a, c, e1, e2, _, k⟩ := rcQ I (A := X.A) (by omega) ih h nx ny px py' rx ry
      exact k _ _ ⟨.bl (!b), H, I, rfl, q⟩
    | _ => cases ha
  | dic ks xs =>
    cases dy with
    | dic ls ys =>
      unfold noRef at nx ny
      obtain ⟨a, c, e1, e2, _, k⟩ := rcQd I (A := X.A) (by omega) ih h nx ny px py' rx ry
      exact k _ _ ⟨.bl (!b), H, I, rfl, q⟩
    | _ => cases ha
  | _ => cases ha
/-- == and != of lists and dicts, else as before -/
def eqB (st : Sto) (x y : Dt) : Option Bool := (deref st 8 x).bind fun a => (deref st 8 y).bind fun b => if alikeD a b = true then (if noRef a = true ∧ noRef b = true then eqQ 8 a b else none) else eqD st x y
def gEqB (st : Sto) (x y : Dt) : Option (Dt × Sto) := (eqB st x y).map fun b => (.bl b, st)
def gNeB (st : Sto) (x y : Dt) : Option (Dt × Sto) := (eqB st x y).map fun b => (.bl (!b), st)
def rEqZ (K : PySem.W.Frag) : R2 := fun x y H Q => rEqA K x y H Q ∨ rEqQ false x y H Q
def rNeZ (K : PySem.W.Frag) : R2 := fun x y H Q => rNeA K x y H Q ∨ rEqQ true x y H Q
theorem op_EqZ {X : Cx} {k : Nat} (hr : Room k X.A) : OpR X (compareOp .Eq) (rEqZ X.K) := OpR.or (op_EqA hr.units) (op_EqQ (by have := hr.un; omega))
theorem op_NeZ {X : Cx} {k : Nat} (hr : Room k X.A) : OpR X (compareOp .NotEq) (rNeZ X.K) := OpR.or (op_NeA hr.units) (op_NeQ (by have := hr.un; omega))
section
variable {T : List (Addr × Str)} {K : PySem.W.Frag}
theorem vo_EqZ : VO2 T (rEqZ K) gEqB := by
  intro Z L st H x y dx dy d st' Q w hx hy h q
  obtain ⟨b, h1, h2⟩ := Option.map_eq_some_iff.mp h
  cases h2
  obtain ⟨a, e1, e2⟩ := bind_some' h1
  obtain ⟨c, e3, e4⟩ := bind_some' e2
  split at e4
  · rename_i ha
    split at e4
    · rename_i hn
      exact .inr ⟨L, Z, a, c, b, hn.1, hn.2, ha, e4, deref_ok w e1 (hx.mono fun b z => .inl z), deref_ok w e3 (hy.mono fun b z => .inl z), q _ H L (.refl w) Den.bl⟩
    · cases e4
  · exact .inl (vo_Eq Z L st H x y dx dy _ _ Q w hx hy (by unfold gEq; rw [e4]; rfl) q)
theorem vo_NeZ : VO2 T (rNeZ K) gNeB := by
  intro Z L st H x y dx dy d st' Q w hx hy h q
  obtain ⟨b, h1, h2⟩ := Option.map_eq_some_iff.mp h
  cases h2
  obtain ⟨a, e1, e2⟩ := bind_some' h1
  obtain ⟨c, e3, e4⟩ := bind_some' e2
  split at e4
  · rename_i ha
    split at e4
    · rename_i hn
      exact .inr ⟨L, Z, a, c, b, hn.1, hn.2, ha, e4, deref_ok w e1 (hx.mono fun b z => .inl z), deref_ok w e3 (hy.mono fun b z => .inl z), q _ H L (.refl w) Den.bl⟩
    · cases e4
  · exact .inl (vo_Ne Z L st H x y dx dy _ _ Q w hx hy (by unfold gNe; rw [e4]; rfl) q)
end
end HB

set_option Elab.async false
set_option linter.all false
set_option maxRecDepth 100000
set_option maxHeartbeats 1000000
/-! HB, part w: while, clear, list(d), list(d.items()), xs[::-1], dict(pairs), displays of dicts, xs * k, is None, targets of many names. -/
namespace HB
open PySem PySem.Spec PyProof.Rows L2

/-! ### dicts out of pairs -/
def pMrg {α : Type} : List Key → List α → List (Key × α) → List Key × List α
  | ks, ys, [] => (ks, ys)
  | ks, ys, p :: r => pMrg (pPut p.1 p.2 ks ys).1 (pPut p.1 p.2 ks ys).2 r
theorem pMrg_len {α : Type} : ∀ (r : List (Key × α)) (ks : List Key) (ys : List α), ks.length = ys.length → (pMrg ks ys r).1.length = (pMrg ks ys r).2.length
  | [], ks, ys, h => h
  | p :: r, ks, ys, h => pMrg_len r _ _ (pPut_len p.1 p.2 h)
theorem pMrg_zip : ∀ (r : List (Key × V)) (ks : List Key) (vs : List V), ks.length = vs.length → mergeK (ks.zip vs) r = (pMrg ks vs r).1.zip (pMrg ks vs r).2
  | [], ks, vs, h => rfl
  | p :: r, ks, vs, h => by
    show mergeK (putK (ks.zip vs) p.1 p.2) r = _
    rw [pPut_zip p.1 p.2 h]
    exact pMrg_zip r _ _ (pPut_len p.1 p.2 h)
theorem pMrg_ok {L : List Addr} {B : Addr → Prop} {H : Hp} : ∀ (ps : List Key) (ds : List Dt) (vs : List V) (ks : List Key) (xs : List Dt) (us : List V), Dens L B H ds vs → Dens L B H xs us → (pMrg ks xs (ps.zip ds)).1 = (pMrg ks us (ps.zip vs)).1 ∧ Dens L B H (pMrg ks xs (ps.zip ds)).2 (pMrg ks us (ps.zip vs)).2
  | [], ds, vs, ks, xs, us, _, h => ⟨rfl, h⟩
  | p :: ps, [], vs, ks, xs, us, d, h => by
    unfold Dens at d
    subst d
    exact ⟨rfl, h⟩
  | p :: ps, d :: ds, vs, ks, xs, us, q, h => by
    obtain ⟨v, vs', rfl, pv, t⟩ := q.uncons
    have ih := pMrg_ok ps ds vs' (pPut p d ks xs).1 (pPut p d ks xs).2 (pPut p v ks us).2 t (Dens.pPut pv p h)
    show (pMrg (pPut p d ks xs).1 (pPut p d ks xs).2 (ps.zip ds)).1 = (pMrg (pPut p v ks us).1 (pPut p v ks us).2 (ps.zip vs')).1 ∧ Dens L B H (pMrg (pPut p d ks xs).1 (pPut p d ks xs).2 (ps.zip ds)).2 (pMrg (pPut p v ks us).1 (pPut p v ks us).2 (ps.zip vs')).2
    rw [← pPut_keys p d v ks xs us]
    exact ih
/-- what a list of pairs makes -/
def pairD : Dt → Option (Key × Dt)
  | .tup [k, v] => (keyD k).map fun k => (k, v)
  | _ => none
def pairsD : List Dt → Option (List Key × List Dt)
  | [] => some ([], [])
  | d :: ds => (pairD d).bind fun p => (pairsD ds).map fun r => (p.1 :: r.1, p.2 :: r.2)
theorem pairs_ok {L : List Addr} {B : Addr → Prop} {H : Hp} {K : PySem.W.Frag} : ∀ {ds : List Dt} {vs : List V} {ks : List Key} {xs : List Dt}, Dens L B H ds vs → pairsD ds = some (ks, xs) → ∃ (as : List Addr) (us : List V), vs = as.map V.ref ∧ ks.length = us.length ∧ Dens L B H xs us ∧ Paired (fun p kv => SqT K H p [kV kv.1, kv.2]) as (ks.zip us)
  | [], vs, ks, xs, h, e => by
    unfold Dens at h
    subst h
    cases e
    exact ⟨[], [], rfl, rfl, .nil, .nil⟩
  | d :: ds, vs, ks, xs, h, e => by
    obtain ⟨v, r, rfl, q, t⟩ := h.uncons
    obtain ⟨⟨k, y⟩, e1, e2⟩ := bind_some' e
    obtain ⟨⟨ks', xs'⟩, e3, e4⟩ := Option.map_eq_some_iff.mp e2
    cases e4
    obtain ⟨as, us, rfl, hl, dn, pr⟩ := pairs_ok (K := K) t e3
    unfold pairD at e1
    split at e1
    · rename_i kd vd
      obtain ⟨k', e5, e6⟩ := Option.map_eq_some_iff.mp e1
      cases e6
      unfold Den at q
      obtain ⟨a, ws, rfl, ha, tw⟩ := q
      obtain ⟨x, y', rfl, px, py'⟩ := dens2 tw
      have ek := keyD_ok px e5
      subst ek
      exact ⟨a :: as, y' :: us, rfl, by simp [hl], .cons py' dn, .cons (SqT.of ha) pr⟩
    · cases e1
def gDictP (st : Sto) (xs : List Dt) : Option (Dt × Sto) := match xs with
  | [x] => (asL st x).bind fun ds => (pairsD ds).map fun p => (.dic (pMrg [] [] (p.1.zip p.2)).1 (pMrg [] [] (p.1.zip p.2)).2, st)
  | _ => none
def gDictPR (st : Sto) (xs : List Dt) : Option (Dt × Sto) := match xs with
  | [x] => (asL st x).bind fun ds => (pairsD ds).map fun p => (.ref st.length, st ++ [some (.dic (pMrg [] [] (p.1.zip p.2)).1 (pMrg [] [] (p.1.zip p.2)).2)])
  | _ => none
def rDictP (K : PySem.W.Frag) : List V → Hp → VK → Prop := fun xs H Q => ∃ (a : Addr) (ps : List Addr) (kvs : List (Key × V)), xs = [.ref a] ∧ SqL K H a (ps.map V.ref) ∧ Paired (fun p kv => SqT K H p [kV kv.1, kv.2]) ps kvs ∧
    ∀ p, H p = none → Q (.ref p) (upd H p (.dK (mergeK [] kvs)))
section
variable {T : List (Addr × Str)} {K : PySem.W.Frag}
theorem vo_dictP : VON T (rDictP K) gDictP := by
  intro Z L st H xs dxs d st' Q w hx h q
  unfold gDictP at h
  split at h
  · rename_i x
    obtain ⟨ds, h1, h2⟩ := bind_some' h
    obtain ⟨⟨ks, ys⟩, h3, h4⟩ := Option.map_eq_some_iff.mp h2
    cases h4
    obtain ⟨v, rfl, p⟩ := dens1 hx
    obtain ⟨a, vs, rfl, ea, t⟩ := asL_ok w p h1
    obtain ⟨as, us, rfl, hl, dn, pr⟩ := pairs_ok (K := K) t h3
    refine ⟨a, as, ks.zip us, rfl, SqL.of ea, pr, fun p np => ?_⟩
    obtain ⟨k1, k2⟩ := pMrg_ok ks ys us [] [] [] dn .nil
    have e1 : mergeK [] (ks.zip us) = (pMrg [] [] (ks.zip us)).1.zip (pMrg [] [] (ks.zip us)).2 := pMrg_zip (ks.zip us) [] [] rfl
    rw [e1]
    refine q _ _ L (.new w np) ?_
    rw [k1]
    exact .newD w np (pMrg_len _ _ _ rfl) k2
  · cases h
theorem vo_dictPR : VON T (rDictP K) gDictPR := by
  intro Z L st H xs dxs d st' Q w hx h q
  unfold gDictPR at h
  split at h
  · rename_i x
    obtain ⟨ds, h1, h2⟩ := bind_some' h
    obtain ⟨⟨ks, ys⟩, h3, h4⟩ := Option.map_eq_some_iff.mp h2
    cases h4
    obtain ⟨v, rfl, p⟩ := dens1 hx
    obtain ⟨a, vs, rfl, ea, t⟩ := asL_ok w p h1
    obtain ⟨as, us, rfl, hl, dn, pr⟩ := pairs_ok (K := K) t h3
    refine ⟨a, as, ks.zip us, rfl, SqL.of ea, pr, fun p np => ?_⟩
    obtain ⟨k1, k2⟩ := pMrg_ok ks ys us [] [] [] dn .nil
    have e1 : mergeK [] (ks.zip us) = (pMrg [] [] (ks.zip us)).1.zip (pMrg [] [] (ks.zip us)).2 := pMrg_zip (ks.zip us) [] [] rfl
    rw [e1, ← k1]
    refine q _ _ (L ++ [p]) (.newR w np ⟨_, rfl, ?_, k2⟩) ?_
    · rw [k1]; exact pMrg_len _ _ _ rfl
    · unfold Den
      exact ⟨p, by rw [← w.len]; simp, rfl⟩
  · cases h
end
/-! ### list(d), list(d.items()) -/
def keyDt : Key → Dt
  | .inl i => .int i
  | .inr x => .str x
def rListR : List V → Hp → VK → Prop := fun xs H Q => ∃ p kvs, xs = [.ref p] ∧ Rd H p (.dK kvs) ∧ ∀ q, H q = none → Q (.ref q) (upd H q (.lst (kvs.map fun kv => kV kv.1)))
theorem call_listR {X : Cx} (hc : X.calm = true) : CallR X (.type "list") rListR := by
  rintro pins s σ H _ us Q I r ⟨p, kvs, rfl, hk, q⟩
  obtain ⟨u, rfl, rx⟩ := vals1 r
  obtain rfl : u = Value.ref p := rx
  obtain ⟨z, lo, vs, rk, hd⟩ := hk.ok I.hok
  obtain ⟨ep, hat⟩ := hd.dictAt
  have hl := rk.length
  refine PySem.W.kdl_call (PySem.W.kdl_dict (knd := mixKind X.prog X.w) (kvs := vs) (ep := ep) lo) (I.ok.hd hc) hat (by omega) fun h' tk ac c' kp hS ha => ⟨.ref s.heap.objs.size, upd H s.heap.objs.size (.lst (kvs.map fun kv => kV kv.1)), I.laid kp (Nat.le_refl _) (show ObjOk X.prog X.w _ _ _ (.lst (kvs.map fun kv => kV kv.1)) from ⟨by rw [List.length_map]; exact z, ac.toList, c', ?_, by rw [Array.toArray_toList]; exact hS⟩), rfl, q _ (I.hok.fresh (Nat.le_refl _))⟩
  have el : ac.toList.length = ac.size := by simp
  refine vals_of_at (by rw [List.length_map, el, ha.1, hl]) fun j x y h1 h2 => ?_
  obtain ⟨k, y', hk', hi⟩ := ha.2 j y (by rw [← Array.getElem?_toList]; exact h2)
  obtain ⟨x', e1, _⟩ := KV.at' rk hk'
  rw [List.getElem?_map, e1] at h1
  cases h1
  exact keyIs_rel hi
def gListD (st : Sto) (xs : List Dt) : Option (Dt × Sto) := match xs with
  | [x] => (match asL st x with
    | some ds => some (.lst ds, st)
    | none => (asD st x).map fun p => (.lst (p.1.map keyDt), st))
  | _ => none
def gListDR (st : Sto) (xs : List Dt) : Option (Dt × Sto) := match xs with
  | [x] => (match asL st x with
    | some ds => some (.ref st.length, st ++ [some (.lst ds)])
    | none => (asD st x).map fun p => (.ref st.length, st ++ [some (.lst (p.1.map keyDt))]))
  | _ => none
def rListO (K : PySem.W.Frag) : List V → Hp → VK → Prop := fun xs H Q => ∃ p ys, xs = [.ref p] ∧ (SqL K H p ys ∨ SqT K H p ys) ∧ ∀ l, H l = none → Q (.ref l) (upd H l (.lst ys))
def rListA (K : PySem.W.Frag) : List V → Hp → VK → Prop := fun xs H Q => rListO K xs H Q ∨ rListR xs H Q
theorem call_listA {X : Cx} (hc : X.calm = true) : CallR X (.type "list") (rListA X.K) := CallR.or call_list_of (call_listR hc)
theorem dens_keys {L : List Addr} {B : Addr → Prop} {H : Hp} : ∀ (ks : List Key) (vs : List V), ks.length = vs.length → Dens L B H (ks.map keyDt) ((ks.zip vs).map fun kv => kV kv.1)
  | [], _, _ => .nil
  | k :: ks, [], h => by simp at h
  | k :: ks, v :: vs, h => by
    refine .cons ?_ (dens_keys ks vs (by simpa using h))
    cases k with
    | inl i => exact Den.int
    | inr x => exact Den.str
section
variable {T : List (Addr × Str)} {K : PySem.W.Frag}
theorem vo_listD : VON T (rListA K) gListD := by
  intro Z L st H xs dxs d st' Q w hx h q
  unfold gListD at h
  split at h
  · obtain ⟨v, rfl, p⟩ := dens1 hx
    split at h
    · rename_i ds hd
      cases h
      obtain ⟨a, vs, rfl, ea, t⟩ := asL_ok w p hd
      exact .inl ⟨a, vs, rfl, .inl (SqL.of ea), fun l nl => q _ _ L (.new w nl) (.newL w nl t)⟩
    · obtain ⟨⟨ks, ds⟩, h1, h2⟩ := Option.map_eq_some_iff.mp h
      cases h2
      obtain ⟨a, vs, rfl, ra, hl, t⟩ := asD_ok w p h1
      exact .inr ⟨a, _, rfl, ra, fun l nl => q _ _ L (.new w nl) (.newL w nl (dens_keys ks vs hl))⟩
  · cases h
theorem vo_listDR : VON T (rListA K) gListDR := by
  intro Z L st H xs dxs d st' Q w hx h q
  have fin : ∀ (l : Addr) (ds : List Dt) (vs : List V), H l = none → Dens L (Bad Z L st) H ds vs → (∀ v H' L', Af T Z L st H L' (st ++ [some (.lst ds)]) H' → Den L' (Bad Z L' (st ++ [some (.lst ds)])) H' (.ref st.length) v → Q v H') → Q (.ref l) (upd H l (.lst vs)) := fun l ds vs nl t q => by
    refine q _ _ (L ++ [l]) (.newR w nl ⟨vs, rfl, t⟩) ?_
    unfold Den
    exact ⟨l, by rw [← w.len]; simp, rfl⟩
  unfold gListDR at h
  split at h
  · obtain ⟨v, rfl, p⟩ := dens1 hx
    split at h
    · rename_i ds hd
      cases h
      obtain ⟨a, vs, rfl, ea, t⟩ := asL_ok w p hd
      exact .inl ⟨a, vs, rfl, .inl (SqL.of ea), fun l nl => fin l ds vs nl t q⟩
    · obtain ⟨⟨ks, ds⟩, h1, h2⟩ := Option.map_eq_some_iff.mp h
      cases h2
      obtain ⟨a, vs, rfl, ra, hl, t⟩ := asD_ok w p h1
      exact .inr ⟨a, _, rfl, ra, fun l nl => fin l _ _ nl (dens_keys ks vs hl) q⟩
  · cases h
end
/-- list(e.items()) -/
def rItR : V → Hp → VK → Prop := fun x H Q => ∃ (d : Addr) (kvs : List (Key × V)), x = .ref d ∧ Rd H d (.dK kvs) ∧
  ∀ (H' : Hp) (p : Addr) (ts : List Addr), (∀ b o, H b = some o → H' b = some o) → H p = none → (∀ t ∈ ts, H t = none) → p ∉ ts → H' p = some (.lst (ts.map V.ref)) → Paired (fun (t : Addr) (q : Key × V) => H' t = some (.tup [kV q.1, q.2])) ts kvs → Q (.ref p) H'
def tItR (te : TE) : TE := fun σ H Q => te σ H fun x H1 => rItR x H1 Q
theorem pe_itR {X : Cx} {e : Expr} {te : TE} {p ap cp pos : Pos} (hc : X.calm = true) (he : PE X e te) (hg : Gl X "list") (hm : X.mg "list" = none) (hb : attributeBase e "items" X.env (eval e X.env) = eval e X.env := by rfl) (hl : (ap.endLine == cp.line) = true := by rfl)
    (hs : starEach [.Call (.Attribute e "items" ap) [] [] cp] X.env = (false, eval (.Call (.Attribute e "items" ap) [] [] cp) X.env) :: starEach [] X.env := by rfl) :
    PE X (.Call (.Name "list" p) [.Call (.Attribute e "items" ap) [] [] cp] [] pos) (tItR te) := by
  constructor
  intro pins s σ H Q I hq
  refine wpAny_Call_Name_kw (ld_blt I hg hm boot_list (PyProof.Rows.callWith_type1 ?_ hs rfl))
  rw [hs]
  refine Calls.spliced_cons (wpAny_Call_method (T := "dict") (id := "dict.items") hb rfl hl F.plainAttrs_dict F.slot_dict_items F.type_dict_items (thn (he.run pins s σ H _ I hq) ?_))
  rintro u s1 ⟨x, H1, I1, rx, d, kvs, rfl, hd, q⟩
  obtain rfl : u = Value.ref d := rx
  obtain ⟨hz, hs0, vs, kv, hdo⟩ := hd.ok I1.hok
  obtain ⟨ep, hat⟩ := hdo.dictAt
  have lk := kv.length
  have I2 : Inv X pins σ H1 { s1 with heap := s1.heap.push { cls := .type "dict_items", data := .fields #[.ref d] } } := I1.kept (t' := s1.toks) fun _ _ q => Heap.get?_push_of_some _ q
  refine ⟨hdo.typeIs, hdo.mapOf.noDict, ?_⟩
  show wpAny _ _ (callWith cp (.builtin "dict.items") _ [] []) _ X.xe s1
  refine method_meetsIn F.slot_dict_items F.entry_dict_items rfl (PySem.evalArgs_none ⟨rfl, hdo.typeIs, F.args_dict_items_1 _, _, meets_dict_items (mixKind X.prog X.w) d hs0, ⟨vs, hdo⟩, Calls.spliced_nil ?_⟩)
  refine PySem.W.kdx_call (knd := mixKind X.prog X.w) (kvs := vs) (ep := ep) (I1.ok.hd hc) ⟨_, Heap.get?_push_size _ rfl, rfl, rfl⟩ (hat.push _) (by omega) fun h' tk ac c as hk hS hl hG ha => ?_
  obtain ⟨H', k1, k2, k3, k4, k5, k6, J⟩ := LiI.items_laid (tk := tk) I2 hz kv hk hS hl hG ha
  exact ⟨.ref _, H', J, rfl, q H' _ as k1 k2 k3 k4 k5 k6⟩
def itemsL (ks : List Key) (ds : List Dt) : List Dt := (ks.zip ds).map fun p => .tup [keyDt p.1, p.2]
def eItems (f : SE) : SE := fun r st => (f r st).bind fun x => (asD x.2 x.1).map fun p => (.lst (itemsL p.1 p.2), x.2)
section
variable {T : List (Addr × Str)}
theorem dens_items {L : List Addr} {B : Addr → Prop} {H H' : Hp} (hk : ∀ b o, H b = some o → H' b = some o) : ∀ (ks : List Key) (ds : List Dt) (vs : List V) (ts : List Addr), ks.length = vs.length → Dens L B H ds vs → Paired (fun (t : Addr) (q : Key × V) => H' t = some (.tup [kV q.1, q.2])) ts (ks.zip vs) → Dens L B H' (itemsL ks ds) (ts.map V.ref)
  | [], ds, vs, ts, _, _, pr => by
    cases pr
    exact .nil
  | k :: ks, [], vs, ts, hl, d, pr => by
    unfold Dens at d
    subst d
    simp at hl
  | k :: ks, x :: ds, vs, ts, hl, d, pr => by
    obtain ⟨v, vs', rfl, pv, t⟩ := d.uncons
    rw [List.zip_cons_cons] at pr
    cases pr with
    | @cons t0 _ ts' _ h1 h2 =>
      refine Dens.cons ?_ (dens_items hk ks ds vs' ts' (by simpa using hl) t h2)
      unfold Den
      refine ⟨t0, [kV k, v], rfl, h1, .cons ?_ (.cons (pv.ext hk) .nil)⟩
      cases k with
      | inl i => exact Den.int
      | inr x => exact Den.str
theorem sim_items {te : TE} {f : SE} (hf : SimE T te f) : SimE T (tItR te) (eItems f) := by
  intro Z L st H s r d st' Q w e h q
  obtain ⟨⟨dx, st1⟩, h1, h2⟩ := bind_some' h
  obtain ⟨⟨ks, ds⟩, h3, h4⟩ := Option.map_eq_some_iff.mp h2
  cases h4
  refine hf Z L st H s r dx _ _ w e h1 fun x H1 L1 f1 p1 => ?_
  obtain ⟨a, vs, rfl, ra, hl, t⟩ := asD_ok f1.wd p1 h3
  refine ⟨a, _, rfl, ra, fun H' p ts kp np nt hp ep pr => ?_⟩
  have f2 : Af T Z L1 st1 H1 L1 st1 H' := Afz.ext f1.wd kp
  refine q _ H' L1 (f1.trans f2) ?_
  unfold Den
  exact ⟨p, ts.map V.ref, rfl, f1.wd.notBad np, ep, dens_items kp ks ds vs ts hl t pr⟩
/-! ### xs[::-1] -/
def eRev (f : SE) : SE := fun r st => (f r st).bind fun x => (asL x.2 x.1).map fun ds => (.lst ds.reverse, x.2)
theorem sim_rev {te : TE} {f : SE} {K : PySem.W.Frag} (hf : SimE T te f) : SimE T (tRevL K te) (eRev f) := by
  intro Z L st H s r d st' Q w e h q
  obtain ⟨⟨dx, st1⟩, h1, h2⟩ := bind_some' h
  obtain ⟨ds, h3, h4⟩ := Option.map_eq_some_iff.mp h2
  cases h4
  refine hf Z L st H s r dx _ _ w e h1 fun x H1 L1 f1 p1 => ?_
  obtain ⟨a, vs, rfl, ea, t⟩ := asL_ok f1.wd p1 h3
  exact ⟨a, vs, rfl, SqL.of ea, fun p np => q _ _ L1 (f1.trans (.new f1.wd np)) (.newL f1.wd np t.reverse)⟩
/-! ### d.clear() -/
def eClr (f : SE) : SE := fun r st => (f r st).bind fun x => match x.1 with
  | .ref k => (match x.2[k]? with
    | some (some (.dic _ _)) => some (.non, x.2.set k (some (.dic [] [])))
    | _ => none)
  | _ => none
theorem sim_clr {te : TE} {f : SE} {K : PySem.W.Frag} (hf : SimE T te f) : SimE T (tBM0 K "dict" rDClear te) (eClr f) := by
  intro Z L st H s r d st' Q w e h q
  obtain ⟨⟨dx, st1⟩, h1, h2⟩ := bind_some' h
  refine hf Z L st H s r dx _ _ w e h1 fun x H1 L1 f1 p1 => ?_
  cases dx with
  | ref k =>
    dsimp only at h2
    split at h2
    · rename_i ks ds hk
      cases h2
      unfold Den at p1
      obtain ⟨a, ka, rfl⟩ := p1
      obtain ⟨nz, o, eo, vs, rfl, el, t⟩ := f1.wd.own k a _ ka hk
      refine ⟨.inr (.inr (.inl ⟨rfl, .inl ⟨_, eo⟩⟩)), a, _, rfl, rfl, eo, ?_⟩
      have af := Afz.wr (o := .dK []) (d' := .dic [] []) f1.wd ka hk ⟨[], rfl, rfl, .nil⟩
      exact q _ _ L1 (f1.trans af) Den.non
    · cases h2
  | _ => cases h2
/-! ### displays of dicts -/
def ePairs : List (SE × SE) → Evr → Sto → Option ((List Key × List Dt) × Sto)
  | [] => fun _ st => some (([], []), st)
  | p :: r => fun ev st => (p.1 ev st).bind fun x => (p.2 ev x.2).bind fun y => (keyD x.1).bind fun k => (ePairs r ev y.2).map fun z => ((k :: z.1.1, y.1 :: z.1.2), z.2)
def eDisp (ps : List (SE × SE)) : Evr → Sto → Option ((List Key × List Dt) × Sto) := fun ev st => (ePairs ps ev st).bind fun z => if z.1.1.length ≤ 15 then some (pMrg [] [] (z.1.1.zip z.1.2), z.2) else none
theorem pairs_run : ∀ (ps : List (SE × SE)) {Z : Addr → Prop} {L : List Addr} {st : Sto} {H : Hp} {s : L2.St} {ev : Evr} {ks : List Key} {ds : List Dt} {st' : Sto} {Q : List (V × V) → Hp → Prop}, Wd T Z L st H → EnvOk L (Bad Z L st) H ev s → ePairs ps ev st = some ((ks, ds), st') →
    (∀ vs H' L', Af T Z L st H L' st' H' → ks.length = vs.length → Dens L' (Bad Z L' st') H' ds vs → Q ((ks.zip vs).map fun kv => (kV kv.1, kv.2)) H') → tPairs (ps.map fun p => (rE T p.1, rE T p.2)) s H Q
  | [], Z, L, st, H, s, ev, ks, ds, st', Q, w, e, h, q => by
    cases h
    exact q [] H L (.refl w) rfl .nil
  | p :: ps, Z, L, st, H, s, ev, ks, ds, st', Q, w, e, h, q => by
    obtain ⟨⟨dx, st1⟩, h1, h⟩ := bind_some' h
    obtain ⟨⟨dy, st2⟩, h2, h⟩ := bind_some' h
    obtain ⟨k, h3, h⟩ := bind_some' h
    obtain ⟨⟨⟨ks', ds'⟩, st3⟩, h4, h5⟩ := Option.map_eq_some_iff.mp h
    cases h5
    refine sE Z L st H s ev dx st1 _ w e h1 fun x H1 L1 f1 p1 => ?_
    refine sE Z L1 st1 H1 s ev dy st2 _ f1.wd (e.keep f1) h2 fun y H2 L2 f2 p2 => ?_
    refine pairs_run ps f2.wd ((e.keep f1).keep f2) h4 fun vs H3 L3 f3 hl t => ?_
    have ek := keyD_ok p1 h3
    subst ek
    exact q (y :: vs) H3 L3 (f1.trans (f2.trans f3)) (by simp [hl]) (.cons (p2.keep f3) t)
theorem disp_run (ps : List (SE × SE)) {Z : Addr → Prop} {L : List Addr} {st : Sto} {H : Hp} {s : L2.St} {ev : Evr} {ks : List Key} {ds : List Dt} {st' : Sto} {Q : VK} (w : Wd T Z L st H) (e : EnvOk L (Bad Z L st) H ev s) (h : eDisp ps ev st = some ((ks, ds), st'))
    (q : ∀ D vs H' L', Afz T Z L st H (zAnd Z D) L' st' H' → H D = none → H' D = some (.dK (ks.zip vs)) → ks.length = vs.length → Dens L' (Bad (zAnd Z D) L' st') H' ds vs → Q (.ref D) H') : tDisp (ps.map fun p => (rE T p.1, rE T p.2)) s H Q := by
  obtain ⟨⟨⟨ks0, ds0⟩, st1⟩, h1, h2⟩ := bind_some' h
  split at h2
  case isFalse => cases h2
  case isTrue h15 =>
  have e2 : pMrg [] [] (ks0.zip ds0) = (ks, ds) := congrArg Prod.fst (Option.some.inj h2)
  have e3 : st1 = st' := congrArg Prod.snd (Option.some.inj h2)
  subst e3
  intro D nD
  have m1 : Afz T Z L st H (zAnd Z D) L st (upd H D (.dK [])) := Afz.mine w nD
  refine pairs_run ps m1.wd (e.keep m1) h1 fun vs H2 L2 f2 hl t => ?_
  have hD : H2 D = some (.dK []) := f2.kp D _ upd_same (fun z => by
    obtain ⟨j, d, j1, j2⟩ := z
    exact (m1.wd.own j D d j1 j2).1 (.inr rfl)) (fun ps z => by cases z)
  refine ⟨hD, ks0.zip vs, rfl, by rw [List.length_zip]; dsimp only at h15; omega, ?_⟩
  have zD : zAnd Z D D := .inr rfl
  have tD : ∀ zs, H2 D ≠ some (.tup zs) := fun zs z => by rw [hD] at z; cases z
  obtain ⟨k1, k2⟩ := pMrg_ok ks0 ds0 vs [] [] [] t .nil
  have e1 : mergeK [] (ks0.zip vs) = (pMrg [] [] (ks0.zip vs)).1.zip (pMrg [] [] (ks0.zip vs)).2 := pMrg_zip (ks0.zip vs) [] [] rfl
  have wd3 : Wd T (zAnd Z D) L2 st1 (upd H2 D (.dK (mergeK [] (ks0.zip vs)))) := f2.wd.chg zD fun u eu => by rw [hD] at eu; cases eu; exact .inr ⟨_, rfl⟩
  have fa := m1.trans f2
  refine q D _ _ L2 ⟨wd3, fa.pre, fun b u eb nl nt => ?_, fa.nw, fun b n z => ?_, fun b us eb => ?_, fa.fr, fa.zs⟩ nD (by rw [upd_same, e1, ← k1, e2]) (by rw [e2] at k1; rw [show ks = _ from k1]; exact pMrg_len _ _ _ rfl) (by rw [e2] at k2; exact k2.chg (.inl zD) tD)
  · rw [upd_ne (ne_of_none eb nD)]; exact fa.kp b u eb nl nt
  · by_cases hb : b = D
    · rw [hb, upd_same] at z; cases z
    · rw [upd_ne hb] at z; exact fa.trk b n z
  · rw [upd_ne (ne_of_none eb nD)]; exact fa.tp b us eb
theorem sim_dispV (ps : List (SE × SE)) : SimE T (tDisp (ps.map fun p => (rE T p.1, rE T p.2))) (dToV (eDisp ps)) := by
  intro Z L st H s r d st' Q w e h q
  obtain ⟨⟨⟨ks, zs⟩, st1⟩, a1, h⟩ := bind_some' h
  cases h
  refine disp_run ps w e a1 fun D vs H' L' ff nD hD hl hv => ?_
  refine q _ H' L' ff.back ?_
  unfold Den
  refine ⟨D, vs, rfl, fun z => ?_, .inl hD, hl, hv.mono bad_zAnd⟩
  rcases z with z | ⟨j, d, j1, j2⟩
  · exact w.zt D z nD
  · exact (ff.wd.own j D d j1 j2).1 (.inr rfl)
theorem sim_dispR (ps : List (SE × SE)) : SimE T (tDisp (ps.map fun p => (rE T p.1, rE T p.2))) (dToR (eDisp ps)) := by
  intro Z L st H s r d st' Q w e h q
  obtain ⟨⟨⟨ks, zs⟩, st1⟩, a1, h⟩ := bind_some' h
  cases h
  refine disp_run ps w e a1 fun D vs H' L' ff nD hD hl hv => ?_
  refine q _ H' (L' ++ [D]) (ff.claim w nD hD ⟨vs, rfl, hl, hv⟩) ?_
  unfold Den
  exact ⟨D, by rw [← ff.wd.len]; simp, rfl⟩
end
/-! ### xs * k -/
def rMulA : R2 := fun x y H Q => L2.rI CMul (fun i j => .int (i * j)) x y H Q ∨ L2.rRep x y H Q
theorem op_MulA {X : Cx} : OpR X (binaryOp .Mult) rMulA := OpR.or op_mul op_rep
def gMulA (st : Sto) (x y : Dt) : Option (Dt × Sto) := match x, y with
  | .int i, .int j => if cMul i j = true then some (.int (i * j), st) else none
  | x, .int k => (asL st x).bind fun ds => if -(2 ^ 63) ≤ k ∧ k < 2 ^ 63 ∧ ds.length * k.toNat ≤ sizeLine then some (.lst (List.replicate k.toNat ds).flatten, st) else none
  | _, _ => none
section
variable {T : List (Addr × Str)}
theorem Dens.rep {L : List Addr} {B : Addr → Prop} {H : Hp} {ds : List Dt} {vs : List V} (t : Dens L B H ds vs) : ∀ n : Nat, Dens L B H (List.replicate n ds).flatten (List.replicate n vs).flatten
  | 0 => .nil
  | n + 1 => by
    rw [List.replicate_succ, List.replicate_succ, List.flatten_cons, List.flatten_cons]
    exact t.append (Dens.rep t n)
theorem vo_MulA : VO2 T rMulA gMulA := by
  intro Z L st H x y dx dy d st' Q w hx hy h q
  unfold gMulA at h
  split at h
  · split at h
    · rename_i hc
      cases h
      exact .inl ⟨_, _, den_int hx, den_int hy, cMul_ok hc, q _ H L (.refl w) Den.int⟩
    · cases h
  · rename_i k _
    obtain ⟨ds, h1, h2⟩ := bind_some' h
    split at h2
    · rename_i hk
      cases h2
      obtain ⟨a, vs, rfl, ea, t⟩ := asL_ok w hx h1
      exact .inr ⟨a, k, vs, rfl, den_int hy, ea, hk.1, hk.2.1, by rw [← t.len]; exact hk.2.2, fun p np => q _ _ L (.new w np) (.newL w np (t.rep _))⟩
    · cases h2
  · cases h
end
/-! ### is None -/
def isNon : Dt → Bool
  | .non => true
  | _ => false
def gIsN (st : Sto) (x y : Dt) : Option (Dt × Sto) := match y with
  | .non => some (.bl (isNon x), st)
  | _ => none
def gNotN (st : Sto) (x y : Dt) : Option (Dt × Sto) := match y with
  | .non => some (.bl (!isNon x), st)
  | _ => none
section
variable {T : List (Addr × Str)}
theorem isNon_ok {L : List Addr} {B : Addr → Prop} {H : Hp} {d : Dt} {v : V} (h : Den L B H d v) : decide (v = .non) = isNon d := by
  cases d with
  | non => rw [den_non h]; rfl
  | bl b => rw [den_bl h]; rfl
  | int b => rw [den_int h]; rfl
  | str b => rw [den_str h]; rfl
  | ref k => unfold Den at h; obtain ⟨a, _, rfl⟩ := h; rfl
  | lst ds => unfold Den at h; obtain ⟨a, vs, rfl, _⟩ := h; rfl
  | tup ds => unfold Den at h; obtain ⟨a, vs, rfl, _⟩ := h; rfl
  | dic ks ds => unfold Den at h; obtain ⟨a, vs, rfl, _⟩ := h; rfl
theorem vo_isN : VO2 T (fun x y H Q => y = .non ∧ Q (.bl (decide (x = .non))) H) gIsN := by
  intro Z L st H x y dx dy d st' Q w hx hy h q
  unfold gIsN at h
  split at h
  · cases h
    exact ⟨den_non hy, by rw [isNon_ok hx]; exact q _ H L (.refl w) Den.bl⟩
  · cases h
theorem vo_notN : VO2 T (fun x y H Q => y = .non ∧ Q (.bl (!decide (x = .non))) H) gNotN := by
  intro Z L st H x y dx dy d st' Q w hx hy h q
  unfold gNotN at h
  split at h
  · cases h
    exact ⟨den_non hy, by rw [isNon_ok hx]; exact q _ H L (.refl w) Den.bl⟩
  · cases h
end
/-! ### targets of many names; x += e -/
def sAsg (k : SG) (f : SE) : SS := fun r st => (f r st).bind fun x => (k x.1 r).map fun r' => .nx r' x.2
def sPar (is : List Nat) (f : SA) : SS := fun r st => (f r st).bind fun x => if x.1.length = is.length then some (.nx ((is.zip x.1).foldl (fun r p => r.set p.1 (some p.2)) r) x.2) else none
def sAug (i : Nat) (g : Sto → Dt → Dt → Option (Dt × Sto)) (f : SE) : SS := fun r st => match r[i]? with
  | some (some d) => (f r st).bind fun y => (g y.2 d y.1).map fun z => .nx (r.set i (some z.1)) z.2
  | _ => none
section
variable {T : List (Addr × Str)}
theorem sim_asg {is : List Nat} {ta : TE} {fa : SE} {tg : TG} {k : SG} (ha : SimE T ta fa) (hg : SimG T is tg k) : SimS T (tAsg ta tg) (sAsg k fa) := by
  intro Z L st H s r o D w e h q
  obtain ⟨⟨dx, st1⟩, h1, h⟩ := bind_some' h
  obtain ⟨r', h2, h3⟩ := Option.map_eq_some_iff.mp h
  cases h3
  refine ha Z L st H s r dx st1 _ w e h1 fun v H1 L1 f1 p1 => ?_
  exact hg Z L1 st1 H1 s r v dx r' _ f1.wd (e.keep f1) p1 h2 fun s' e' _ => q s' H1 L1 f1 e'
theorem sim_par2 {i j : Nat} {ta : TA} {fa : SA} (ha : SimA T ta fa) : SimS T (tPar i j ta) (sPar [i, j] fa) := by
  intro Z L st H s r o D w e h q
  obtain ⟨⟨ds, st1⟩, h1, h⟩ := bind_some' h
  split at h
  · rename_i hl
    cases h
    refine ha Z L st H s r ds st1 _ w e h1 fun vs H1 L1 f1 p1 => ?_
    match ds, hl with
    | [x, y], _ =>
      obtain ⟨v, u, rfl, pv, pu⟩ := dens2 p1
      exact ⟨v, u, rfl, q _ H1 L1 f1 (((e.keep f1).set i pv).set j pu)⟩
  · cases h
theorem sim_par3 {i j l : Nat} {ta : TA} {fa : SA} (ha : SimA T ta fa) : SimS T (tPar3 i j l ta) (sPar [i, j, l] fa) := by
  intro Z L st H s r o D w e h q
  obtain ⟨⟨ds, st1⟩, h1, h⟩ := bind_some' h
  split at h
  · rename_i hl
    cases h
    refine ha Z L st H s r ds st1 _ w e h1 fun vs H1 L1 f1 p1 => ?_
    match ds, hl with
    | [x, y, z], _ =>
      obtain ⟨v, vs1, rfl, pv, p1⟩ := p1.uncons
      obtain ⟨u, t, rfl, pu, pt⟩ := dens2 p1
      exact ⟨v, u, t, rfl, q _ H1 L1 f1 ((((e.keep f1).set i pv).set j pu).set l pt)⟩
  · cases h
theorem sim_augI {i : Nat} {ta : TE} {fa : SE} {f : Int → Int → Int} (ha : SimE T ta fa) : SimS T (tAug i ta (ipI f)) (sAug i (gI cT f) fa) := by
  intro Z L st H s r o D w e h q
  unfold sAug at h
  split at h
  · rename_i d hd
    obtain ⟨⟨dy, st1⟩, h1, h⟩ := bind_some' h
    obtain ⟨⟨dz, st2⟩, h2, h3⟩ := Option.map_eq_some_iff.mp h
    cases h3
    obtain ⟨x, hx, px⟩ := e.2 i d hd
    refine ⟨x, hx, ha Z L st H s r dy st1 _ w e h1 fun y H1 L1 f1 p1 => ?_⟩
    cases d with
    | int a =>
      cases dy with
      | int b =>
        have h2' : (if cT a b = true then some (Dt.int (f a b), st1) else none) = some (dz, st2) := h2
        rw [if_pos rfl] at h2'
        cases h2'
        rw [den_int px, den_int p1]
        exact ⟨a, b, rfl, rfl, q _ H1 L1 f1 ((e.keep f1).set i Den.int)⟩
      | _ => cases h2
    | _ => cases h2
  · cases h
end
end HB

set_option Elab.async false
set_option linter.all false
set_option maxRecDepth 100000
set_option maxHeartbeats 1000000
/-! HB, part x: the rules of parts v and w as printed derivations use them. -/
namespace HB
open PySem PySem.Spec PyProof.Rows L2
section
variable {T : List (Addr × Str)} {X : Cx} {a b c e o : Expr} {es rest : List Expr} {fa fb fc : SE} {ga gb : ST} {fs : SA} {pos : Pos} {g k : SS}
theorem jsWh (n : Nat) {body : List Stmt} (hc : PT X c (rT T ga)) (hb : PSs X body (rS T g)) (hp : PassesOwn (model X.prog X.w) X.A X.env X.xe := by exact PassesOwn.never) : PS X (.While c body [] pos) (rS T (sWh ga g n)) := toS (ps_while hp hc hb) (sim_wh sT sS n)
theorem jClr {ap : Pos} (ho : PE X o (rE T fa)) (hb : attributeBase o "clear" X.env (eval o X.env) = eval o X.env := by rfl) (hl : (ap.endLine == pos.line) = true := by rfl) : PE X (.Call (.Attribute o "clear" ap) [] [] pos) (rE T (eClr fa)) := toE (pe_dclear ho hb hl) (sim_clr sE)
theorem call_dictQ (hc : X.calm = true) : CallR X (.type "dict") (rDictP X.K) := call_dictP hc
theorem jItems {p ap cp : Pos} (hc : X.calm = true) (hg : Gl X "list") (hm : X.mg "list" = none) (he : PE X e (rE T fa)) (hb : attributeBase e "items" X.env (eval e X.env) = eval e X.env := by rfl) (hl : (ap.endLine == cp.line) = true := by rfl)
    (hs : starEach [.Call (.Attribute e "items" ap) [] [] cp] X.env = (false, eval (.Call (.Attribute e "items" ap) [] [] cp) X.env) :: starEach [] X.env := by rfl) : PE X (.Call (.Name "list" p) [.Call (.Attribute e "items" ap) [] [] cp] [] pos) (rE T (eItems fa)) := toE (pe_itR hc he hg hm hb hl hs) (sim_items sE)
theorem jRev {k : Nat} {p1 p2 p3 : Pos} (he : PE X e (rE T fa)) : PE X (.Subscript e (.Slice none none (some (.UnaryOp .USub (.Constant (.int 1) k p1) p2)) p3) pos) (rE T (eRev fa)) := toE (pe_revL he) (sim_rev sE)
theorem jpNil : PPs X pos [] [] (([] : List (SE × SE)).map fun p => (rE T p.1, rE T p.2)) := pps_nil
theorem jpCons {k v : Expr} {ks : List (Option Expr)} {vs : List Expr} {fk fv : SE} {ps : List (SE × SE)} (hk : PE X k (rE T fk)) (hv : PE X v (rE T fv)) (hr : PPs X pos ks vs (ps.map fun p => (rE T p.1, rE T p.2))) : PPs X pos (some k :: ks) (v :: vs) (((fk, fv) :: ps).map fun p => (rE T p.1, rE T p.2)) := pps_cons hk hv hr
theorem jDispV {keys : List (Option Expr)} {values : List Expr} {ps : List (SE × SE)} (h : PPs X pos keys values (ps.map fun p => (rE T p.1, rE T p.2))) (hall : keys.all (·.isSome) = true := by rfl) (hl : keys.length = values.length := by rfl) (h0 : keys ≠ [] := by (intro z; cases z)) (h15 : keys.length ≤ 15 := by decide) :
    PE X (.Dict keys values pos) (rE T (dToV (eDisp ps))) := toE (pe_disp h hall hl h0 h15) (sim_dispV ps)
theorem jDispR {keys : List (Option Expr)} {values : List Expr} {ps : List (SE × SE)} (h : PPs X pos keys values (ps.map fun p => (rE T p.1, rE T p.2))) (hall : keys.all (·.isSome) = true := by rfl) (hl : keys.length = values.length := by rfl) (h0 : keys ≠ [] := by (intro z; cases z)) (h15 : keys.length ≤ 15 := by decide) :
    PE X (.Dict keys values pos) (rE T (dToR (eDisp ps))) := toE (pe_disp h hall hl h0 h15) (sim_dispR ps)
theorem jMulA (ha : PE X a (rE T fa)) (hb : PE X b (rE T fb)) : PE X (.BinOp a .Mult b pos) (rE T (eOp2 gMulA fa fb)) := jOp op_MulA vo_MulA ha hb
/-! targets -/
theorem sim_g3 {K : PySem.W.Frag} {i j l : Nat} : SimG T [i, j, l] (gTup K 3 (gCons (gName i) (gCons (gName j) (gCons (gName l) gNil)))) (kTup (ksCons (kName i) (ksCons (kName j) (ksCons (kName l) ksNil)))) := by
  refine sim_gtup (is := [i] ++ ([j] ++ ([l] ++ []))) (sim_gcons sim_gname (sim_gcons sim_gname (sim_gcons sim_gname sim_gnil))) fun ds r r' h => ?_
  match ds, h with
  | [_, _, _], _ => rfl
  | [], h => cases h
  | [_], h => cases h
  | [_, _], h => cases h
  | _ :: _ :: _ :: _ :: _, h => cases h
theorem sim_g4 {K : PySem.W.Frag} {i j l m : Nat} : SimG T [i, j, l, m] (gTup K 4 (gCons (gName i) (gCons (gName j) (gCons (gName l) (gCons (gName m) gNil))))) (kTup (ksCons (kName i) (ksCons (kName j) (ksCons (kName l) (ksCons (kName m) ksNil))))) := by
  refine sim_gtup (is := [i] ++ ([j] ++ ([l] ++ ([m] ++ [])))) (sim_gcons sim_gname (sim_gcons sim_gname (sim_gcons sim_gname (sim_gcons sim_gname sim_gnil)))) fun ds r r' h => ?_
  match ds, h with
  | [_, _, _, _], _ => rfl
  | [], h => cases h
  | [_], h => cases h
  | [_, _], h => cases h
  | [_, _, _], h => cases h
  | _ :: _ :: _ :: _ :: _ :: _, h => cases h
theorem jg3 {x y z : Expr} {i j l k : Nat} (hc : X.calm = true) (h1 : PG X x (gName i)) (h2 : PG X y (gName j)) (h3 : PG X z (gName l)) (hs : (assignEach [x, y, z] X.env).map (·.2) = assign x X.env :: (assignEach [y, z] X.env).map (·.2) := by rfl) (hs2 : (assignEach [y, z] X.env).map (·.2) = assign y X.env :: (assignEach [z] X.env).map (·.2) := by rfl) (hs3 : (assignEach [z] X.env).map (·.2) = assign z X.env :: (assignEach [] X.env).map (·.2) := by rfl)
    (hn : (assignEach [x, y, z] X.env).length = 3 := by rfl) (hst : (assignEach [x, y, z] X.env).findIdx? (·.1) = none := by rfl) : PG X (.Tuple [x, y, z] k pos) (gTup X.K 3 (gCons (gName i) (gCons (gName j) (gCons (gName l) gNil)))) := pg_tup hc (pgs_cons h1 (pgs_cons h2 (pgs_cons h3 pgs_nil hs3) hs2) hs) hn hst
theorem jg4 {x y z v : Expr} {i j l m k : Nat} (hc : X.calm = true) (h1 : PG X x (gName i)) (h2 : PG X y (gName j)) (h3 : PG X z (gName l)) (h4 : PG X v (gName m)) (hs : (assignEach [x, y, z, v] X.env).map (·.2) = assign x X.env :: (assignEach [y, z, v] X.env).map (·.2) := by rfl) (hs2 : (assignEach [y, z, v] X.env).map (·.2) = assign y X.env :: (assignEach [z, v] X.env).map (·.2) := by rfl) (hs3 : (assignEach [z, v] X.env).map (·.2) = assign z X.env :: (assignEach [v] X.env).map (·.2) := by rfl) (hs4 : (assignEach [v] X.env).map (·.2) = assign v X.env :: (assignEach [] X.env).map (·.2) := by rfl)
    (hn : (assignEach [x, y, z, v] X.env).length = 4 := by rfl) (hst : (assignEach [x, y, z, v] X.env).findIdx? (·.1) = none := by rfl) : PG X (.Tuple [x, y, z, v] k pos) (gTup X.K 4 (gCons (gName i) (gCons (gName j) (gCons (gName l) (gCons (gName m) gNil))))) := pg_tup hc (pgs_cons h1 (pgs_cons h2 (pgs_cons h3 (pgs_cons h4 pgs_nil hs4) hs3) hs2) hs) hn hst
/-- x, y = e -/
theorem jsAsg {tg : Expr} {tgt : TG} {kt : SG} {is : List Nat} (hk : SimG T is tgt kt) (he : PE X e (rE T fa)) (hg : PG X tg tgt) (hs : swapsWithSole [tg] e pos.line X.env = pure false := by rfl) (hw : swappedStores [tg] e X.env = pure none := by rfl) (h1 : (assignEach [tg] X.env).map (·.2) = [assign tg X.env] := by rfl) :
    PS X (.Assign [tg] e pos) (rS T (sAsg kt fa)) := toS (ps_asg he hg hs hw h1) (sim_asg sE hk)
/-- x, y = a, b -/
theorem jsPar2 {i j : Nat} {x y : Str} {px py pt : Pos} {kt k2 : Nat} {pt2 : Pos} (hc : X.calm = true) (hN : X.N.Nodup) (ha : PA X [a, b] (rA T fs)) (hi : X.N[i]? = some x := by rfl) (hj : X.N[j]? = some y := by rfl) (hij : i ≠ j := by decide) (hx : X.env.scope.names.lookup x = some .local := by rfl) (hy : X.env.scope.names.lookup y = some .local := by rfl)
    (hw : swappedStores [.Tuple [.Name x px, .Name y py] kt pt] (.Tuple [a, b] k2 pt2) X.env = pure (some [x, y]) := by rfl) (hs : swapsWithSole [.Tuple [.Name x px, .Name y py] kt pt] (.Tuple [a, b] k2 pt2) pos.line X.env = pure false := by rfl) :
    PS X (.Assign [.Tuple [.Name x px, .Name y py] kt pt] (.Tuple [a, b] k2 pt2) pos) (rS T (sPar [i, j] fs)) := toS (ps_par hc hN hi hj hij hx hy ha hw hs) (sim_par2 sA)
theorem jsPar3 {i j l : Nat} {x y z : Str} {px py pz pt : Pos} {kt k2 : Nat} {pt2 : Pos} (hc : X.calm = true) (hN : X.N.Nodup) (ha : PA X [a, b, c] (rA T fs)) (hi : X.N[i]? = some x := by rfl) (hj : X.N[j]? = some y := by rfl) (hl : X.N[l]? = some z := by rfl) (hij : i ≠ j := by decide) (hil : i ≠ l := by decide) (hjl : j ≠ l := by decide) (hx : X.env.scope.names.lookup x = some .local := by rfl) (hy : X.env.scope.names.lookup y = some .local := by rfl) (hz : X.env.scope.names.lookup z = some .local := by rfl)
    (hw : swappedStores [.Tuple [.Name x px, .Name y py, .Name z pz] kt pt] (.Tuple [a, b, c] k2 pt2) X.env = pure (some [x, y, z]) := by rfl) (hs : swapsWithSole [.Tuple [.Name x px, .Name y py, .Name z pz] kt pt] (.Tuple [a, b, c] k2 pt2) pos.line X.env = pure false := by rfl) :
    PS X (.Assign [.Tuple [.Name x px, .Name y py, .Name z pz] kt pt] (.Tuple [a, b, c] k2 pt2) pos) (rS T (sPar [i, j, l] fs)) := toS (ps_par3 hc hN hi hj hl hij hil hjl hx hy hz ha hw hs) (sim_par3 sA)
theorem jsAugP {i : Nat} {x : Str} {p2 : Pos} (hN : X.N.Nodup) (he : PE X e (rE T fa)) (hi : X.N[i]? = some x := by rfl) (hx : Loc X.env.scope x := by first | exact Or.inl rfl | exact Or.inr rfl) (hf : X.fn x = true ∨ X.env.scope.names.lookup x = some .local := by first | exact .inl rfl | exact .inr rfl) :
    PS X (.AugAssign (.Name x p2) .Add e pos) (rS T (sAug i (gI cT fun i j => i + j) fa)) := toS (ps_aug hN hi hx he ip_add hf) (sim_augI sE)
end
end HB

set_option Elab.async false
set_option linter.all false
set_option maxRecDepth 100000
set_option maxHeartbeats 1000000
/-! HB, part y: calls by keywords in one order; dict comprehensions as live objects. -/
namespace HB
open PySem PySem.Spec PyProof.Rows L2
/-- a global name that holds such a def, called by keywords in the order q -/
structure GCq (P : Program) (w : World) (K : PySem.W.Frag) (mg : Str → Option Value) (base : Heap) (k : Nat) (x : Str) (ps : List Str) (q : List Nat) (sp : Sp) : Prop where
  ex : ∃ (f : Addr) (fd : FuncData), mg x = some (.ref f) ∧ PySem.W.keepIn K (.ref f) = true ∧ GFn P w K mg base k f fd ps sp ∧
    ∀ (s : Shared) (ws : List Value), ws.length = ps.length → BindsTo s fd ⟨[], (q.map fun i => ps.getD i "").zip (q.map fun i => ws.getD i .none)⟩ (ps.zip ws)
section
variable {X : Cx} {k : Nat} {x : Str} {ps : List Str} {sp : Sp} {p pos : Pos} {e : Expr} {es : List Expr} {t : TA} {kws : List Keyword}
theorem pe_gq {q : List Nat} (c : GCq X.prog X.w X.K X.mg X.base k x ps q sp) (hr : Room k X.A) (hg : X.A.guards = some []) (gl : Gl X x) (hk : PK X kws t) (hq : q.Perm (List.range ps.length)) (hdb : (x == ("__debug__" : Str)) = false := by decide)
    (hall : (backToKw pos (keywordEach kws X.env)).all (·.1.isSome) = true := by rfl) (hks : (backToKw pos (keywordEach kws X.env)).filterMap (·.1) = q.map fun i => ps.getD i "" := by rfl)
    (hpl : ((backTo pos (starEach [] X.env)).any (·.1) || (backToKw pos (keywordEach kws X.env)).any (·.1.isNone)) = false := by rfl) : PE X (.Call (.Name x p) [] kws pos) (tGk ps.length q sp t) := by
  obtain ⟨f, fd, hm, hk', F, hb⟩ := c.ex
  constructor
  intro pins s s1 H Q I h
  refine wpAny_Call_Name_kw (ld_glob I gl hm ?_ hdb)
  refine PySem.W.callWith_KW0 (h₀ := X.base) I.ok.mod.kin hk' hall (thn (hk.run pos pins s s1 H _ I h) fun ws s2 ⟨vs, H1, I1, r, us, hl, ev, qq⟩ => ⟨I1.kIn, ?_⟩) hpl
  rw [hks]
  have hm' : ∀ i, i < us.length → ∃ j, q[j]? = some i := fun i hi => by
    have : i ∈ q := hq.mem_iff.mpr (by simp; omega)
    exact List.mem_iff_getElem?.mp this
  -- the values in the parameters' order
  have key : ∃ zs : List Value, Vals us zs ∧ ws = q.map fun i => zs.getD i .none := by
    have hex : ∀ i : Nat, ∃ z : Value, i < us.length → (RelV (us.getD i .non) z ∧ ∀ j : Nat, q[j]? = some i → ws[j]? = some z) := fun i => by
      by_cases hi : i < us.length
      · obtain ⟨j, hj⟩ := hm' i hi
        have hv : vs[j]? = some (us.getD i .non) := by rw [ev, List.getElem?_map, hj]; rfl
        obtain ⟨z, hz, rz⟩ := r.get hv
        refine ⟨z, fun _ => ⟨rz, fun j' hj' => ?_⟩⟩
        have nd : q.Nodup := hq.nodup_iff.mpr List.nodup_range
        have : j = j' := nodupIx nd hj hj'
        subst this
        exact hz
      · exact ⟨.none, fun h => absurd h hi⟩
    obtain ⟨z, hz⟩ := Classical.axiomOfChoice hex
    refine ⟨(List.range us.length).map z, ?_, ?_⟩
    · have all : ∀ (n : Nat) (us' : List V) (g : Nat → Value), us'.length = n → (∀ i, i < n → RelV (us'.getD i .non) (g i)) → Vals us' ((List.range n).map g) := by
        intro n
        induction n with
        | zero => intro us' g h1 _; rw [List.length_eq_zero_iff.mp h1]; exact .nil
        | succ n ih =>
          intro us' g h1 h2
          match us', h1 with
          | u :: us', h1 =>
            rw [List.range_succ_eq_map, List.map_cons, List.map_map]
            exact .cons (h2 0 (by omega)) (ih us' _ (by simpa using h1) fun i hi => by simpa using h2 (i + 1) (by omega))
      exact all us.length us z rfl fun i hi => (hz i hi).1
    · apply List.ext_getElem?
      intro j
      rw [List.getElem?_map]
      cases hj : q[j]? with
      | none =>
        have : q.length ≤ j := List.getElem?_eq_none_iff.mp hj
        rw [List.getElem?_eq_none]
        · rfl
        · have e1 := r.length
          have e2 : vs.length = q.length := by rw [ev, List.length_map]
          omega
      | some i =>
        have hi : i < us.length := by
          have : i ∈ q := List.mem_of_getElem? hj
          have := hq.mem_iff.mp this
          simp at this
          omega
        rw [(hz i hi).2 j hj]
        simp [hi]
  obtain ⟨zs, rz, ez⟩ := key
  have hlz : zs.length = ps.length := by rw [← rz.length]; exact hl
  rw [ez]
  exact run_g F hr hg (hb s2 zs hlz) hlz I1 rz qq
end
section
variable {T : List (Addr × Str)} {P : Program} {w : World} {K : PySem.W.Frag} {mg : Str → Option Value} {base : Heap} {x : Str} {args : Arguments} {body : List Stmt} {sc : Scope} {f : Addr} {fd : FuncData} {N ps : List Str} {k : Nat}
theorem GCq.of {sp : Sp} {q : List Nat} (F : FunD K x x args body sc [] [] f fd) (hm : mg x = some (.ref f)) (G : GFn P w K mg base k f fd ps sp)
    (h2 : ∀ (kV doc pm : Value) (an : Option Addr) (cdv ct : Value) (ws : List Value), ws.length = ps.length → bindArgs (PySem.W.fnOf x x args body sc .none kV doc pm an cdv ct) ⟨[], (q.map fun i => ps.getD i "").zip (q.map fun i => ws.getD i .none)⟩ = pure (ps.zip ws)) : GCq P w K mg base k x ps q sp := by
  refine ⟨f, fd, hm, F.kp, G, fun s ws hl => ?_⟩
  obtain ⟨oc, od, dV, kV, doc, pm, an, cdv, ct, osl, rfl, lk, hcd, hD, hK⟩ := F.ex
  rcases hD with ⟨_, rfl⟩ | ⟨e, _⟩
  · exact .of_eq (h2 kV doc pm an cdv ct ws hl)
  · exact absurd rfl e
end
section
variable {T : List (Addr × Str)} {X : Cx} {e : Expr} {fa fb : SE} {ga : ST} {fs : SA} {pos : Pos}
theorem jCallQ {k : Nat} {x : Str} {ps : List Str} {F : List Dt → Sto → Option (Dt × Sto)} {p : Pos} {kws : List Keyword} {q : List Nat} (c : GCq X.prog X.w X.K X.mg X.base k x ps q (SpF T ps.length F)) (hr : Room k X.A) (hg : X.A.guards = some []) (gl : Gl X x) (hk : PK X kws (rA T fs)) (hq : q.Perm (List.range ps.length)) (hdb : (x == ("__debug__" : Str)) = false := by decide)
    (hall : (backToKw pos (keywordEach kws X.env)).all (·.1.isSome) = true := by rfl) (hks : (backToKw pos (keywordEach kws X.env)).filterMap (·.1) = q.map fun i => ps.getD i "" := by rfl)
    (hpl : ((backTo pos (starEach [] X.env)).any (·.1) || (backToKw pos (keywordEach kws X.env)).any (·.1.isNone)) = false := by rfl) : PE X (.Call (.Name x p) [] kws pos) (rE T (eN (gFk ps.length q F) fs)) := toE (pe_gq c hr hg gl hk hq hdb hall hks hpl) (sim_gk sA hq)
theorem jDcR {kx vx tg iter : Expr} {ifs : List Expr} {scope : Scope} {own : List (Str × Nat)} {g : TG} {k : SG} {fi : SA} {is : List Nat} (hc : X.calm = true) (hN : X.N.Nodup) (hk : SimG T is g k) (hi : PI X tg iter (rI T fi)) (ok : BlkOk X.N X.env.scope scope own)
    (hg : ∀ s H C cl fp, PG (blkX X scope s H C cl fp) tg g) (ht : ∀ s H C cl fp, PTs (blkX X scope s H C cl fp) ifs (rT T ga)) (hkx : ∀ s H C cl fp, PE (blkX X scope s H C cl fp) kx (rE T fa)) (hvx : ∀ s H C cl fp, PE (blkX X scope s H C cl fp) vx (rE T fb)) (hz : ∀ i ∈ is, i ∈ own.map (·.2)) (hs : ∀ x, foldedSetIterable iter X.env x = pure x := by intro _; rfl) :
    PE X (.DictComp kx vx [⟨tg, iter, ifs, 0⟩] scope pos) (rE T (dToR (dc fi (own.map (·.2)) k ga fa fb))) := toE (pe_dc hc hN hi ok hg ht hkx hvx hs) (sim_dcR sI hk sT sE sE hz)
end
end HB

set_option Elab.async false
set_option linter.all false
set_option maxRecDepth 100000
set_option maxHeartbeats 1000000
/-! The plain theory of words and states, with no def in sight. -/
namespace HB
open PySem PySem.Spec PyProof.Rows L2
def letB (z : Str) : Bool := !decide (z.cps.toList < ("!" : Str).cps.toList) && !decide (("~" : Str).cps.toList < z.cps.toList)
def wordB (n : Nat) (w : Str) : Bool := decide (1 ≤ w.length) && (decide (w.length ≤ 7) && (w.cps.toList.all (fun c => letB ⟨#[c]⟩) && decide (w.length = n)))
def goodW (ws : List Str) : Bool := decide (1 ≤ ws.length) && (decide (ws.length ≤ 5) && (ws.all (wordB (ws.headD "").length) && decide ws.Nodup))
def ins2 (k : Str) (l : List Str) : List Str := if k ∈ l then l else l ++ [k]
def pre (w : Str) (n : Nat) : Str := ⟨(w.cps.toList.take n).toArray⟩
def preOf (w : Str) : List Str := (List.range (w.length + 1)).map (pre w)
def keysOf (ws : List Str) : List Str := (ws.flatMap preOf).foldl (fun l k => ins2 k l) []
def allSt (ws : List Str) : List Str := sortK (keysOf ws)
def lastS (z : Str) : Str := ⟨#[z.cps.toList.getLastD 0]⟩
def after (ws : List Str) (s : Str) : List Str := ((allSt ws).filter fun (o : Str) => decide (o ≠ ("" : Str)) && decide (pre o (o.length - 1) = s)).map lastS
def below (ws : List Str) (s : Str) : List Str := (allSt ws).filter fun o => decide (o.length < s.length) && Txt.endswith s o
def bigM : Int := ((10 ^ 60) ^ 60) ^ 4
def mixN (a k : Int) : Int :=
  let n := (a % 1000003 + k * k * 7919 + k) * 48271 % 2147483629
  let m := n * n % 2147483587
  m * (m + 2) % 2147483579 / 7
structure Drw where
  a : Int
  k : Nat
  b : Bool
def Drw.dt (x : Drw) : Dt := .lst [.int x.a, .int x.k, .bl x.b]
def nextN (x : Drw) : Int × Drw := if x.b = true then (x.a % 1000000, ⟨x.a / 1000000, x.k + 1, x.b⟩) else (mixN x.a (x.k + 1), ⟨x.a, x.k + 1, x.b⟩)
def signsOf (i : Nat) : Str := (["ab", "ab", "abc", "!~z"] : List Str).getD i ""
def wordOf (sg : Str) : Nat → Drw → List Nat × Drw
  | 0, x => ([], x)
  | n + 1, x => let y := nextN x; let z := wordOf sg n y.2; (sg.cps.toList.getD ((y.1 % sg.length).toNat) 0 :: z.1, z.2)
def wordsOf (sg : Str) (lg : Nat) : Nat → List Str → Drw → List Str × Drw
  | 0, l, x => (l, x)
  | n + 1, l, x => let y := wordOf sg lg x; wordsOf sg lg n (ins2 ⟨y.1.toArray⟩ l) y.2
def lawWords (most : Int) (x : Drw) : List Str × Drw :=
  let y1 := nextN x
  let y2 := nextN y1.2
  let y3 := nextN y2.2
  wordsOf (signsOf (y1.1 % 4).toNat) (1 + y2.1 % most).toNat (1 + y3.1 % 5).toNat [] y3.2
theorem line_ge : 16777216 ≤ sizeLine := by decide
structure Good (ws : List Str) (n : Nat) : Prop where
  n1 : 1 ≤ n
  n7 : n ≤ 7
  l1 : 1 ≤ ws.length
  l5 : ws.length ≤ 5
  len : ∀ w ∈ ws, w.length = n
  let_ : ∀ w ∈ ws, ∀ c ∈ w.cps.toList, letB ⟨#[c]⟩ = true
  nd : ws.Nodup
theorem good_of {ws : List Str} (h : goodW ws = true) : ∃ n, Good ws n := by
  unfold goodW at h
  simp only [Bool.and_eq_true, decide_eq_true_eq, List.all_eq_true] at h
  obtain ⟨h1, h2, h3, h4⟩ := h
  have key : ∀ w ∈ ws, 1 ≤ w.length ∧ w.length ≤ 7 ∧ (∀ c ∈ w.cps.toList, letB ⟨#[c]⟩ = true) ∧ w.length = (ws.headD "").length := fun w hw => by
    have := h3 w hw
    unfold wordB at this
    simp only [Bool.and_eq_true, decide_eq_true_eq, List.all_eq_true] at this
    exact this
  match ws, h1, h2, h4, key with
  | w :: ws, h1, h2, h4, key =>
    have k0 := key w List.mem_cons_self
    exact ⟨w.length, k0.1, k0.2.1, h1, h2, fun v hv => (key v hv).2.2.2, fun v hv => (key v hv).2.2.1, h4⟩
theorem v_toR0 {fs : SA} {r : Evr} {st : Sto} {ds : List Dt} (h : fs r st = some (ds, [])) : toR fs r st = some (.ref 0, [some (.lst ds)]) := v_toR h
theorem b_rt0 {g : SS} {n : Nat} {ds : List Dt} {st st1 : Sto} {d : Dt} (h : g (startD n ds) st = some (.rt d st1)) : bodyF g n ds st = some (d, st1) := by unfold bodyF; rw [h]; rfl
theorem hMd (i j : Int) (h : 0 < j) : cMod i j = true := by unfold cMod; exact decide_eq_true h
theorem hDv (i j : Int) (h : 0 < j ∧ j < 1073741824) : cDiv i j = true := by unfold cDiv; exact decide_eq_true h
theorem t_nT {c : ST} {r : Evr} {st st1 : Sto} (h : c r st = some (true, st1)) : cNot c r st = some (false, st1) := t_not h
theorem t_nF {c : ST} {r : Evr} {st st1 : Sto} (h : c r st = some (false, st1)) : cNot c r st = some (true, st1) := t_not h
theorem v_le3 {f : SE} {r : Evr} {st st1 : Sto} {z lo hi : Int} (h : f r st = some (.int z, st1)) (h1 : lo ≤ z) (h2 : z ≤ hi) : eChain gLe gLe (eC (.int lo)) f (eC (.int hi)) r st = some (.bl true, st1) :=
  v_chain rfl h (by rw [v_le, decide_eq_true h1]) rfl (by rw [v_le, decide_eq_true h2])
theorem v_inF {st : Sto} {x : Str} {l : List Str} {d : Dt} (h : asL st d = some (l.map Dt.str)) (hm : x ∉ l) : gIn false st (.str x) d = some (.bl false, st) := by rw [v_inS h, decide_eq_false hm]; rfl
theorem v_inT {st : Sto} {x : Str} {l : List Str} {d : Dt} (h : asL st d = some (l.map Dt.str)) (hm : x ∈ l) : gIn false st (.str x) d = some (.bl true, st) := by rw [v_inS h, decide_eq_true hm]; rfl
theorem v_ninF {st : Sto} {x : Str} {l : List Str} {d : Dt} (h : asL st d = some (l.map Dt.str)) (hm : x ∈ l) : gIn true st (.str x) d = some (.bl false, st) := by rw [v_inS h, decide_eq_true hm]; rfl
theorem v_ninT {st : Sto} {x : Str} {l : List Str} {d : Dt} (h : asL st d = some (l.map Dt.str)) (hm : x ∉ l) : gIn true st (.str x) d = some (.bl true, st) := by rw [v_inS h, decide_eq_false hm]; rfl
theorem atI_zero {α : Type} (x : α) (l : List α) : atI (x :: l) 0 = some x := by simp [atI, ixN]
theorem sIx0 (n d : Nat) : HT.sIx n d none = d := rfl
theorem cutS_pre (z : Str) (n : Nat) : cutS z none (some (n : Int)) = pre z n := by
  unfold cutS pre
  rw [sIx0, HT.sIx_nat]
  have : z.length = z.cps.toList.length := by simp [Str.length]
  congr 1
  rw [List.drop_zero, Nat.sub_zero, this, ← List.take_eq_take_min]
theorem cutL_map {α : Type} (f : α → Dt) (l : List α) (n : Nat) : cutL (l.map f) none (some (n : Int)) = (l.take n).map f := by
  unfold cutL
  rw [sIx0, HT.sIx_nat, List.drop_zero, Nat.sub_zero, ← List.take_eq_take_min, List.map_take]
theorem good_len {ws : List Str} {n : Nat} (h : Good ws n) {w : Str} (hw : w ∈ ws) : w.length ≤ sizeLine := by
  rw [h.len w hw]
  exact Nat.le_trans h.n7 (Nat.le_trans (by decide) line_ge)
abbrev WL (ws : List Str) : Dt := .lst (ws.map Dt.str)
theorem isi_str (z : Str) (st : Sto) : gIs "str" st [.str z] = some (.bl true, st) := rfl
theorem isi_lst (z : List Dt) (st : Sto) : gIs "list" st [.lst z] = some (.bl true, st) := rfl
theorem bools_all (l : List Nat) (h : ∀ c ∈ l, letB ⟨#[c]⟩ = true) : gAll [] [.lst (l.map fun c => Dt.bl (letB ⟨#[c]⟩))] = some (.bl true, []) := by
  show ((bools (l.map fun c => Dt.bl (letB ⟨#[c]⟩))).map _) = _
  rw [bools_map (fun c => letB ⟨#[c]⟩) l]
  show some (Dt.bl ((l.map fun c => letB ⟨#[c]⟩).all id), []) = _
  rw [show ((l.map fun c => letB ⟨#[c]⟩).all id) = true from by rw [List.all_map, List.all_eq_true]; exact h]
theorem ins2_mem {k x : Str} {l : List Str} : x ∈ ins2 k l ↔ x = k ∨ x ∈ l := by
  unfold ins2
  split
  · rename_i h
    exact ⟨.inr, fun z => z.elim (fun e => e ▸ h) id⟩
  · simp [or_comm]
theorem ins2_nodup {k : Str} {l : List Str} (h : l.Nodup) : (ins2 k l).Nodup := by
  unfold ins2
  split
  · exact h
  · rename_i n
    exact List.nodup_append.mpr ⟨h, by simp, fun a ha b hb e => n (by rw [List.mem_singleton.mp hb] at e; exact e ▸ ha)⟩
theorem ins2_len (k : Str) (l : List Str) : (ins2 k l).length ≤ l.length + 1 := by
  unfold ins2
  split <;> simp
theorem fold_mem {x : Str} : ∀ (ks l : List Str), x ∈ ks.foldl (fun l k => ins2 k l) l ↔ x ∈ ks ∨ x ∈ l
  | [], l => by simp
  | k :: ks, l => by
    rw [List.foldl_cons, fold_mem ks, ins2_mem]
    simp only [List.mem_cons]
    constructor
    · rintro (h | h | h)
      · exact .inl (.inr h)
      · exact .inl (.inl h)
      · exact .inr h
    · rintro ((h | h) | h)
      · exact .inr (.inl h)
      · exact .inl h
      · exact .inr (.inr h)
theorem fold_nodup : ∀ (ks l : List Str), l.Nodup → (ks.foldl (fun l k => ins2 k l) l).Nodup
  | [], l, h => h
  | k :: ks, l, h => by rw [List.foldl_cons]; exact fold_nodup ks _ (ins2_nodup h)
theorem fold_len : ∀ (ks l : List Str), (ks.foldl (fun l k => ins2 k l) l).length ≤ l.length + ks.length
  | [], l => by simp
  | k :: ks, l => by
    rw [List.foldl_cons]
    have := fold_len ks (ins2 k l)
    have := ins2_len k l
    rw [List.length_cons]
    omega
theorem pre_len (w : Str) (n : Nat) : (pre w n).length = min n w.length := by
  unfold pre
  simp [Str.length]
theorem mem_keys {ws : List Str} {x : Str} : x ∈ keysOf ws ↔ ∃ w ∈ ws, ∃ n ≤ w.length, x = pre w n := by
  unfold keysOf
  rw [fold_mem]
  simp only [List.mem_flatMap, preOf, List.mem_map, List.mem_range, List.not_mem_nil, or_false]
  constructor
  · rintro ⟨w, hw, n, hn, e⟩
    exact ⟨w, hw, n, by omega, e.symm⟩
  · rintro ⟨w, hw, n, hn, e⟩
    exact ⟨w, hw, n, by omega, e.symm⟩
theorem keys_nodup (ws : List Str) : (keysOf ws).Nodup := fold_nodup _ _ List.nodup_nil
abbrev dS (l : List Str) : Dt := .dic (l.map Sum.inr) (l.map fun _ => .bl true)
theorem pSet_true : ∀ (k : Str) (l : List Str), pSet (Sum.inr k) (Dt.bl true) (l.map (Sum.inr : Str → Key)) (l.map fun _ => .bl true) = l.map fun _ => Dt.bl true
  | _, [] => rfl
  | k, x :: l => by
    rw [List.map_cons, List.map_cons]
    show (if (Sum.inr x : Key) = Sum.inr k then Dt.bl true else Dt.bl true) :: pSet (Sum.inr k) (Dt.bl true) (l.map (Sum.inr : Str → Key)) (l.map fun _ => .bl true) = _
    rw [pSet_true k l, ite_self]
theorem put_dS (k : Str) (l : List Str) : Dt.dic (pPut (Sum.inr k) (Dt.bl true) (l.map (Sum.inr : Str → Key)) (l.map fun _ => .bl true)).1 (pPut (Sum.inr k) (Dt.bl true) (l.map (Sum.inr : Str → Key)) (l.map fun _ => .bl true)).2 = dS (ins2 k l) := by
  unfold pPut ins2
  have e : ((l.map (Sum.inr : Str → Key)).any fun j => decide (j = Sum.inr k)) = decide (k ∈ l) := by
    induction l with
    | nil => simp
    | cons x l ih =>
      rw [List.map_cons, List.any_cons, ih]
      by_cases h : x = k
      · subst h; simp
      · have h' : ¬ k = x := fun z => h z.symm
        simp [h, h']
  rw [e]
  by_cases h : k ∈ l
  · simp only [h, decide_true, if_true]
    rw [pSet_true]
  · simp only [h, decide_false, if_false]
    simp [dS]
theorem s_DP {r : Evr} {st st1 st2 st3 : Sto} {fd fk fv : SE} {v kd : Dt} {i : Nat} {k : Key} {ks : List Key} {es : List Dt} (h1 : fv r st = some (v, st1)) (h2 : fd r st1 = some (.ref i, st2)) (h3 : fk r st2 = some (kd, st3)) (h4 : st3[i]? = some (some (.dic ks es))) (hz : ks.length < sizeLine) (hk : keyD kd = some k) :
    sDP fd fk fv r st = some (.nx r (st3.set i (some (.dic (pPut k v ks es).1 (pPut k v ks es).2)))) := by
  unfold sDP
  rw [h1]
  show (fd r st1).bind _ = _
  rw [h2]
  show (fk r st2).bind _ = _
  rw [h3]
  show (match st3[i]? with
    | some (some (.dic ks ds)) => if ks.length < sizeLine then (keyD kd).map fun k => Ou.nx r (st3.set i (some (.dic (pPut k v ks ds).1 (pPut k v ks ds).2))) else none
    | _ => none) = _
  rw [h4]
  show (if ks.length < sizeLine then (keyD kd).map _ else none) = _
  rw [if_pos hz, hk]
  rfl
theorem rng_eq (n : Nat) : rngL 0 n = (List.range n).map fun i => Dt.int (0 + (i : Nat)) := rfl
theorem v_rg {f : SA} {r : Evr} {st st1 : Sto} {n : Nat} (h : f r st = some ([.int (n : Nat)], st1)) (hn : n < 1000000) : iR rg1 f r st = some ((List.range n).map fun i => Dt.int (0 + (i : Nat)), st1) := by
  refine v_iR h ?_
  simp only [rg1]
  rw [if_pos (by omega), Int.toNat_natCast]
  rfl
theorem mem_all {ws : List Str} {x : Str} : x ∈ allSt ws ↔ x ∈ keysOf ws := (List.mergeSort_perm (keysOf ws) keyLe).mem_iff
theorem all_nodup (ws : List Str) : (allSt ws).Nodup := (List.mergeSort_perm (keysOf ws) keyLe).nodup_iff.mpr (keys_nodup ws)
theorem all_len7 {ws : List Str} {n : Nat} (hg : Good ws n) {x : Str} (h : x ∈ allSt ws) : x.length ≤ 7 := by
  obtain ⟨w, hw, k, hk, rfl⟩ := mem_keys.mp (mem_all.mp h)
  have := hg.len w hw
  have := hg.n7
  have := pre_len w k
  omega
theorem all_line {ws : List Str} {n : Nat} (hg : Good ws n) {x : Str} (h : x ∈ allSt ws) : x.length ≤ sizeLine := Nat.le_trans (all_len7 hg h) (Nat.le_trans (by decide) line_ge)
theorem all_few {ws : List Str} {n : Nat} (hg : Good ws n) : (allSt ws).length ≤ 40 := by
  have e : (allSt ws).length = (keysOf ws).length := (List.mergeSort_perm (keysOf ws) keyLe).length_eq
  have h := fold_len (ws.flatMap preOf) []
  have h2 : (ws.flatMap preOf).length ≤ 8 * ws.length := by
    have : ∀ l : List Str, (∀ w ∈ l, w.length ≤ 7) → (l.flatMap preOf).length ≤ 8 * l.length := by
      intro l
      induction l with
      | nil => simp
      | cons w l ih =>
        intro h
        rw [List.flatMap_cons, List.length_append, List.length_cons]
        have := ih fun v hv => h v (by simp [hv])
        have h7 := h w (by simp)
        have : (preOf w).length = w.length + 1 := by unfold preOf; simp
        omega
    exact this ws fun w hw => by rw [hg.len w hw]; exact hg.n7
  have h5 := hg.l5
  have : (keysOf ws).length = ((ws.flatMap preOf).foldl (fun l k => ins2 k l) []).length := rfl
  rw [List.length_nil, Nat.zero_add] at h
  omega
theorem nr1 (ws : List Str) : noRefs [WL ws] = true := (Bool.and_eq_true _ _).mpr ⟨noRef_lstS ws, rfl⟩
theorem nr2 (s : Str) (ws : List Str) : noRefs [.str s, WL ws] = true := (Bool.and_eq_true _ _).mpr ⟨rfl, nr1 ws⟩
theorem nr3 (s : Str) (ws : List Str) : noRefs [WL ws, .str s] = true := (Bool.and_eq_true _ _).mpr ⟨noRef_lstS ws, rfl⟩
theorem v_neg1 {r : Evr} {st : Sto} : eNeg (eC (.int 1)) r st = some (.int (-1), st) := rfl
theorem str_len (z : Str) : z.length = z.cps.toList.length := by simp [Str.length]
theorem cutS_m1 (z : Str) : cutS z none (some (-1)) = pre z (z.length - 1) := by
  unfold cutS pre
  rw [sIx0]
  have : HT.sIx z.length z.length (some (-1)) = z.length - 1 := by
    show (if (-1 : Int) < 0 then (-1 + (z.length : Int)).toNat else min (-1 : Int).toNat z.length) = _
    rw [if_pos (by decide)]
    omega
  rw [this, List.drop_zero, Nat.sub_zero]
theorem str_ne {z : Str} (h : z ≠ ("" : Str)) : z.cps.toList ≠ [] := fun e => h (by
  cases z with
  | mk c =>
    have : c = #[] := by simpa using e
    subst this
    rfl)
theorem at_m1 {z : Str} (h : z ≠ ("" : Str)) : atI z.cps.toList (-1) = some (z.cps.toList.getLastD 0) := by
  have hne := str_ne h
  have hl : 0 < z.cps.toList.length := List.length_pos_iff.mpr hne
  unfold atI ixN
  rw [if_neg (by decide), if_pos (by omega)]
  show z.cps.toList[(-1 + (z.cps.toList.length : Int)).toNat]? = _
  have : (-1 + (z.cps.toList.length : Int)).toNat = z.cps.toList.length - 1 := by omega
  rw [this, ← List.getLast?_eq_getElem?]
  rw [List.getLast?_eq_some_getLast hne]
  congr 1
  exact (List.getLastD_eq_getLast? ..).symm ▸ (by rw [List.getLast?_eq_some_getLast hne]; rfl)
theorem put_new (k : Str) (d : Dt) (l : List Str) (h : k ∉ l) (es : List Dt) : pPut (Sum.inr k) d (l.map (Sum.inr : Str → Key)) es = ((l ++ [k]).map Sum.inr, es ++ [d]) := by
  unfold pPut
  rw [if_neg]
  · simp
  · intro z
    rw [List.any_eq_true] at z
    obtain ⟨y, hy, e⟩ := z
    obtain ⟨x, hx, rfl⟩ := List.mem_map.mp hy
    simp at e
    exact h (e ▸ hx)
theorem pGet_ix : ∀ (l : List Str) (s : Str) (f : Nat → Dt), s ∈ l → ∃ j, l[j]? = some s ∧ pGet (Sum.inr s) (l.map (Sum.inr : Str → Key)) ((List.range l.length).map f) = some (f j)
  | [], _, _, h => by simp at h
  | x :: l, s, f, h => by
    rw [List.length_cons, List.range_succ_eq_map, List.map_cons, List.map_cons, List.map_map]
    by_cases e : x = s
    · subst e
      exact ⟨0, rfl, by simp [pGet]⟩
    · obtain ⟨j, h1, h2⟩ := pGet_ix l s (f ∘ Nat.succ) ((List.mem_cons.mp h).resolve_left fun z => e z.symm)
      refine ⟨j + 1, by simpa using h1, ?_⟩
      have : pGet (Sum.inr s) (Sum.inr x :: l.map (Sum.inr : Str → Key)) (f 0 :: (List.range l.length).map (f ∘ Nat.succ)) = pGet (Sum.inr s) (l.map (Sum.inr : Str → Key)) ((List.range l.length).map (f ∘ Nat.succ)) := by
        simp [pGet, e]
      rw [this, h2]
      rfl
theorem keyLe_iff {a b : Str} : keyLe a b = true ↔ a.length < b.length ∨ (a.length = b.length ∧ strLe a b = true) := by
  unfold keyLe
  simp [Bool.or_eq_true, Bool.and_eq_true]
theorem keyLe_trans (a b c : Str) (h : keyLe a b = true) (h' : keyLe b c = true) : keyLe a c = true := by
  rw [keyLe_iff] at *
  rcases h with h | ⟨h, s⟩ <;> rcases h' with h' | ⟨h', s'⟩
  · left; omega
  · left; omega
  · left; omega
  · exact .inr ⟨by omega, strLe_trans a b c s s'⟩
theorem keyLe_total (a b : Str) : (keyLe a b || keyLe b a) = true := by
  rw [Bool.or_eq_true, keyLe_iff, keyLe_iff]
  rcases Nat.lt_trichotomy a.length b.length with h | h | h
  · exact .inl (.inl h)
  · have := strLe_total a b
    rw [Bool.or_eq_true] at this
    rcases this with t | t
    · exact .inl (.inr ⟨h, t⟩)
    · exact .inr (.inr ⟨h.symm, t⟩)
  · exact .inr (.inl h)
theorem keyLe_anti (a b : Str) (h : keyLe a b = true) (h' : keyLe b a = true) : a = b := by
  rw [keyLe_iff] at *
  rcases h with h | ⟨h, s⟩ <;> rcases h' with h' | ⟨h', s'⟩
  · omega
  · omega
  · omega
  · exact strLe_anti a b s s'
theorem all_sorted (ws : List Str) : (allSt ws).Pairwise fun a b => keyLe a b = true := List.pairwise_mergeSort keyLe_trans keyLe_total _
theorem perm_same {l m : List Str} (hl : l.Nodup) (hm : m.Nodup) (h : ∀ x, x ∈ l ↔ x ∈ m) : l.Perm m := (List.perm_ext_iff_of_nodup hl hm).mpr fun {x} => h x
theorem sorted_one {l m : List Str} (hl : l.Nodup) (hm : m.Nodup) (h : ∀ x, x ∈ l ↔ x ∈ m) (sl : l.Pairwise fun a b => keyLe a b = true) (sm : m.Pairwise fun a b => keyLe a b = true) : l = m :=
  List.Perm.eq_of_pairwise (le := fun a b => keyLe a b = true) (fun a b _ _ h1 h2 => keyLe_anti a b h1 h2) sl sm (perm_same hl hm h)
def blk (ws : List Str) (i : Nat) : List Str := sortS (setL (ws.map fun w => pre w i))
theorem blk_mem {ws : List Str} {i : Nat} {x : Str} : x ∈ blk ws i ↔ ∃ w ∈ ws, pre w i = x := by
  unfold blk
  rw [(sortS_perm _).mem_iff, setL_mem, List.mem_map]
theorem blk_nodup (ws : List Str) (i : Nat) : (blk ws i).Nodup := (sortS_perm _).nodup_iff.mpr (setL_nodup _)
theorem blk_len {ws : List Str} {n i : Nat} (hn : Good ws n) (hi : i ≤ n) {x : Str} (h : x ∈ blk ws i) : x.length = i := by
  obtain ⟨w, hw, rfl⟩ := blk_mem.mp h
  rw [pre_len, hn.len w hw]
  omega
theorem blk_few {ws : List Str} {n : Nat} (hn : Good ws n) (i : Nat) : (blk ws i).length ≤ 5 := by
  unfold blk
  have h := setL_len (ws.map fun w => pre w i)
  rw [List.length_map] at h
  rw [sortS_len]
  have := hn.l5
  omega
def lawSt (ws : List Str) (n : Nat) : List Str := (List.range (n + 1)).flatMap (blk ws)
theorem law_st {ws : List Str} {n : Nat} (hn : Good ws n) : lawSt ws n = allSt ws := by
  have mem : ∀ x, x ∈ lawSt ws n ↔ x ∈ allSt ws := fun x => by
    unfold lawSt
    rw [mem_all, mem_keys, List.mem_flatMap]
    constructor
    · rintro ⟨i, hi, h⟩
      obtain ⟨w, hw, rfl⟩ := blk_mem.mp h
      rw [List.mem_range] at hi
      exact ⟨w, hw, i, by rw [hn.len w hw]; omega, rfl⟩
    · rintro ⟨w, hw, i, hi, rfl⟩
      rw [hn.len w hw] at hi
      exact ⟨i, List.mem_range.mpr (by omega), blk_mem.mpr ⟨w, hw, rfl⟩⟩
  have lt : (List.range (n + 1)).Pairwise fun a b => ∀ x ∈ blk ws a, ∀ y ∈ blk ws b, x.length < y.length := by
    refine (List.pairwise_lt_range).imp_of_mem ?_
    intro a b ha hb hab x hx y hy
    rw [List.mem_range] at ha hb
    rw [blk_len hn (by omega) hx, blk_len hn (by omega) hy]
    exact hab
  refine sorted_one ?_ (all_nodup ws) mem ?_ (all_sorted ws)
  · unfold lawSt
    rw [List.Nodup, List.pairwise_flatMap]
    exact ⟨fun i _ => blk_nodup ws i, lt.imp fun h x hx y hy e => by have := h x hx y hy; rw [e] at this; omega⟩
  · unfold lawSt
    rw [List.pairwise_flatMap]
    refine ⟨fun i hi => ?_, lt.imp fun h x hx y hy => keyLe_iff.mpr (.inl (h x hx y hy))⟩
    rw [List.mem_range] at hi
    refine (sortS_sorted _).imp_of_mem ?_
    intro x y hx hy s
    exact keyLe_iff.mpr (.inr ⟨(blk_len hn (by omega) hx).trans (blk_len hn (by omega) hy).symm, s⟩)
theorem c_ss {f : SE} {r : Evr} {st st1 : Sto} {l : List Str} (h : f r st = some (.lst (l.map Dt.str), st1)) (hl : l.length ≤ 5) : eN gSS (aCons f aNil) r st = some (.lst ((sortS (setL l)).map Dt.str), st1) := by
  refine v_N (v_one h) ?_
  show ((strs' (l.map Dt.str)).bind fun ys => if ys.length + 1 < scanBound then _ else none) = _
  rw [strs_self]
  show (if l.length + 1 < scanBound then _ else none) = _
  rw [if_pos (by unfold scanBound; omega)]
theorem pre_toList (w : Str) (n : Nat) : (pre w n).cps.toList = w.cps.toList.take n := by unfold pre; simp
theorem pre_pre (w : Str) (k j : Nat) (h : j ≤ k) : pre (pre w k) j = pre w j := by
  refine str_ext ?_
  rw [pre_toList, pre_toList, pre_toList, List.take_take, Nat.min_eq_left h]
theorem pre_full {w : Str} {n : Nat} (h : w.length ≤ n) : pre w n = w := by
  refine str_ext ?_
  rw [pre_toList, List.take_of_length_le (by rw [← str_len]; exact h)]
theorem nonempty_iff {o : Str} : o ≠ ("" : Str) ↔ 1 ≤ o.length := by
  constructor
  · intro h
    have := List.length_pos_iff.mpr (str_ne h)
    rw [str_len]; omega
  · intro h e
    rw [e] at h
    exact absurd h (by decide)
def lawT (ws : List Str) (s : Str) : List Str := sortS (setL ((ws.filter fun w => decide (pre w s.length = s) && decide (s.length < w.length)).map fun w => pre w (s.length + 1)))
theorem lawT_mem {ws : List Str} {s o : Str} : o ∈ lawT ws s ↔ ∃ w ∈ ws, pre w s.length = s ∧ s.length < w.length ∧ o = pre w (s.length + 1) := by
  unfold lawT
  rw [(sortS_perm _).mem_iff, setL_mem, List.mem_map]
  constructor
  · rintro ⟨w, hw, rfl⟩
    rw [List.mem_filter, Bool.and_eq_true, decide_eq_true_eq, decide_eq_true_eq] at hw
    exact ⟨w, hw.1, hw.2.1, hw.2.2, rfl⟩
  · rintro ⟨w, hw, h1, h2, rfl⟩
    exact ⟨w, List.mem_filter.mpr ⟨hw, by rw [Bool.and_eq_true, decide_eq_true_eq, decide_eq_true_eq]; exact ⟨h1, h2⟩⟩, rfl⟩
theorem lawT_len {ws : List Str} {s o : Str} (h : o ∈ lawT ws s) : o.length = s.length + 1 := by
  obtain ⟨w, hw, h1, h2, rfl⟩ := lawT_mem.mp h
  rw [pre_len]; omega
theorem lawT_eq {ws : List Str} {n : Nat} (hn : Good ws n) (s : Str) : lawT ws s = (allSt ws).filter fun (o : Str) => decide (o ≠ ("" : Str)) && decide (pre o (o.length - 1) = s) := by
  refine sorted_one ((sortS_perm _).nodup_iff.mpr (setL_nodup _)) ((all_nodup ws).filter _) (fun x => ?_) ?_ ((all_sorted ws).filter _)
  · rw [List.mem_filter, Bool.and_eq_true, decide_eq_true_eq, decide_eq_true_eq, nonempty_iff, lawT_mem, mem_all, mem_keys]
    constructor
    · rintro ⟨w, hw, h1, h2, rfl⟩
      have hl : (pre w (s.length + 1)).length = s.length + 1 := by rw [pre_len]; omega
      refine ⟨⟨w, hw, s.length + 1, by omega, rfl⟩, by omega, ?_⟩
      rw [hl, pre_pre w _ _ (by omega)]
      exact h1
    · rintro ⟨⟨w, hw, k, hk, rfl⟩, h1, h2⟩
      have hl : (pre w k).length = k := by rw [pre_len]; omega
      rw [hl] at h1 h2
      rw [pre_pre w _ _ (by omega)] at h2
      have hs : s.length = k - 1 := by rw [← h2, pre_len]; omega
      refine ⟨w, hw, ?_, by omega, ?_⟩
      · rw [hs]; exact h2
      · rw [hs]
        congr 1
        omega
  · refine (sortS_sorted _).imp_of_mem ?_
    intro x y hx hy h
    exact keyLe_iff.mpr (.inr ⟨(lawT_len hx).trans (lawT_len hy).symm, h⟩)
def Sm (x : Str) : Prop := x.length ≤ 7 ∧ ∀ c ∈ x.cps.toList, c < 128
theorem letB_lt {c : Nat} (h : letB ⟨#[c]⟩ = true) : c < 128 := by
  unfold letB at h
  rw [Bool.and_eq_true] at h
  have h2 := h.2
  rw [Bool.not_eq_true', decide_eq_false_iff_not] at h2
  have e : ("~" : Str).cps.toList = [126] := by decide +kernel
  rw [e] at h2
  by_cases hc : c < 128
  · exact hc
  · exfalso
    apply h2
    show [126] < [c]
    exact List.Lex.rel (by omega)
theorem sm_word {ws : List Str} {n : Nat} (hn : Good ws n) {w : Str} (hw : w ∈ ws) : Sm w := ⟨by rw [hn.len w hw]; exact hn.n7, fun c hc => letB_lt (hn.let_ w hw c hc)⟩
theorem sm_pre {w : Str} (h : Sm w) (k : Nat) : Sm (pre w k) := ⟨by rw [pre_len]; have := h.1; omega, fun c hc => h.2 c (by rw [pre_toList] at hc; exact List.mem_of_mem_take hc)⟩
theorem sm_all {ws : List Str} {n : Nat} (hn : Good ws n) {x : Str} (h : x ∈ allSt ws) : Sm x := by
  obtain ⟨w, hw, k, hk, rfl⟩ := mem_keys.mp (mem_all.mp h)
  exact sm_pre (sm_word hn hw) k
theorem sm_last {z : Str} (h : Sm z) : Sm (lastS z) := by
  refine ⟨by unfold lastS; simp [Str.length], fun c hc => ?_⟩
  have e : c = z.cps.toList.getLastD 0 := List.mem_singleton.mp hc
  have m : z.cps.toList.getLastD 0 ∈ 0 :: z.cps.toList := List.getLastD_mem_cons
  rw [← e] at m
  rcases List.mem_cons.mp m with m | m
  · rw [m]; decide
  · exact h.2 c m
theorem sm_after {ws : List Str} {n : Nat} (hn : Good ws n) {s x : Str} (h : x ∈ after ws s) : Sm x := by
  unfold after at h
  obtain ⟨o, ho, rfl⟩ := List.mem_map.mp h
  exact sm_last (sm_all hn (List.mem_filter.mp ho).1)
theorem sm_below {ws : List Str} {n : Nat} (hn : Good ws n) {s x : Str} (h : x ∈ below ws s) : Sm x := sm_all hn (List.mem_filter.mp h).1
theorem text_up : ∀ (ts : List Str) (k : Nat) (acc : Str), (textFrom k acc ts).length ≤ acc.length + piled ts
  | [], k, acc => by show acc.length ≤ _; rw [piled_nil]; omega
  | t :: r, k, acc => by
    have h := text_up r (k + 1) (acc ++ (if k > 0 then ", " else "" : String) ++ t)
    rw [app_len, app_len] at h
    have e : ((if k > 0 then ", " else "" : String) : Str).length ≤ 2 := by
      split
      · decide
      · decide
    rw [piled_cons]
    show (textFrom (k + 1) _ r).length ≤ _
    omega
theorem list_up (ts : List Str) : (listText ts).length ≤ piled ts + 2 := by
  have h := text_up ts 0 "["
  unfold listText
  rw [app_len]
  have e1 : ("[" : Str).length = 1 := by decide +kernel
  have e2 : ("]" : Str).length = 1 := by decide +kernel
  rw [e1] at h
  rw [e2]
  omega
theorem rep_sm {x : Str} (h : Sm x) : (repT (.str x)).length ≤ 72 := by
  have := StrLaws.reprText_len x fun c hc => Nat.lt_of_lt_of_le (h.2 c hc) (by decide)
  have h7 := h.1
  show (reprText x).length ≤ 72
  omega
theorem piled_sm : ∀ l : List Str, (∀ x ∈ l, Sm x) → piled (repTs (l.map Dt.str)) ≤ 74 * l.length
  | [], _ => by decide
  | x :: l, h => by
    have ih := piled_sm l fun y hy => h y (by simp [hy])
    have hx := rep_sm (h x (by simp))
    rw [List.map_cons]
    show piled (repT (.str x) :: repTs (l.map Dt.str)) ≤ _
    rw [piled_cons, List.length_cons]
    omega
theorem rep_lst {l : List Str} (h : ∀ x ∈ l, Sm x) (hl : l.length ≤ 40) : (repT (WL l)).length ≤ 3000 := by
  have h1 := piled_sm l h
  have h2 := list_up (repTs (l.map Dt.str))
  show (listText (repTs (l.map Dt.str))).length ≤ 3000
  omega
theorem repOks_str : ∀ l : List Str, repOks (l.map Dt.str) = true
  | [] => by unfold repOks; rfl
  | x :: l => by
    rw [List.map_cons]
    unfold repOks
    rw [repOks_str l]
    unfold repOk
    rfl
theorem depDs_str : ∀ l : List Str, depDs (l.map Dt.str) = 0
  | [] => by unfold depDs; rfl
  | x :: l => by
    rw [List.map_cons]
    unfold depDs
    rw [depDs_str l]
    unfold depD
    rfl
structure Fine (l : List Str) : Prop where
  sm : ∀ x ∈ l, Sm x
  few : l.length ≤ 40
theorem v_rep1 {st : Sto} {d : Dt} {l : List Str} (hd : deref st 8 d = some (WL l)) (h : Fine l) : gRep st [d] = some (.str (repT (WL l)), st) := by
  have hs := line_ge
  have := rep_lst h.sm h.few
  show ((deref st 8 d).bind fun d => if noRef d = true ∧ repOk d = true ∧ depD d ≤ 32 ∧ (repT d).length ≤ sizeLine then some (Dt.str (repT d), st) else none) = _
  rw [hd]
  refine if_pos ⟨noRef_lstS l, by unfold repOk; exact repOks_str l, by unfold depD; rw [depDs_str]; decide, by omega⟩
def LL (ls : List (List Str)) : Dt := .lst (ls.map WL)
theorem LL_ok : ∀ ls : List (List Str), (∀ l ∈ ls, Fine l) → noRefs (ls.map WL) = true ∧ repOks (ls.map WL) = true ∧ depDs (ls.map WL) ≤ 1 ∧ piled (repTs (ls.map WL)) ≤ 3002 * ls.length
  | [], _ => ⟨by unfold noRefs; rfl, by unfold repOks; rfl, by unfold depDs; decide, by decide⟩
  | l :: ls, h => by
    obtain ⟨h1, h2, h3, h4⟩ := LL_ok ls fun m hm => h m (by simp [hm])
    have hl := h l (by simp)
    have := rep_lst hl.sm hl.few
    rw [List.map_cons]
    refine ⟨?_, ?_, ?_, ?_⟩
    · unfold noRefs; rw [noRef_lstS, h1]; rfl
    · unfold repOks; rw [h2]; unfold repOk; rw [repOks_str]; rfl
    · unfold depDs; unfold depD; rw [depDs_str]; omega
    · show piled (repT (WL l) :: repTs (ls.map WL)) ≤ _
      rw [piled_cons, List.length_cons]
      omega
theorem v_rep2 {st : Sto} {d : Dt} {ls : List (List Str)} (hd : deref st 8 d = some (LL ls)) (h : ∀ l ∈ ls, Fine l) (hl : ls.length ≤ 4) : gRep st [d] = some (.str (repT (LL ls)), st) := by
  have hs := line_ge
  obtain ⟨h1, h2, h3, h4⟩ := LL_ok ls h
  have hu := list_up (repTs (ls.map WL))
  have he : (repT (LL ls)).length ≤ sizeLine := by
    show (listText (repTs (ls.map WL))).length ≤ sizeLine
    omega
  show ((deref st 8 d).bind fun d => if noRef d = true ∧ repOk d = true ∧ depD d ≤ 32 ∧ (repT d).length ≤ sizeLine then some (Dt.str (repT d), st) else none) = _
  rw [hd]
  refine if_pos ⟨by unfold LL noRef; exact h1, by unfold LL repOk; exact h2, by unfold LL depD; omega, he⟩
theorem ends_cut {s o : Str} (h : o.length < s.length) : Txt.endswith s o = decide (cutS s (some ((s.length : Int) - (o.length : Int))) none = o) := by
  have e1 : HT.sIx s.length 0 (some ((s.length : Int) - (o.length : Int))) = s.length - o.length := by
    show (if (s.length : Int) - (o.length : Int) < 0 then _ else min ((s.length : Int) - (o.length : Int)).toNat s.length) = _
    rw [if_neg (by omega)]
    omega
  have e2 : (cutS s (some ((s.length : Int) - (o.length : Int))) none).cps.toList = s.cps.toList.drop (s.length - o.length) := by
    unfold cutS
    rw [e1, sIx0]
    simp only [List.toList_toArray]
    rw [List.take_of_length_le]
    rw [List.length_drop, ← str_len]
    omega
  unfold Txt.endswith
  rw [StrLaws.subAt_eq, decide_eq_true (show 0 + o.length ≤ s.length by omega), Bool.true_and]
  have e3 : (s.cps.toList.drop (s.length - o.length)).take o.length = s.cps.toList.drop (s.length - o.length) := by
    rw [List.take_of_length_le]
    rw [List.length_drop, ← str_len]
    omega
  rw [e3, ← e2]
  by_cases hc : cutS s (some ((s.length : Int) - (o.length : Int))) none = o
  · rw [decide_eq_true hc, hc]
    simp
  · rw [decide_eq_false hc, beq_eq_false_iff_ne]
    exact fun z => hc (str_ext z)
theorem after_nil {ws : List Str} {n : Nat} (hn : Good ws n) {s : Str} (hs : s ∈ allSt ws) : after ws s = [] ↔ s ∈ ws := by
  unfold after
  rw [List.map_eq_nil_iff, List.filter_eq_nil_iff]
  obtain ⟨w, hw, k, hk, e⟩ := mem_keys.mp (mem_all.mp hs)
  have hl := hn.len w hw
  constructor
  · intro h
    by_cases hkn : k = n
    · rw [e, hkn, pre_full (by omega)]; exact hw
    · exfalso
      refine h (pre w (k + 1)) (mem_all.mpr (mem_keys.mpr ⟨w, hw, k + 1, by omega, rfl⟩)) ?_
      have hp : (pre w (k + 1)).length = k + 1 := by rw [pre_len]; omega
      rw [Bool.and_eq_true, decide_eq_true_eq, decide_eq_true_eq, nonempty_iff, hp, pre_pre w _ _ (by omega)]
      exact ⟨by omega, by rw [e]; congr 1⟩
  · intro h o ho hp
    rw [Bool.and_eq_true, decide_eq_true_eq, decide_eq_true_eq, nonempty_iff] at hp
    obtain ⟨v, hv, j, hj, rfl⟩ := mem_keys.mp (mem_all.mp ho)
    have hlv := hn.len v hv
    have hls := hn.len s h
    have hp2 := pre_len v j
    have : (pre (pre v j) ((pre v j).length - 1)).length = s.length := by rw [hp.2]
    rw [pre_len] at this
    omega
theorem shaped_str : ∀ l : List Str, (∀ x ∈ l, Sm x) → PyData.canLayAll0 (l.map PyData.str) = true
  | [], _ => by unfold PyData.canLayAll0; rfl
  | x :: l, h => by
    rw [List.map_cons]
    unfold PyData.canLayAll0
    rw [shaped_str l fun y hy => h y (by simp [hy]), Bool.and_true]
    unfold PyData.canLay0
    have := (h x (by simp)).2
    unfold PyData.strOk
    rw [← Array.all_toList, List.all_eq_true]
    intro c hc
    exact decide_eq_true (Nat.lt_trans (this c hc) (by decide))
theorem depth_str : ∀ l : List Str, PyData.depthAll (l.map PyData.str) = 0
  | [] => by unfold PyData.depthAll; rfl
  | x :: l => by
    rw [List.map_cons]
    unfold PyData.depthAll
    rw [depth_str l]
    unfold PyData.depth
    rfl
theorem mapM_str (st : Sto) (n : Nat) : ∀ l : List Str, (l.map Dt.str).mapM (py st (n + 1)) = some (l.map PyData.str)
  | [] => rfl
  | x :: l => by
    rw [List.map_cons, List.mapM_cons, mapM_str st n l]
    rfl
theorem eqv_str : ∀ l m : List Str, PyData.eqvAll (l.map PyData.str) (m.map PyData.str) = decide (l = m)
  | [], [] => by unfold PyData.eqvAll; rfl
  | [], _ :: _ => by rw [List.map_cons, List.map_nil]; unfold PyData.eqvAll; rfl
  | _ :: _, [] => by rw [List.map_cons, List.map_nil]; unfold PyData.eqvAll; rfl
  | x :: l, y :: m => by
    rw [List.map_cons, List.map_cons]
    unfold PyData.eqvAll
    rw [eqv_str l m]
    unfold PyData.eqv
    by_cases h1 : x = y
    · subst h1
      by_cases h2 : l = m
      · subst h2; simp
      · simp [h2]
    · have : (x == y) = false := by simpa using h1
      rw [this]
      simp [h1]
theorem deref4 {st : Sto} {a b c d : Nat} {A B C D : Dt} (h1 : st[a]? = some (some A)) (h2 : st[b]? = some (some B)) (h3 : st[c]? = some (some C)) (h4 : st[d]? = some (some D)) (n1 : noRef A = true) (n2 : noRef B = true) (n3 : noRef C = true) (n4 : noRef D = true) : deref st 8 (.lst [.ref a, .ref b, .ref c, .ref d]) = some (.lst [A, B, C, D]) := by
  unfold deref
  rw [if_neg (by unfold noRef noRefs noRef; simp)]
  show (derefs st 7 [.ref a, .ref b, .ref c, .ref d]).map _ = _
  unfold derefs
  rw [deref_ref (n := 5) h1 n1]
  show ((derefs st 6 [.ref b, .ref c, .ref d]).map _).map _ = _
  unfold derefs
  rw [deref_ref (n := 4) h2 n2]
  show (((derefs st 5 [.ref c, .ref d]).map _).map _).map _ = _
  unfold derefs
  rw [deref_ref (n := 3) h3 n3]
  show ((((derefs st 4 [.ref d]).map _).map _).map _).map _ = _
  unfold derefs
  rw [deref_ref (n := 2) h4 n4]
  show (((((derefs st 3 []).map _).map _).map _).map _).map _ = _
  unfold derefs
  rfl
theorem deref2 {st : Sto} {a b : Nat} {A B : Dt} (h1 : st[a]? = some (some A)) (h2 : st[b]? = some (some B)) (n1 : noRef A = true) (n2 : noRef B = true) : deref st 8 (.lst [.ref a, .ref b]) = some (.lst [A, B]) := by
  unfold deref
  rw [if_neg (by unfold noRef noRefs noRef; simp)]
  show (derefs st 7 [.ref a, .ref b]).map _ = _
  unfold derefs
  rw [deref_ref (n := 5) h1 n1]
  show ((derefs st 6 [.ref b]).map _).map _ = _
  unfold derefs
  rw [deref_ref (n := 4) h2 n2]
  show (((derefs st 5 []).map _).map _).map _ = _
  unfold derefs
  rfl
theorem get_at (st l : Sto) (i : Nat) : (st ++ l)[st.length + i]? = l[i]? := by
  rw [List.getElem?_append_right (by omega)]
  congr 1
  omega
theorem c_R {m : List Dt → Option Dt} {ds : List Dt} {d : Dt} (st p : Sto) (hn : noRefs ds = true) (h : m ds = some d) : liftR m ds (st ++ p) = some (.ref (st.length + p.length), st ++ (p ++ [some d])) := by
  rw [v_R hn h, List.length_append, List.append_assoc]
theorem v_app {fo : SE} {r : Evr} {st st1 : Sto} {k : Nat} {es : List Dt} (h : fo r st = some (.ref k, st1)) (hk : st1[k]? = some (some (.lst es))) (hz : es.length < sizeLine) : eM isL gApp fo (aCons (eC .non) aNil) r st = some (.non, st1.set k (some (.lst (es ++ [.non])))) := by
  unfold eM
  rw [h]
  show (if isL st1 (.ref k) = true then _ else none) = _
  have e : asL st1 (.ref k) = some es := by
    show (match st1[k]? with
      | some (some (.lst ds)) => some ds
      | _ => none) = _
    rw [hk]
  rw [if_pos (by unfold isL; rw [e]; rfl)]
  show gApp st1 (.ref k) [.non] = _
  show (match st1[k]? with
    | some (some (.lst ds)) => if ds.length < sizeLine then some (Dt.non, st1.set k (some (.lst (ds ++ [Dt.non])))) else none
    | _ => none) = _
  rw [hk]
  exact if_pos hz
theorem fine_all {ws : List Str} {n : Nat} (hn : Good ws n) : Fine (allSt ws) := ⟨fun x hx => sm_all hn hx, all_few hn⟩
theorem fine_ws {ws : List Str} {n : Nat} (hn : Good ws n) : Fine ws := ⟨fun x hx => sm_word hn hx, by have := hn.l5; omega⟩
theorem fine_after {ws : List Str} {n : Nat} (hn : Good ws n) (s : Str) : Fine (after ws s) := ⟨fun x hx => sm_after hn hx, by
  unfold after
  rw [List.length_map]
  exact Nat.le_trans (List.length_filter_le _ _) (all_few hn)⟩
theorem fine_below {ws : List Str} {n : Nat} (hn : Good ws n) (s : Str) : Fine (below ws s) := ⟨fun x hx => sm_below hn hx, Nat.le_trans (List.length_filter_le _ _) (all_few hn)⟩
theorem next_k (x : Drw) : (nextN x).2.k = x.k + 1 := by unfold nextN; split <;> rfl
theorem at_mod {α : Type} (l : List α) (n m : Int) (hm : m = l.length) (h : 0 < m) (d : α) : atI l (n % m) = some (l.getD (n % m).toNat d) := by
  have h1 := Int.emod_nonneg n (show m ≠ 0 by omega)
  have h2 := Int.emod_lt_of_pos n h
  unfold atI ixN
  rw [if_pos h1, if_pos (by omega)]
  show l[(n % m).toNat]? = _
  rw [List.getD_eq_getElem?_getD]
  have : (n % m).toNat < l.length := by omega
  rw [List.getElem?_eq_getElem this]
  rfl
theorem lcGo_cons {kt : SG} {c : ST} {f : SE} {r r1 : Evr} {x y : Dt} {xs zs : List Dt} {st st1 st2 st3 : Sto} (hk : kt x r = some r1) (hc : c r1 st = some (true, st1)) (hf : f r1 st1 = some (y, st2)) (ht : lcGo kt c f r xs st2 = some (zs, st3)) : lcGo kt c f r (x :: xs) st = some (y :: zs, st3) := by
  show (kt x r).bind _ = _
  rw [hk]
  show (c r1 st).bind _ = _
  rw [hc]
  show (f r1 st1).bind _ = _
  rw [hf]
  show (lcGo kt c f r xs st2).bind _ = _
  rw [ht]
  rfl
structure Sg (sg : Str) : Prop where
  l1 : 1 ≤ sg.length
  l3 : sg.length ≤ 3
theorem sg_line {sg : Str} (h : Sg sg) : sg.length ≤ sizeLine := Nat.le_trans h.l3 (by decide)
theorem word_k (sg : Str) : ∀ (n : Nat) (x : Drw), (wordOf sg n x).2.k = x.k + n
  | 0, x => rfl
  | n + 1, x => by
    show (wordOf sg n (nextN x).2).2.k = _
    rw [word_k sg n, next_k]
    omega
theorem word_len (sg : Str) : ∀ (n : Nat) (x : Drw), (wordOf sg n x).1.length = n
  | 0, x => rfl
  | n + 1, x => by
    show ((wordOf sg n (nextN x).2).1.length + 1) = _
    rw [word_len sg n]
theorem joinL_one : ∀ cs : List Nat, TL.joinL [] (cs.map fun c => [c]) = cs
  | [] => rfl
  | [c] => rfl
  | c :: d :: cs => by
    have ih := joinL_one (d :: cs)
    rw [List.map_cons] at ih
    rw [List.map_cons, List.map_cons]
    show [c] ++ ([] ++ TL.joinL [] ([d] :: cs.map fun c => [c])) = _
    rw [ih]
    rfl
theorem join_one (cs : List Nat) : Txt.join ("" : Str) (cs.map fun c => ⟨#[c]⟩) = ⟨cs.toArray⟩ := by
  refine str_ext ?_
  show TL.tl (Txt.join ("" : Str) (cs.map fun c => ⟨#[c]⟩)) = _
  rw [TL.join_eq, TL.tl_join, List.map_map]
  have e : TL.tl ("" : Str) = [] := by decide +kernel
  rw [e]
  show TL.joinL [] (cs.map fun c => [c]) = _
  rw [joinL_one]
theorem ones : ∀ cs : List Nat, (cs.map fun _ => 1).sum = cs.length
  | [] => rfl
  | c :: cs => by rw [List.map_cons, List.sum_cons, ones cs, List.length_cons]; omega
theorem v_M1 {g : Sto → Dt → Dt → Option (Dt × Sto)} {fo fe : SE} {r : Evr} {st st1 st2 : Sto} {a : Str} {y : Dt} {q : Dt × Sto} (h1 : fo r st = some (.str a, st1)) (h2 : fe r st1 = some (y, st2)) (h3 : g st2 (.str a) y = some q) : eM1 g fo fe r st = some q := by
  unfold eM1
  rw [h1]
  show (if isS st1 (.str a) = true then (fe r st1).bind _ else none) = _
  rw [if_pos (show isS st1 (Dt.str a) = true from rfl), h2]
  exact h3
theorem v_join (cs : List Nat) (h : cs.length ≤ 7) (st : Sto) : gJoin st (.str "") (.lst (cs.map fun c => Dt.str ⟨#[c]⟩)) = some (.str ⟨cs.toArray⟩, st) := by
  have e : strs' (cs.map fun c => Dt.str ⟨#[c]⟩) = some (cs.map fun c => (⟨#[c]⟩ : Str)) := strs_map (fun c => (⟨#[c]⟩ : Str)) cs
  show ((strs' (cs.map fun c => Dt.str ⟨#[c]⟩)).bind fun ys => if (ys.map (·.length)).sum + ys.length * ("" : Str).length ≤ 16777216 then some (Dt.str (Txt.join "" ys), st) else none) = _
  rw [e]
  show (if ((cs.map fun c => (⟨#[c]⟩ : Str)).map (·.length)).sum + (cs.map fun c => (⟨#[c]⟩ : Str)).length * ("" : Str).length ≤ 16777216 then some (Dt.str (Txt.join "" (cs.map fun c => (⟨#[c]⟩ : Str))), st) else none) = _
  have e2 : ((cs.map fun c => (⟨#[c]⟩ : Str)).map (·.length)).sum = cs.length := by
    rw [List.map_map]
    have : ((·.length) ∘ fun c => (⟨#[c]⟩ : Str)) = fun _ : Nat => 1 := rfl
    rw [this]
    exact ones cs
  have e3 : ("" : Str).length = 0 := by decide +kernel
  rw [e2, e3, Nat.mul_zero, if_pos (by omega), join_one]
abbrev wd (sg : Str) (lg : Nat) (x : Drw) : Str := ⟨(wordOf sg lg x).1.toArray⟩
theorem sg_of (i : Nat) (h : i < 4) : Sg (signsOf i) := by
  have : i = 0 ∨ i = 1 ∨ i = 2 ∨ i = 3 := by omega
  rcases this with rfl | rfl | rfl | rfl <;> exact ⟨by decide +kernel, by decide +kernel⟩
theorem sg_let (i : Nat) (h : i < 4) : ∀ c ∈ (signsOf i).cps.toList, letB ⟨#[c]⟩ = true := by
  have : i = 0 ∨ i = 1 ∨ i = 2 ∨ i = 3 := by omega
  rcases this with rfl | rfl | rfl | rfl <;> (rw [← List.all_eq_true]; decide +kernel)
theorem wordsOf_inv (sg : Str) (lg : Nat) (P : Str → Prop) (hP : ∀ x, P (wd sg lg x)) : ∀ (m : Nat) (l : List Str) (x : Drw), l.Nodup → (∀ w ∈ l, P w) → (wordsOf sg lg m l x).1.Nodup ∧ (∀ w ∈ (wordsOf sg lg m l x).1, P w) ∧ (wordsOf sg lg m l x).1.length ≤ l.length + m ∧ l.length ≤ (wordsOf sg lg m l x).1.length ∧ (1 ≤ m → 1 ≤ (wordsOf sg lg m l x).1.length)
  | 0, l, x, nd, h => ⟨nd, h, Nat.le_refl _, Nat.le_refl _, fun z => by omega⟩
  | m + 1, l, x, nd, h => by
    obtain ⟨h1, h2, h3, h4, h5⟩ := wordsOf_inv sg lg P hP m (ins2 (wd sg lg x) l) (wordOf sg lg x).2 (ins2_nodup nd) fun w hw => (ins2_mem.mp hw).elim (fun e => e ▸ hP x) (h w)
    have hl := ins2_len (wd sg lg x) l
    have hg : l.length ≤ (ins2 (wd sg lg x) l).length := by unfold ins2; split <;> simp
    have hpos : 1 ≤ (ins2 (wd sg lg x) l).length := List.length_pos_of_mem (ins2_mem.mpr (.inl rfl))
    refine ⟨h1, h2, ?_, ?_, fun _ => ?_⟩
    · show (wordsOf sg lg m (ins2 (wd sg lg x) l) (wordOf sg lg x).2).1.length ≤ _
      omega
    · show _ ≤ (wordsOf sg lg m (ins2 (wd sg lg x) l) (wordOf sg lg x).2).1.length
      omega
    · show _ ≤ (wordsOf sg lg m (ins2 (wd sg lg x) l) (wordOf sg lg x).2).1.length
      omega
theorem word_mem {sg : Str} (h1 : 1 ≤ sg.length) : ∀ (n : Nat) (x : Drw), ∀ c ∈ (wordOf sg n x).1, c ∈ sg.cps.toList
  | 0, x, c, h => by cases h
  | n + 1, x, c, h => by
    rcases List.mem_cons.mp h with e | h
    · rw [e, List.getD_eq_getElem?_getD]
      have a := Int.emod_nonneg (nextN x).1 (show (sg.length : Int) ≠ 0 by omega)
      have b := Int.emod_lt_of_pos (nextN x).1 (show (0 : Int) < sg.length by omega)
      have hl := str_len sg
      have : ((nextN x).1 % sg.length).toNat < sg.cps.toList.length := by omega
      rw [List.getElem?_eq_getElem this]
      exact List.getElem_mem _
    · exact word_mem h1 n _ c h
theorem good_law (x : Drw) : goodW (lawWords 7 x).1 = true := by
  unfold lawWords
  simp only []
  generalize (nextN x) = y1
  generalize (nextN y1.2) = y2
  generalize (nextN y2.2) = y3
  have a1 := Int.emod_nonneg y1.1 (show (4 : Int) ≠ 0 by decide)
  have b1 := Int.emod_lt_of_pos y1.1 (show (0 : Int) < 4 by decide)
  have a2 := Int.emod_nonneg y2.1 (show (7 : Int) ≠ 0 by decide)
  have b2 := Int.emod_lt_of_pos y2.1 (show (0 : Int) < 7 by decide)
  have a3 := Int.emod_nonneg y3.1 (show (5 : Int) ≠ 0 by decide)
  have b3 := Int.emod_lt_of_pos y3.1 (show (0 : Int) < 5 by decide)
  have hi : (y1.1 % 4).toNat < 4 := by omega
  generalize (y1.1 % 4).toNat = i at hi
  have hl1 : 1 ≤ (1 + y2.1 % 7).toNat := by omega
  have hl7 : (1 + y2.1 % 7).toNat ≤ 7 := by omega
  generalize (1 + y2.1 % 7).toNat = lg at hl1 hl7
  have hm1 : 1 ≤ (1 + y3.1 % 5).toNat := by omega
  have hm5 : (1 + y3.1 % 5).toNat ≤ 5 := by omega
  generalize (1 + y3.1 % 5).toNat = m at hm1 hm5
  have hs := sg_of i hi
  obtain ⟨h1, h2, h3, h4, h5⟩ := wordsOf_inv (signsOf i) lg (fun w => w.length = lg ∧ ∀ c ∈ w.cps.toList, letB ⟨#[c]⟩ = true) (fun x => ⟨by
    rw [str_len]
    show (wordOf (signsOf i) lg x).1.toArray.toList.length = lg
    rw [List.toList_toArray, word_len], fun c hc => sg_let i hi c (word_mem hs.l1 lg x c (by simpa using hc))⟩) m [] y3.2 List.nodup_nil (fun w hw => by cases hw)
  generalize (wordsOf (signsOf i) lg m [] y3.2).1 = ws at h1 h2 h3 h4 h5
  have h5 := h5 hm1
  rw [List.length_nil] at h3
  have hh : (ws.headD "").length = lg := by
    cases ws with
    | nil => simp at h5
    | cons w l => exact (h2 w (by simp)).1
  unfold goodW
  simp only [Bool.and_eq_true, decide_eq_true_eq, List.all_eq_true]
  refine ⟨h5, by omega, fun w hw => ?_, h1⟩
  unfold wordB
  simp only [Bool.and_eq_true, decide_eq_true_eq, List.all_eq_true]
  have := h2 w hw
  exact ⟨by omega, by omega, this.2, by rw [hh]; exact this.1⟩
def drw0 (c : Int) : Drw := ⟨c % bigM, 0, decide (10 ^ 18 ≤ c)⟩
abbrev dst (cs : List Int) : Sto := cs.map fun c => some (drw0 c).dt
theorem all_by {ws ks l : List Str} (hk : keysOf ws = ks) (hp : ks.Perm l) (hl : l.Nodup) (hs : l.Pairwise fun a b => keyLe a b = true) : allSt ws = l :=
  sorted_one (all_nodup ws) hl (fun x => by rw [mem_all, hk]; exact hp.mem_iff) (all_sorted ws) hs
theorem sm_of (l : List Str) (h : (l.all fun x => decide (x.length ≤ 7) && x.cps.toList.all fun c => decide (c < 128)) = true) : ∀ x ∈ l, Sm x := fun x hx => by
  have := List.all_eq_true.mp h x hx
  simp only [Bool.and_eq_true, decide_eq_true_eq, List.all_eq_true] at this
  exact this
end HB

set_option Elab.async false
set_option linter.all false
set_option maxRecDepth 100000
set_option maxHeartbeats 1000000
/-! HB, part z: plain functions worked out by simp. -/
namespace HB
open PySem PySem.Spec PyProof.Rows L2
section
variable {r : Evr} {st : Sto} {fa fb fc : SE} {fs : SA} {ca cb : ST} {g k : SS} {i n : Nat} {d x y : Dt} {ds : List Dt}
@[simp] theorem zVar : eVar i r st = (match r[i]? with
  | some (some d) => some (d, st)
  | _ => none) := rfl
@[simp] theorem zC : eC d r st = some (d, st) := rfl
@[simp] theorem zOp {f : Sto → Dt → Dt → Option (Dt × Sto)} : eOp2 f fa fb r st = (fa r st).bind fun x => (fb r x.2).bind fun y => f y.2 x.1 y.1 := rfl
@[simp] theorem zNil : aNil r st = some ([], st) := rfl
@[simp] theorem zCons : aCons fa fs r st = (fa r st).bind fun x => (fs r x.2).bind fun y => some (x.1 :: y.1, y.2) := rfl
@[simp] theorem zN {f : Sto → List Dt → Option (Dt × Sto)} : eN f fs r st = (fs r st).bind fun x => f x.2 x.1 := rfl
@[simp] theorem zIf : eIf ca fa fb r st = (ca r st).bind fun b => if b.1 = true then fa r b.2 else fb r b.2 := rfl
@[simp] theorem zChain {f f' : Sto → Dt → Dt → Option (Dt × Sto)} : eChain f f' fa fb fc r st = (fa r st).bind fun x => (fb r x.2).bind fun y => (f y.2 x.1 y.1).bind fun z => match z.1 with
  | .bl true => (fc r z.2).bind fun w => f' w.2 y.1 w.1
  | .bl false => some (.bl false, z.2)
  | _ => none := by
  unfold eChain
  cases fa r st with
  | none => rfl
  | some x =>
    show (fb r x.2).bind _ = (fb r x.2).bind _
    cases fb r x.2 with
    | none => rfl
    | some y =>
      show (f y.2 x.1 y.1).bind _ = (f y.2 x.1 y.1).bind _
      cases f y.2 x.1 y.1 with
      | none => rfl
      | some z =>
        obtain ⟨z1, z2⟩ := z
        cases z1 with
        | bl b => cases b <;> rfl
        | _ => rfl
@[simp] theorem zAndV : eAndV fa fb r st = (fa r st).bind fun x => match x.1 with
  | .bl true => fb r x.2
  | .bl false => some (.bl false, x.2)
  | _ => none := by
  unfold eAndV
  cases fa r st with
  | none => rfl
  | some x =>
    obtain ⟨z1, z2⟩ := x
    cases z1 with
    | bl b => cases b <;> rfl
    | _ => rfl
@[simp] theorem zB : cB fa r st = (fa r st).bind fun x => match x.1 with
  | .bl b => some (b, x.2)
  | _ => none := rfl
@[simp] theorem zAnd' : cAnd ca cb r st = (ca r st).bind fun b => if b.1 = true then cb r b.2 else some (false, b.2) := rfl
@[simp] theorem zOr : cOr ca cb r st = (ca r st).bind fun b => if b.1 = true then some (true, b.2) else cb r b.2 := rfl
@[simp] theorem zNot : cNot ca r st = (ca r st).bind fun b => some (!b.1, b.2) := rfl
@[simp] theorem zYes : cYes r st = some (true, st) := rfl
@[simp] theorem zNx : sNx r st = some (.nx r st) := rfl
@[simp] theorem zNo : sNo r st = none := rfl
@[simp] theorem zRet : sRet fa r st = (fa r st).bind fun x => some (.rt x.1 x.2) := rfl
@[simp] theorem zEx : sEx fa r st = (fa r st).bind fun x => some (.nx r x.2) := rfl
@[simp] theorem zSet : sSet i fa r st = (fa r st).bind fun x => some (.nx (r.set i (some x.1)) x.2) := rfl
@[simp] theorem zSeq : sSeq g k r st = (g r st).bind fun o => match o with
  | .nx r' st' => k r' st'
  | o => some o := rfl
@[simp] theorem zIfS : sIf ca g k r st = (ca r st).bind fun b => if b.1 = true then g r b.2 else k r b.2 := rfl
@[simp] theorem zToV : toV fs r st = (fs r st).bind fun z => some (.lst z.1, z.2) := rfl
@[simp] theorem zToR : toR fs r st = (fs r st).bind fun z => some (.ref z.2.length, z.2 ++ [some (.lst z.1)]) := rfl
@[simp] theorem zToT : toT fs r st = (fs r st).bind fun z => if z.1.length ≤ sizeLine then some (.tup z.1, z.2) else none := rfl
@[simp] theorem zSmall : small fs r st = (fs r st).bind fun z => if z.1.length ≤ sizeLine then some z else none := rfl
@[simp] theorem zDR : eDR r st = some (.ref st.length, st ++ [some (.dic [] [])]) := rfl
@[simp] theorem zFor {fi : SA} {kt : SG} : sFor fi kt g r st = (fi r st).bind fun xs => sForGo kt g xs.1 r xs.2 := rfl
@[simp] theorem zIE {f : Sto → Dt → Option (List Dt)} : iE f fa r st = (fa r st).bind fun x => (f x.2 x.1).map fun xs => (xs, x.2) := rfl
@[simp] theorem zIR {f : List Dt → Option (List Dt)} : iR f fs r st = (fs r st).bind fun x => (f x.1).map fun xs => (xs, x.2) := rfl
@[simp] theorem zItL : itL st (.lst ds) = some ds := rfl
@[simp] theorem zItS {z : Str} : itS st (.str z) = some (z.cps.toList.map fun c => .str ⟨#[c]⟩) := rfl
@[simp] theorem zSl {l h : SO} : eSl fa l h r st = (fa r st).bind fun x => (l r x.2).bind fun a => (h r a.2).bind fun b => (gSl b.2 x.1 a.1 b.1).map fun d => (d, b.2) := rfl
@[simp] theorem zONo : oNo r st = some (none, st) := rfl
@[simp] theorem zOE : oE fa r st = (fa r st).bind fun x => match x.1 with
  | .int i => some (some i, x.2)
  | _ => none := rfl
@[simp] theorem zNeg : eNeg fa r st = (fa r st).bind fun x => match x.1 with
  | .int i => some (.int (-i), x.2)
  | _ => none := rfl
@[simp] theorem zLc {fi : SA} {own : List Nat} {kt : SG} : lc fi own kt ca fa r st = (fi r st).bind fun xs => (lcGo kt ca fa (wipeD r own) xs.1 xs.2).bind fun z => if z.1.length ≤ sizeLine then some z else none := rfl
@[simp] theorem zName : kName i d r = some (r.set i (some d)) := rfl
@[simp] theorem zTup {ks : List Dt → Evr → Option Evr} : kTup ks (.tup ds) r = ks ds r := rfl
@[simp] theorem zKs {kt : SG} {ks : List Dt → Evr → Option Evr} : ksCons kt ks (d :: ds) r = (kt d r).bind fun r' => ks ds r' := rfl
@[simp] theorem zKn : ksNil [] r = some r := rfl
@[simp] theorem zGF {F : List Dt → Sto → Option (Dt × Sto)} : gF n F st ds = if ds.length = n then F ds st else none := rfl
@[simp] theorem zLV {f : List Dt → Option Dt} : liftV f ds st = if noRefs ds = true then (f ds).map fun d => (d, st) else none := rfl
@[simp] theorem zLR {f : List Dt → Option Dt} : liftR f ds st = if noRefs ds = true then (f ds).map fun d => (.ref st.length, st ++ [some d]) else none := rfl
@[simp] theorem zWipe0 : wipeD r [] = r := rfl
@[simp] theorem zWipe {v : Nat} {vs : List Nat} : wipeD r (v :: vs) = (wipeD r vs).set v none := rfl
@[simp] theorem zAsg {kt : SG} : sAsg kt fa r st = (fa r st).bind fun x => (kt x.1 r).map fun r' => .nx r' x.2 := rfl
@[simp] theorem zPar {is : List Nat} : sPar is fs r st = (fs r st).bind fun x => if x.1.length = is.length then some (.nx ((is.zip x.1).foldl (fun r p => r.set p.1 (some p.2)) r) x.2) else none := rfl
@[simp] theorem zRev : eRev fa r st = (fa r st).bind fun x => (asL x.2 x.1).map fun ds => (.lst ds.reverse, x.2) := rfl
@[simp] theorem zItems : eItems fa r st = (fa r st).bind fun x => (asD x.2 x.1).map fun p => (.lst (itemsL p.1 p.2), x.2) := rfl
@[simp] theorem zDToR {f : Evr → Sto → Option ((List Key × List Dt) × Sto)} : dToR f r st = (f r st).bind fun z => some (.ref z.2.length, z.2 ++ [some (.dic z.1.1 z.1.2)]) := rfl
@[simp] theorem zDToV {f : Evr → Sto → Option ((List Key × List Dt) × Sto)} : dToV f r st = (f r st).bind fun z => some (.dic z.1.1 z.1.2, z.2) := rfl
@[simp] theorem zDc {fi : SA} {own : List Nat} {kt : SG} : dc fi own kt ca fa fb r st = (fi r st).bind fun xs => dcGo kt ca fa fb (wipeD r own) xs.1 xs.2 [] [] := rfl
/-! data without live objects -/
@[simp] theorem nrN : noRef .non = true := rfl
@[simp] theorem nrB {b : Bool} : noRef (.bl b) = true := rfl
@[simp] theorem nrI {i : Int} : noRef (.int i) = true := rfl
@[simp] theorem nrS {z : Str} : noRef (.str z) = true := rfl
@[simp] theorem nrL : noRef (.lst ds) = noRefs ds := by unfold noRef; rfl
@[simp] theorem nrT : noRef (.tup ds) = noRefs ds := by unfold noRef; rfl
@[simp] theorem nrD {ks : List Key} : noRef (.dic ks ds) = noRefs ds := by unfold noRef; rfl
@[simp] theorem nrNil : noRefs [] = true := by unfold noRefs; rfl
@[simp] theorem nrCons : noRefs (d :: ds) = (noRef d && noRefs ds) := by conv => lhs; unfold noRefs
theorem noRefs_all : ∀ {ds : List Dt}, noRefs ds = ds.all noRef
  | [] => by simp
  | d :: ds => by rw [nrCons, List.all_cons, noRefs_all]
theorem noRefs_map {α : Type} {f : α → Dt} {l : List α} (h : ∀ a ∈ l, noRef (f a) = true) : noRefs (l.map f) = true := by
  rw [noRefs_all, List.all_eq_true]
  intro d hd
  obtain ⟨a, ha, rfl⟩ := List.mem_map.mp hd
  exact h a ha
@[simp] theorem nrStrs {l : List Str} : noRefs (l.map Dt.str) = true := noRefs_map fun _ _ => rfl
@[simp] theorem nrStrsF {α : Type} {f : α → Str} {l : List α} : noRefs (l.map fun a => Dt.str (f a)) = true := noRefs_map fun _ _ => rfl
/-! operators -/
@[simp] theorem zAsL : asL st (.lst ds) = some ds := rfl
@[simp] theorem zAsD {ks : List Key} : asD st (.dic ks ds) = some (ks, ds) := rfl
@[simp] theorem zAsLD {ks : List Key} : asL st (.dic ks ds) = none := rfl
@[simp] theorem zAsLS {z : Str} : asL st (.str z) = none := rfl
@[simp] theorem zLenL : gLen st [.lst ds] = some (.int ds.length, st) := rfl
@[simp] theorem zLenD {ks : List Key} : gLen st [.dic ks ds] = some (.int ks.length, st) := rfl
theorem zLenS {z : Str} (h : z.length ≤ sizeLine) : gLen st [.str z] = some (.int z.length, st) := v_lenS h
@[simp] theorem zLe {i j : Int} : gLe st (.int i) (.int j) = some (.bl (decide (i ≤ j)), st) := rfl
@[simp] theorem zLt {i j : Int} : gLt st (.int i) (.int j) = some (.bl (decide (i < j)), st) := rfl
@[simp] theorem zGt {i j : Int} : gGt st (.int i) (.int j) = some (.bl (decide (j < i)), st) := rfl
@[simp] theorem zGe {i j : Int} : gGe st (.int i) (.int j) = some (.bl (decide (j ≤ i)), st) := rfl
@[simp] theorem zAddI {i j : Int} : gAdd st (.int i) (.int j) = some (.int (i + j), st) := rfl
@[simp] theorem zMin {i j : Int} : gMin st (.int i) (.int j) = some (.int (i - j), st) := rfl
theorem zMod {i j : Int} (h : 0 < j) : gMod st (.int i) (.int j) = some (.int (i % j), st) := v_gI (hMd _ _ h)
theorem zDiv {i j : Int} (h : 0 < j) (h2 : j < 1073741824) : gDiv st (.int i) (.int j) = some (.int (i / j), st) := v_gI (hDv _ _ ⟨h, h2⟩)
theorem zMulI {i j : Int} (h : cMul i j = true) : gMulA st (.int i) (.int j) = some (.int (i * j), st) := by
  show (if cMul i j = true then _ else _) = _
  exact if_pos h
@[simp] theorem zIntI {i : Int} : gInt st [.int i] = some (.int i, st) := rfl
@[simp] theorem zIsi {z : Str} : gIs "str" st [.str z] = some (.bl true, st) := rfl
@[simp] theorem zIsl : gIs "list" st [.lst ds] = some (.bl true, st) := rfl
@[simp] theorem zIsd {ks : List Key} : gIs "dict" st [.dic ks ds] = some (.bl true, st) := rfl
theorem zIx {i : Int} {d : Dt} (h : atI ds i = some d) : gIx st (.lst ds) (.int i) = some (d, st) := v_ixL h
theorem zIxD {ks : List Key} {kd : Dt} {k : Key} {d : Dt} (hk : keyD kd = some k) (h : pGet k ks ds = some d) : gIx st (.dic ks ds) kd = some (d, st) := by
  show ((keyD kd).bind fun k => (pGet k ks ds).map fun d => (d, st)) = _
  rw [hk]
  show (pGet k ks ds).map _ = _
  rw [h]; rfl
theorem zInD {neg : Bool} {ks : List Key} {kd : Dt} {k : Key} (hk : keyD kd = some k) : gIn neg st kd (.dic ks ds) = some (.bl (if neg then !(pGet k ks ds).isSome else (pGet k ks ds).isSome), st) := by
  unfold gIn inD
  show ((keyD kd).map fun k => (pGet k ks ds).isSome).map _ = _
  rw [hk]; rfl
@[simp] theorem zKeyS {z : Str} : keyD (.str z) = some (Sum.inr z) := rfl
@[simp] theorem zKeyI {i : Int} : keyD (.int i) = some (Sum.inl i) := rfl
@[simp] theorem zSlL {lo hi : Option Int} : gSl st (.lst ds) lo hi = some (.lst (cutL ds lo hi)) := rfl
theorem zSlS {z : Str} {lo hi : Option Int} (h : z.length ≤ sizeLine) : gSl st (.str z) lo hi = some (.str (cutS z lo hi)) := v_slS h
/-! == and != -/
theorem eqB_S {x y : Str} : eqB st (.str x) (.str y) = some (decide (x = y)) := by
  have h := v_eqS (st := st) (x := x) (y := y)
  unfold gEq at h
  obtain ⟨b, h1, h2⟩ := Option.map_eq_some_iff.mp h
  cases h2
  exact h1
@[simp] theorem zEqS {x y : Str} : gEqB st (.str x) (.str y) = some (.bl (decide (x = y)), st) := by unfold gEqB; rw [eqB_S]; rfl
@[simp] theorem zNeS {x y : Str} : gNeB st (.str x) (.str y) = some (.bl (!decide (x = y)), st) := by unfold gNeB; rw [eqB_S]; rfl
theorem eqB_I {x y : Int} : eqB st (.int x) (.int y) = some (decide (x = y)) := by
  show (if scal (.int x) (.int y) = true then some (decide (V.int x = V.int y)) else none) = _
  have : decide (V.int x = V.int y) = decide (x = y) := by simp
  rw [this]; rfl
@[simp] theorem zEqI {x y : Int} : gEqB st (.int x) (.int y) = some (.bl (decide (x = y)), st) := by unfold gEqB; rw [eqB_I]; rfl
@[simp] theorem zNeI {x y : Int} : gNeB st (.int x) (.int y) = some (.bl (!decide (x = y)), st) := by unfold gNeB; rw [eqB_I]; rfl
/-- texts or None -/
def oS : Option Str → Dt
  | none => .non
  | some x => .str x
@[simp] theorem nrO {o : Option Str} : noRef (oS o) = true := by cases o <;> rfl
theorem eqB_O {x y : Option Str} : eqB st (oS x) (oS y) = some (decide (x = y)) := by
  cases x with
  | none => cases y with
    | none => rfl
    | some b => rfl
  | some a => cases y with
    | none => rfl
    | some b =>
      have := eqB_S (st := st) (x := a) (y := b)
      simpa [oS] using this
@[simp] theorem zEqO {x y : Option Str} : gEqB st (oS x) (oS y) = some (.bl (decide (x = y)), st) := by unfold gEqB; rw [eqB_O]; rfl
@[simp] theorem zNeO {x y : Option Str} : gNeB st (oS x) (oS y) = some (.bl (!decide (x = y)), st) := by unfold gNeB; rw [eqB_O]; rfl
/-- == of the thing with itself is told -/
def okQ (n : Nat) (d : Dt) : Prop := eqQ n d d = some true
theorem eqPl_S {x y : Str} (hx : Sm x) (hy : Sm y) : eqPl (.str x) (.str y) = some (decide (x = y)) := by
  have sh : ∀ z : Str, Sm z → SeqAt.shaped (.str z) = true := fun z hz => by
    unfold SeqAt.shaped PyData.canLay0 PyData.depth PyData.strOk
    rw [Bool.and_eq_true]
    refine ⟨?_, by decide⟩
    rw [← Array.all_toList, List.all_eq_true]
    intro c hc
    exact decide_eq_true (Nat.lt_trans (hz.2 c hc) (by decide))
  show (if (SeqAt.shaped (.str x) && SeqAt.shaped (.str y)) = true then some (PyData.eqv (.str x) (.str y)) else none) = _
  rw [if_pos (by rw [sh x hx, sh y hy]; rfl)]
  unfold PyData.eqv
  by_cases h : x = y
  · subst h; simp
  · simp [h]
theorem okQ_S {z : Str} {n : Nat} (h : Sm z) : okQ (n + 1) (.str z) := by
  show eqPl (.str z) (.str z) = _
  rw [eqPl_S h h]; simp
theorem okQ_N {n : Nat} : okQ (n + 1) .non := by
  show eqPl .non .non = some true
  decide
theorem okQ_O {o : Option Str} {n : Nat} (h : ∀ z, o = some z → Sm z) : okQ (n + 1) (oS o) := by
  cases o with
  | none => exact okQ_N
  | some z => exact okQ_S (h z rfl)
theorem okQ_L {n : Nat} (h : ∀ d ∈ ds, okQ n d) : okQ (n + 1) (.lst ds) := by
  show (if ds.length = ds.length then allO (List.zipWith (eqQ n) ds ds) else some false) = some true
  rw [if_pos rfl]
  have : ∀ l : List Dt, (∀ d ∈ l, okQ n d) → allO (List.zipWith (eqQ n) l l) = some true := by
    intro l
    induction l with
    | nil => intro _; rfl
    | cons d l ih =>
      intro h
      rw [List.zipWith_cons_cons]
      show ((eqQ n d d).bind fun b => (allO (List.zipWith (eqQ n) l l)).map fun c => b && c) = _
      rw [show eqQ n d d = some true from h d (by simp), ih fun x hx => h x (by simp [hx])]
      rfl
  exact this ds h
theorem okQ_D {n : Nat} {ks : List Key} (nd : ks.Nodup) (hl : ks.length = ds.length) (h : ∀ d ∈ ds, okQ n d) : okQ (n + 1) (.dic ks ds) := by
  show (if ks.Nodup ∧ ks.length = ds.length ∧ ks.length = ds.length then (if ks.length = ks.length then allO ((ks.zip ds).map fun p => match pGet p.1 ks ds with
        | none => some false
        | some y => eqQ n p.2 y) else some false) else none) = some true
  rw [if_pos ⟨nd, hl, hl⟩, if_pos rfl]
  have : ((ks.zip ds).map fun p => match pGet p.1 ks ds with
        | none => some false
        | some y => eqQ n p.2 y) = ((ks.zip ds).map fun _ => true).map some := by
    rw [List.map_map]
    refine List.map_congr_left fun p hp => ?_
    rw [pGet_mem nd p hp]
    exact h p.2 (List.of_mem_zip (a := p.1) (b := p.2) hp).2
  rw [this, allO_map]
  congr 1
  rw [List.all_map, List.all_eq_true]
  intro _ _; rfl
theorem eq_same {x y : Dt} (hx : deref st 8 x = some d) (hy : deref st 8 y = some d) (hn : noRef d = true) (ha : alikeD d d = true) (ho : okQ 8 d) : gEqB st x y = some (.bl true, st) ∧ gNeB st x y = some (.bl false, st) := by
  have e : eqB st x y = some true := by
    unfold eqB
    rw [hx, hy]
    show (if alikeD d d = true then (if noRef d = true ∧ noRef d = true then eqQ 8 d d else none) else eqD st x y) = _
    rw [if_pos ha, if_pos ⟨hn, hn⟩]
    exact ho
  unfold gEqB gNeB
  rw [e]
  exact ⟨rfl, rfl⟩
theorem eqQ_list {α : Type} [DecidableEq α] {f : α → Dt} {n : Nat} : ∀ l m : List α, (∀ a ∈ l, ∀ b ∈ m, eqQ n (f a) (f b) = some (decide (a = b))) → eqQ (n + 1) (.lst (l.map f)) (.lst (m.map f)) = some (decide (l = m)) := by
  intro l m h
  show (if (l.map f).length = (m.map f).length then allO (List.zipWith (eqQ n) (l.map f) (m.map f)) else some false) = _
  rw [List.length_map, List.length_map]
  by_cases hl : l.length = m.length
  · rw [if_pos hl]
    induction l generalizing m with
    | nil =>
      cases m with
      | nil => rfl
      | cons => simp at hl
    | cons a l ih =>
      cases m with
      | nil => simp at hl
      | cons b m =>
        rw [List.map_cons, List.map_cons, List.zipWith_cons_cons]
        show ((eqQ n (f a) (f b)).bind fun z => (allO (List.zipWith (eqQ n) (l.map f) (m.map f))).map fun c => z && c) = _
        rw [h a (by simp) b (by simp), ih m (fun x hx y hy => h x (by simp [hx]) y (by simp [hy])) (by simpa using hl)]
        by_cases h1 : a = b <;> by_cases h2 : l = m <;> simp [h1, h2]
  · rw [if_neg hl]
    have : ¬ l = m := fun e => hl (by rw [e])
    simp [this]
theorem eqB_L {l m : List Str} (hl : ∀ x ∈ l, Sm x) (hm : ∀ x ∈ m, Sm x) : eqB st (.lst (l.map Dt.str)) (.lst (m.map Dt.str)) = some (decide (l = m)) := by
  unfold eqB
  rw [deref_no (by simp), deref_no (by simp)]
  show (if alikeD (.lst (l.map Dt.str)) (.lst (m.map Dt.str)) = true then (if noRef (.lst (l.map Dt.str)) = true ∧ noRef (.lst (m.map Dt.str)) = true then eqQ 8 (.lst (l.map Dt.str)) (.lst (m.map Dt.str)) else none) else eqD st (.lst (l.map Dt.str)) (.lst (m.map Dt.str))) = _
  rw [if_pos (show alikeD (.lst (l.map Dt.str)) (.lst (m.map Dt.str)) = true from rfl), if_pos (by simp)]
  exact eqQ_list l m fun a ha b hb => eqPl_S (hl a ha) (hm b hb)
theorem zNeL {l m : List Str} (hl : ∀ x ∈ l, Sm x) (hm : ∀ x ∈ m, Sm x) : gNeB st (.lst (l.map Dt.str)) (.lst (m.map Dt.str)) = some (.bl (!decide (l = m)), st) := by unfold gNeB; rw [eqB_L hl hm]; rfl
theorem zEqL {l m : List Str} (hl : ∀ x ∈ l, Sm x) (hm : ∀ x ∈ m, Sm x) : gEqB st (.lst (l.map Dt.str)) (.lst (m.map Dt.str)) = some (.bl (decide (l = m)), st) := by unfold gEqB; rw [eqB_L hl hm]; rfl
theorem zNeL0 {l : List Str} (hl : ∀ x ∈ l, Sm x) : gNeB st (.lst (l.map Dt.str)) (.lst []) = some (.bl (!decide (l = [])), st) := zNeL (m := []) hl (by simp)
/-! loops told by what they do to a state -/
theorem for_st {α σ : Type} {kt : SG} {g : SS} (D : α → Dt) (E : σ → Evr) (S : σ → Sto) (f : σ → α → σ) (I : σ → Prop) : ∀ (xs : List α) (s : σ), I s → (∀ s a, a ∈ xs → I s → ∃ r1, kt (D a) (E s) = some r1 ∧ g r1 (S s) = some (.nx (E (f s a)) (S (f s a))) ∧ I (f s a)) →
    sForGo kt g (xs.map D) (E s) (S s) = some (.nx (E (xs.foldl f s)) (S (xs.foldl f s))) ∧ I (xs.foldl f s)
  | [], s, h, _ => ⟨rfl, h⟩
  | a :: xs, s, h, st => by
    obtain ⟨r1, h1, h2, h3⟩ := st s a (by simp) h
    obtain ⟨k1, k2⟩ := for_st D E S f I xs (f s a) h3 fun s b hb => st s b (by simp [hb])
    refine ⟨?_, k2⟩
    rw [List.map_cons, List.foldl_cons]
    exact for_cons h1 h2 k1
theorem dc_pure {α : Type} {kt : SG} {fk fv : SE} (D : α → Dt) (K : α → Str) (q : α → Dt) : ∀ (xs : List α) (ks : List Str) (es : List Dt), (∀ w ∈ xs, ∃ r1, kt (D w) r = some r1 ∧ fk r1 st = some (.str (K w), st) ∧ fv r1 st = some (q w, st)) → (ks ++ xs.map K).Nodup → ks.length + xs.length ≤ 1000000 →
    dcGo kt cYes fk fv r (xs.map D) st (ks.map Sum.inr) es = some (((ks ++ xs.map K).map Sum.inr, es ++ xs.map q), st)
  | [], ks, es, _, _, _ => by simp [dcGo]
  | w :: xs, ks, es, h, nd, hl => by
    obtain ⟨r1, h1, h2, h3⟩ := h w (by simp)
    rw [List.length_cons] at hl
    have ih := dc_pure D K q xs (ks ++ [K w]) (es ++ [q w]) (fun v hv => h v (by simp [hv])) (by simpa using nd) (by rw [List.length_append]; simp; omega)
    have hn : K w ∉ ks := fun hm => by
      rw [List.map_cons, List.nodup_append] at nd
      exact nd.2.2 _ hm _ (by simp) rfl
    have hs := line_ge
    rw [List.map_cons]
    show (kt (D w) r).bind _ = _
    rw [h1]
    show (fk r1 st).bind _ = _
    rw [h2]
    show (fv r1 st).bind _ = _
    rw [h3]
    show (if (ks.map (Sum.inr : Str → Key)).length < sizeLine then dcGo kt cYes fk fv r (xs.map D) st (pPut (Sum.inr (K w)) (q w) (ks.map Sum.inr) es).1 (pPut (Sum.inr (K w)) (q w) (ks.map Sum.inr) es).2 else none) = _
    rw [if_pos (by rw [List.length_map]; omega), put_new _ _ _ hn, ih]
    simp
end
end HB

set_option Elab.async false
set_option linter.all false
set_option maxRecDepth 100000
set_option maxHeartbeats 1000000
/-! The plain theory of tables of steps back. -/
namespace HB
open PySem PySem.Spec PyProof.Rows L2
/-- a dict of texts, by the order of its keys -/
def tK (ks : List Str) (tb : Str → Str) : Dt := .dic (ks.map Sum.inr) (ks.map fun s => .str (tb s))
def oK (ks : List Str) (f : Str → Option Str) : Dt := .dic (ks.map Sum.inr) (ks.map fun s => oS (f s))
@[simp] theorem nr_tK {ks : List Str} {tb : Str → Str} : noRef (tK ks tb) = true := by unfold tK; rw [nrD]; exact noRefs_map fun _ _ => rfl
@[simp] theorem nr_oK {ks : List Str} {f : Str → Option Str} : noRef (oK ks f) = true := by unfold oK; rw [nrD]; exact noRefs_map fun _ _ => nrO
theorem pGet_map {α : Type} {f : Str → α} : ∀ {ks : List Str} {s : Str}, s ∈ ks → pGet (Sum.inr s) (ks.map (Sum.inr : Str → Key)) (ks.map f) = some (f s)
  | [], s, h => by simp at h
  | k :: ks, s, h => by
    rw [List.map_cons, List.map_cons]
    by_cases e : k = s
    · subst e; simp [pGet]
    · have ih := pGet_map (f := f) ((List.mem_cons.mp h).resolve_left fun z => e z.symm)
      simp [pGet, e, ih]
theorem pGet_no {α : Type} {f : Str → α} : ∀ {ks : List Str} {s : Str}, s ∉ ks → pGet (Sum.inr s) (ks.map (Sum.inr : Str → Key)) (ks.map f) = none
  | [], s, h => by simp [pGet]
  | k :: ks, s, h => by
    rw [List.map_cons, List.map_cons]
    rw [List.mem_cons, not_or] at h
    have e : ¬ k = s := fun z => h.1 z.symm
    have ih := pGet_no (f := f) h.2
    simp [pGet, e, ih]
theorem nodup_inr {ks : List Str} (h : ks.Nodup) : (ks.map (Sum.inr : Str → Key)).Nodup := by
  induction ks with
  | nil => simp
  | cons k ks ih =>
    rw [List.nodup_cons] at h
    rw [List.map_cons, List.nodup_cons]
    refine ⟨fun z => ?_, ih h.2⟩
    obtain ⟨y, hy, e⟩ := List.mem_map.mp z
    cases e
    exact h.1 hy
abbrev bD (ws : List Str) : Dt := .dic ((allSt ws).map Sum.inr) ((allSt ws).map fun s => WL (after ws s))
theorem ix_tK {st : Sto} {ks : List Str} {tb : Str → Str} {s : Str} (h : s ∈ ks) : gIx st (tK ks tb) (.str s) = some (.str (tb s), st) := zIxD rfl (pGet_map h)
theorem ix_oK {st : Sto} {ks : List Str} {f : Str → Option Str} {s : Str} (h : s ∈ ks) : gIx st (oK ks f) (.str s) = some (oS (f s), st) := zIxD rfl (pGet_map h)
theorem ix_bD {st : Sto} {ws : List Str} {s : Str} (h : s ∈ allSt ws) : gIx st (bD ws) (.str s) = some (WL (after ws s), st) := zIxD rfl (pGet_map h)
theorem in_tK {st : Sto} {ks : List Str} {tb : Str → Str} {s : Str} (h : s ∈ ks) : gIn false st (.str s) (tK ks tb) = some (.bl true, st) := by
  unfold tK
  rw [zInD rfl, pGet_map h]; rfl
@[simp] theorem len_tK {st : Sto} {ks : List Str} {tb : Str → Str} : gLen st [tK ks tb] = some (.int ks.length, st) := by unfold tK; rw [zLenD, List.length_map]
@[simp] theorem isd_tK {st : Sto} {ks : List Str} {tb : Str → Str} : gIs "dict" st [tK ks tb] = some (.bl true, st) := rfl
@[simp] theorem nr_bD {ws : List Str} : noRef (bD ws) = true := by rw [nrD]; exact noRefs_map fun _ _ => by simp
theorem cutL_one {α : Type} (f : α → Dt) (a : α) (l : List α) : cutL ((a :: l).map f) (some 1) none = l.map f := by
  unfold cutL
  have e1 : HT.sIx ((a :: l).map f).length 0 (some 1) = 1 := by
    have : HT.sIx ((a :: l).map f).length 0 (some ((1 : Nat) : Int)) = min 1 ((a :: l).map f).length := HT.sIx_nat ..
    rw [show ((1 : Int)) = ((1 : Nat) : Int) from rfl, this]
    simp
  rw [e1, sIx0, List.map_cons]
  simp
  rw [List.take_of_length_le (by simp)]
theorem bools_any {α : Type} (l : List α) (p : α → Bool) (st : Sto) : gAny st [.lst (l.map fun a => Dt.bl (p a))] = some (.bl (l.any p), st) := by
  show ((bools (l.map fun a => Dt.bl (p a))).map _) = _
  rw [bools_map p l]
  show some (Dt.bl ((l.map p).any id), st) = _
  rw [List.any_map]; rfl
theorem bools_allT {α : Type} (l : List α) (p : α → Bool) (st : Sto) : gAll st [.lst (l.map fun a => Dt.bl (p a))] = some (.bl (l.all p), st) := by
  show ((bools (l.map fun a => Dt.bl (p a))).map _) = _
  rw [bools_map p l]
  show some (Dt.bl ((l.map p).all id), st) = _
  rw [List.all_map]; rfl
/-- a comprehension without a test that leaves the store -/
theorem lcGo_map {α : Type} {kt : SG} {f : SE} {r : Evr} {st : Sto} (D : α → Dt) (q : α → Dt) (xs : List α) (h : ∀ w ∈ xs, ∃ r1, kt (D w) r = some r1 ∧ f r1 st = some (q w, st)) : lcGo kt cYes f r (xs.map D) st = some (xs.map q, st) := by
  have := lcGo_pure (c := cYes) D (fun _ => true) q xs fun w hw => let ⟨r1, h1, h2⟩ := h w hw; ⟨r1, h1, rfl, fun _ => h2⟩
  rw [List.filter_eq_self.mpr (by simp)] at this
  exact this
theorem wh_step {c : ST} {g : SS} {n : Nat} {r r2 : Evr} {st st1 st2 : Sto} {o : Option Ou} (hc : c r st = some (true, st1)) (hg : g r st1 = some (.nx r2 st2)) (h : sWh c g n r2 st2 = o) : sWh c g (n + 1) r st = o := by
  show (c r st).bind _ = _
  rw [hc]
  show (g r st1).bind _ = _
  rw [hg]
  exact h
theorem wh_stop {c : ST} {g : SS} {n : Nat} {r : Evr} {st st1 : Sto} (hc : c r st = some (false, st1)) : sWh c g (n + 1) r st = some (.nx r st1) := by
  show (c r st).bind _ = _
  rw [hc]
  rfl
/-- a loop that looks for the first one -/
theorem for_find {α : Type} {kt : SG} {g : SS} {st : Sto} (D : α → Dt) (p : α → Bool) (R : α → Dt) (E : Option Dt → Evr) : ∀ (xs : List α) (v : Option Dt), (∀ a ∈ xs, ∀ v, ∃ r1, kt (D a) (E v) = some r1 ∧ g r1 st = if p a = true then some (.rt (R a) st) else some (.nx (E (some (D a))) st)) →
    ∃ v', sForGo kt g (xs.map D) (E v) st = match xs.find? p with
      | some a => some (.rt (R a) st)
      | none => some (.nx (E v') st)
  | [], v, _ => ⟨v, rfl⟩
  | a :: xs, v, h => by
    obtain ⟨r1, h1, h2⟩ := h a (by simp) v
    rw [List.map_cons, List.find?_cons]
    cases hp : p a with
    | true =>
      rw [hp, if_pos rfl] at h2
      refine ⟨v, ?_⟩
      show (kt (D a) (E v)).bind _ = _
      rw [h1]
      show (g r1 st).bind _ = _
      rw [h2]; rfl
    | false =>
      rw [hp, if_neg (by simp)] at h2
      obtain ⟨v', ih⟩ := for_find D p R E xs (some (D a)) fun b hb => h b (by simp [hb])
      refine ⟨v', ?_⟩
      show (kt (D a) (E v)).bind _ = _
      rw [h1]
      show (g r1 st).bind _ = _
      rw [h2]
      exact ih
@[simp] theorem nrWLs {α : Type} {f : α → List Str} {l : List α} : noRefs (l.map fun a => WL (f a)) = true := noRefs_map fun _ _ => by simp
def updS (tb : Str → Str) (s v : Str) : Str → Str := fun t => if t = s then v else tb t
theorem pSet_map (s v : Str) (tb : Str → Str) : ∀ ks : List Str, pSet (Sum.inr s) (Dt.str v) (ks.map (Sum.inr : Str → Key)) (ks.map fun t => Dt.str (tb t)) = ks.map fun t => Dt.str (updS tb s v t)
  | [] => rfl
  | k :: ks => by
    rw [List.map_cons, List.map_cons, List.map_cons]
    show (if (Sum.inr k : Key) = Sum.inr s then Dt.str v else Dt.str (tb k)) :: pSet (Sum.inr s) (Dt.str v) (ks.map (Sum.inr : Str → Key)) (ks.map fun t => Dt.str (tb t)) = _
    rw [pSet_map s v tb ks]
    unfold updS
    by_cases e : k = s
    · simp [e]
    · simp [e]
theorem put_tK (s v : Str) (ks : List Str) (tb : Str → Str) : Dt.dic (pPut (Sum.inr s) (Dt.str v) (ks.map (Sum.inr : Str → Key)) (ks.map fun t => Dt.str (tb t))).1 (pPut (Sum.inr s) (Dt.str v) (ks.map (Sum.inr : Str → Key)) (ks.map fun t => Dt.str (tb t))).2 = tK (ins2 s ks) (updS tb s v) := by
  unfold tK
  by_cases h : s ∈ ks
  · have e : ((ks.map (Sum.inr : Str → Key)).any fun j => decide (j = Sum.inr s)) = true := by
      rw [List.any_eq_true]
      exact ⟨Sum.inr s, List.mem_map_of_mem h, by simp⟩
    unfold pPut ins2
    rw [if_pos e, if_pos h, pSet_map]
  · rw [put_new s _ ks h]
    unfold ins2
    rw [if_neg h]
    have e1 : (ks.map fun t => Dt.str (updS tb s v t)) = ks.map fun t => Dt.str (tb t) := List.map_congr_left fun t ht => by
      have hts : ¬ t = s := fun z => h (z ▸ ht)
      simp [updS, hts]
    have e2 : updS tb s v s = v := by simp [updS]
    rw [List.map_append, List.map_append, e1]
    simp [e2]
theorem dp_tK {fd fk fv : SE} {r : Evr} {st st1 st2 st3 : Sto} {i : Nat} {s v : Str} {ks : List Str} {tb : Str → Str} (h1 : fv r st = some (.str v, st1)) (h2 : fd r st1 = some (.ref i, st2)) (h3 : fk r st2 = some (.str s, st3)) (h4 : st3[i]? = some (some (tK ks tb))) (hz : ks.length < sizeLine) :
    sDP fd fk fv r st = some (.nx r (st3.set i (some (tK (ins2 s ks) (updS tb s v))))) := by
  rw [s_DP h1 h2 h3 h4 (by rw [List.length_map]; exact hz) rfl, put_tK]
/-- the states but the empty one -/
def tl (ws : List Str) : List Str := (allSt ws).tail
/-- the keys of a table of ws, in any order -/
structure Keys (ws ks : List Str) : Prop where
  nd : ks.Nodup
  mem : ∀ s, s ∈ ks ↔ s ∈ tl ws
/-- the entries of a table -/
def Tab (ws : List Str) (tb : Str → Str) : Prop := ∀ s ∈ tl ws, tb s ∈ allSt ws ∧ (tb s).length < s.length
def chainN (tb : Str → Str) : Nat → Str → List Str
  | 0, _ => []
  | n + 1, s => if s = ("" : Str) then [] else tb s :: chainN tb n (tb s)
def chain (tb : Str → Str) (s : Str) : List Str := chainN tb s.length s
def beyond (ws : List Str) (o s : Str) : Bool := (after ws o).any fun l => !decide (l ∈ after ws s)
def shortc (ws : List Str) (tb : Str → Str) (s : Str) : Option Str := (chain tb s).find? fun o => beyond ws o s
def longE (ws : List Str) (s : Str) : Str := (below ws s).getLastD ""
theorem nil_iff {s : Str} : s = ("" : Str) ↔ s.length = 0 := by
  constructor
  · intro h; subst h; decide +kernel
  · intro h
    apply Classical.byContradiction
    intro z
    have := nonempty_iff.mp z
    omega
theorem empty_len : ("" : Str).length = 0 := nil_iff.mp rfl
section
variable {ws : List Str} {n : Nat}
theorem empty_all (hg : Good ws n) : ("" : Str) ∈ allSt ws := by
  have h1 := hg.l1
  cases ws with
  | nil => simp at h1
  | cons w ws =>
    refine mem_all.mpr (mem_keys.mpr ⟨w, by simp, 0, by omega, ?_⟩)
    exact nil_iff.mpr (by rw [pre_len]; omega) |>.symm
theorem all_cons (hg : Good ws n) : allSt ws = ("" : Str) :: tl ws := by
  have hm := empty_all hg
  have hs := all_sorted ws
  unfold tl
  cases e : allSt ws with
  | nil => rw [e] at hm; simp at hm
  | cons a l =>
    rw [e] at hm hs
    rcases List.mem_cons.mp hm with h | h
    · rw [h]; rfl
    · have := (List.pairwise_cons.mp hs).1 _ h
      rcases keyLe_iff.mp this with z | z
      · rw [empty_len] at z; omega
      · rw [empty_len] at z
        rw [nil_iff.mpr z.1]
        rfl
theorem mem_tl (hg : Good ws n) {s : Str} : s ∈ tl ws ↔ s ∈ allSt ws ∧ s ≠ ("" : Str) := by
  have e := all_cons hg
  have nd := all_nodup ws
  rw [e] at nd ⊢
  rw [List.nodup_cons] at nd
  constructor
  · intro h; exact ⟨by simp [h], fun z => nd.1 (z ▸ h)⟩
  · rintro ⟨h, z⟩
    exact (List.mem_cons.mp h).resolve_left z
theorem tl_nodup (ws : List Str) : (tl ws).Nodup := (all_nodup ws).sublist (List.tail_sublist _)
theorem keys_tl (ws : List Str) : Keys ws (tl ws) := ⟨tl_nodup ws, fun _ => Iff.rfl⟩
theorem keys_rev (ws : List Str) : Keys ws (tl ws).reverse := ⟨(List.reverse_perm _).nodup_iff.mpr (tl_nodup ws), fun _ => List.mem_reverse⟩
theorem Keys.len {ks : List Str} (h : Keys ws ks) : ks.length = (tl ws).length := ((List.perm_ext_iff_of_nodup h.nd (tl_nodup ws)).mpr fun {x} => h.mem x).length_eq
theorem tl_few (hg : Good ws n) : (tl ws).length ≤ 40 := by
  have := all_few hg
  rw [all_cons hg, List.length_cons] at this
  omega
theorem tl_len (hg : Good ws n) : (allSt ws).length = (tl ws).length + 1 := by rw [all_cons hg]; rfl
theorem chain_nil {tb : Str → Str} : chain tb ("" : Str) = [] := by unfold chain; rw [empty_len]; rfl
theorem chainN_more {tb : Str → Str} (hg : Good ws n) (ht : Tab ws tb) : ∀ (m k : Nat) (s : Str), s ∈ allSt ws → s.length ≤ m → s.length ≤ k → chainN tb m s = chainN tb k s
  | 0, 0, s, _, _, _ => rfl
  | 0, k + 1, s, hs, h, _ => by
    have : s = ("" : Str) := nil_iff.mpr (by omega)
    simp [chainN, this]
  | m + 1, 0, s, hs, _, h => by
    have : s = ("" : Str) := nil_iff.mpr (by omega)
    simp [chainN, this]
  | m + 1, k + 1, s, hs, h1, h2 => by
    unfold chainN
    by_cases e : s = ("" : Str)
    · rw [if_pos e, if_pos e]
    · rw [if_neg e, if_neg e]
      obtain ⟨a, b⟩ := ht s ((mem_tl hg).mpr ⟨hs, e⟩)
      rw [chainN_more hg ht m k (tb s) a (by omega) (by omega)]
theorem chain_cons {tb : Str → Str} (hg : Good ws n) (ht : Tab ws tb) {s : Str} (hs : s ∈ tl ws) : chain tb s = tb s :: chain tb (tb s) := by
  obtain ⟨h1, h2⟩ := (mem_tl hg).mp hs
  obtain ⟨a, b⟩ := ht s hs
  unfold chain
  have hl : s.length = (s.length - 1) + 1 := by have := nonempty_iff.mp h2; omega
  rw [hl]
  show (if s = ("" : Str) then [] else tb s :: chainN tb (s.length - 1) (tb s)) = _
  rw [if_neg h2, chainN_more hg ht (s.length - 1) (tb s).length (tb s) a (by omega) (by omega)]
theorem chain_mem {tb : Str → Str} (hg : Good ws n) (ht : Tab ws tb) : ∀ (m : Nat) (s : Str), s ∈ allSt ws → s.length ≤ m → ∀ o ∈ chain tb s, o ∈ allSt ws ∧ o.length < s.length
  | 0, s, hs, h, o, ho => by
    rw [nil_iff.mpr (show s.length = 0 by omega), chain_nil] at ho
    simp at ho
  | m + 1, s, hs, h, o, ho => by
    by_cases e : s = ("" : Str)
    · rw [e, chain_nil] at ho; simp at ho
    · have ht' := (mem_tl hg).mpr ⟨hs, e⟩
      obtain ⟨a, b⟩ := ht s ht'
      rw [chain_cons hg ht ht'] at ho
      rcases List.mem_cons.mp ho with z | z
      · rw [z]; exact ⟨a, b⟩
      · obtain ⟨c, d⟩ := chain_mem hg ht m (tb s) a (by omega) o z
        exact ⟨c, by omega⟩
theorem chain_few {tb : Str → Str} (s : Str) : (chain tb s).length ≤ s.length := by
  have : ∀ (m : Nat) (s : Str), (chainN tb m s).length ≤ m := by
    intro m
    induction m with
    | zero => intro s; simp [chainN]
    | succ m ih =>
      intro s
      unfold chainN
      split
      · simp
      · rw [List.length_cons]; have := ih (tb s); omega
  exact this _ _
theorem fine_chain {tb : Str → Str} (hg : Good ws n) (ht : Tab ws tb) {s : Str} (hs : s ∈ allSt ws) : Fine (chain tb s) := ⟨fun x hx => sm_all hg (chain_mem hg ht _ s hs (Nat.le_refl _) x hx).1, by have := chain_few (tb := tb) s; have := all_len7 hg hs; omega⟩
/-- the ends of a state: the empty one is the first -/
theorem ends_nil (s : Str) : Txt.endswith s ("" : Str) = true := by
  unfold Txt.endswith
  rw [StrLaws.subAt_eq, empty_len]
  simp
  decide +kernel
theorem below_ne (hg : Good ws n) {s : Str} (hs : s ∈ tl ws) : ("" : Str) ∈ below ws s := by
  unfold below
  rw [List.mem_filter]
  refine ⟨empty_all hg, ?_⟩
  have := nonempty_iff.mp ((mem_tl hg).mp hs).2
  rw [ends_nil, empty_len]
  simp
  omega
theorem longE_mem (hg : Good ws n) {s : Str} (hs : s ∈ tl ws) : longE ws s ∈ below ws s := by
  have h := below_ne hg hs
  unfold longE
  rw [List.getLastD_eq_getLast?]
  have hne : below ws s ≠ [] := fun z => by rw [z] at h; simp at h
  rw [List.getLast?_eq_some_getLast hne]
  exact List.getLast_mem hne
theorem tab_true (hg : Good ws n) : Tab ws (longE ws) := fun s hs => by
  have h := longE_mem hg hs
  unfold below at h
  rw [List.mem_filter, Bool.and_eq_true, decide_eq_true_eq] at h
  exact ⟨h.1, h.2.1⟩
theorem tab_new (hg : Good ws n) : Tab ws fun _ => "" := fun s hs => ⟨empty_all hg, by rw [empty_len]; have := nonempty_iff.mp ((mem_tl hg).mp hs).2; omega⟩
/-- the lesser states -/
def lessS (ws : List Str) (s : Str) : List Str := (allSt ws).filter fun o => decide (o.length < s.length)
theorem own_below (s : Str) : (lessS ws s).filter (fun o => decide (cutS s (some ((s.length : Int) - (o.length : Int))) none = o)) = below ws s := by
  unfold lessS below
  rw [List.filter_filter]
  refine List.filter_congr fun o _ => ?_
  by_cases h : o.length < s.length
  · rw [ends_cut h]; simp [h]
  · simp [h]
def deepS (ws : List Str) (s : Str) : List Str := (lessS ws s).filter fun o => decide ((o.length : Int) = (s.length : Int) - 1)
theorem deep_ne (hg : Good ws n) {s : Str} (hs : s ∈ tl ws) : deepS ws s ≠ [] := by
  obtain ⟨h1, h2⟩ := (mem_tl hg).mp hs
  obtain ⟨w, hw, k, hk, rfl⟩ := mem_keys.mp (mem_all.mp h1)
  have hl := nonempty_iff.mp h2
  rw [pre_len] at hl
  intro z
  have : pre w (k - 1) ∈ deepS ws (pre w k) := by
    unfold deepS lessS
    rw [List.mem_filter, List.mem_filter]
    refine ⟨⟨mem_all.mpr (mem_keys.mpr ⟨w, hw, k - 1, by omega, rfl⟩), ?_⟩, ?_⟩
    · rw [pre_len, pre_len]; simp; omega
    · rw [pre_len, pre_len]; simp; omega
  rw [z] at this
  simp at this
theorem less_ne (hg : Good ws n) {s : Str} (hs : s ∈ tl ws) : lessS ws s ≠ [] := fun z => deep_ne hg hs (by unfold deepS; rw [z]; rfl)
end
end HB

set_option Elab.async false
set_option linter.all false
set_option maxRecDepth 100000
set_option maxHeartbeats 1000000
/-! What is shown by repr has bounds. -/
namespace HB
open PySem PySem.Spec PyProof.Rows L2
/-- d may be shown: its depth is at most e, its text has at most k signs -/
structure RB (e k : Nat) (d : Dt) : Prop where
  nr : noRef d = true
  ok : repOk d = true
  dep : depD d ≤ e
  len : (repT d).length ≤ k
theorem RB.mono {e e' k k' : Nat} {d : Dt} (h : RB e k d) (he : e ≤ e') (hk : k ≤ k') : RB e' k' d := ⟨h.nr, h.ok, Nat.le_trans h.dep he, Nat.le_trans h.len hk⟩
theorem rb_S {z : Str} (h : Sm z) : RB 0 72 (.str z) := ⟨rfl, rfl, Nat.le_refl 0, rep_sm h⟩
theorem rb_N : RB 0 72 .non := ⟨rfl, rfl, Nat.le_refl 0, by show ("None" : Str).length ≤ 72; decide +kernel⟩
theorem rb_O {o : Option Str} (h : ∀ z, o = some z → Sm z) : RB 0 72 (oS o) := by
  cases o with
  | none => exact rb_N
  | some z => exact rb_S (h z rfl)
theorem dict_up (ps : List Str) : (dictText ps).length ≤ piled ps + 2 := by
  have e : (dictText ps).length = 1 + (Str.join ", " ps).length + 1 := by
    unfold dictText
    rw [app_len, app_len]; rfl
  by_cases h : ps = []
  · subst h
    rw [e]
    show 1 + (Str.join ", " []).length + 1 ≤ _
    have : (Str.join ", " []).length = 0 := by decide +kernel
    omega
  · have := join_length_add ps h
    omega
theorem rbs {e k : Nat} : ∀ {ds : List Dt}, (∀ d ∈ ds, RB e k d) → noRefs ds = true ∧ repOks ds = true ∧ depDs ds ≤ e ∧ piled (repTs ds) ≤ (k + 2) * ds.length
  | [], _ => ⟨by simp, by unfold repOks; rfl, by unfold depDs; omega, by show piled [] ≤ _; rw [piled_nil]; omega⟩
  | d :: ds, h => by
    obtain ⟨h1, h2, h3, h4⟩ := rbs fun x hx => h x (List.mem_cons_of_mem _ hx)
    have hd := h d (by simp)
    refine ⟨by rw [nrCons, hd.nr, h1]; rfl, ?_, ?_, ?_⟩
    · unfold repOks; rw [hd.ok, h2]; rfl
    · unfold depDs; have := hd.dep; omega
    · have := hd.len
      show piled (repT d :: repTs ds) ≤ _
      rw [piled_cons, List.length_cons, Nat.mul_succ]
      omega
theorem rb_L {e k m : Nat} {ds : List Dt} (h : ∀ d ∈ ds, RB e k d) (hm : ds.length ≤ m) : RB (e + 1) ((k + 2) * m + 2) (.lst ds) := by
  obtain ⟨h1, h2, h3, h4⟩ := rbs h
  refine ⟨by rw [nrL]; exact h1, by unfold repOk; exact h2, by unfold depD; omega, ?_⟩
  have := list_up (repTs ds)
  have : (k + 2) * ds.length ≤ (k + 2) * m := Nat.mul_le_mul_left _ hm
  show (listText (repTs ds)).length ≤ _
  omega
theorem rb_D {e k m : Nat} {ks : List Str} {f : Str → Dt} (hk : ∀ s ∈ ks, Sm s) (h : ∀ s ∈ ks, RB e k (f s)) (hm : ks.length ≤ m) : RB (e + 1) ((k + 76) * m + 2) (.dic (ks.map Sum.inr) (ks.map f)) := by
  obtain ⟨h1, h2, h3, _⟩ := rbs (ds := ks.map f) fun d hd => by
    obtain ⟨s, hs, rfl⟩ := List.mem_map.mp hd
    exact h s hs
  have hp : ∀ l : List Str, (∀ s ∈ l, Sm s) → (∀ s ∈ l, RB e k (f s)) → piled (repKs (l.map Sum.inr) (l.map f)) ≤ (k + 76) * l.length := by
    intro l
    induction l with
    | nil => intro _ _; show piled [] ≤ _; rw [piled_nil]; omega
    | cons s l ih =>
      intro g1 g2
      have i := ih (fun x hx => g1 x (by simp [hx])) fun x hx => g2 x (by simp [hx])
      have a := rep_sm (g1 s (by simp))
      have b := (g2 s (by simp)).len
      have c : (": " : Str).length = 2 := by decide +kernel
      rw [List.map_cons, List.map_cons]
      show piled ((reprText s ++ ": " ++ repT (f s)) :: repKs (l.map Sum.inr) (l.map f)) ≤ _
      rw [piled_cons, app_len, app_len, c, List.length_cons, Nat.mul_succ]
      have a' : (reprText s).length ≤ 72 := a
      omega
  refine ⟨by rw [nrD]; exact h1, ?_, by unfold depD; omega, ?_⟩
  · unfold repOk
    rw [h2, Bool.and_true, List.all_eq_true]
    intro x hx
    obtain ⟨s, _, rfl⟩ := List.mem_map.mp hx
    rfl
  · have := dict_up (repKs (ks.map Sum.inr) (ks.map f))
    have := hp ks hk h
    have : (k + 76) * ks.length ≤ (k + 76) * m := Nat.mul_le_mul_left _ hm
    show (dictText (repKs (ks.map Sum.inr) (ks.map f))).length ≤ _
    omega
theorem v_rep {e k : Nat} {st : Sto} {x d : Dt} (hd : deref st 8 x = some d) (h : RB e k d) (he : e ≤ 32) (hk : k ≤ 16777216) : gRep st [x] = some (.str (repT d), st) := by
  have hs := line_ge
  have := h.len
  have := h.dep
  show ((deref st 8 x).bind fun d => if noRef d = true ∧ repOk d = true ∧ depD d ≤ 32 ∧ (repT d).length ≤ sizeLine then some (Dt.str (repT d), st) else none) = _
  rw [hd]
  exact if_pos ⟨h.nr, h.ok, by omega, by omega⟩
theorem rb_WL {l : List Str} (h : Fine l) : RB 1 3000 (WL l) := (rb_L (m := 40) (fun d hd => by
  obtain ⟨s, hs, rfl⟩ := List.mem_map.mp hd
  exact rb_S (h.sm s hs)) (by rw [List.length_map]; exact h.few)).mono (by omega) (by omega)
theorem rb_tK {ks : List Str} {tb : Str → Str} (hk : ∀ s ∈ ks, Sm s) (h : ∀ s ∈ ks, Sm (tb s)) (hm : ks.length ≤ 40) : RB 1 6000 (tK ks tb) := (rb_D hk (fun s hs => rb_S (h s hs)) hm).mono (by omega) (by omega)
end HB

set_option Elab.async false
set_option linter.all false
set_option maxRecDepth 100000
set_option maxHeartbeats 1000000
/-! HC, part a: enumerate(text), one sign in a text, list(text), pop, dict(d), min, max, text * int, xs += ys, sorted. -/
namespace HB
open PySem PySem.Spec PyProof.Rows L2

/-! ### enumerate(text) -/
def Iten (x : Str) : It := ⟨fun i _ => i < x.cps.size, fun i H v H' => ∃ T c, v = .ref T ∧ H T = none ∧ H' = upd H T (.tup [.int (i : Nat), .str ⟨#[c]⟩]) ∧ x.cps[i]? = some c, fun i _ => x.cps.size ≤ i⟩
theorem turn_enumT {P : Program} {w : World} {K : PySem.W.Frag} {elts : List Expr} {kk : Nat} {tpos : Pos} (x : Str) (t : Tok) (ty : String) (hty : ty = "str_ascii_iterator" ∨ ty = "str_iterator") (e it : Addr) :
    Turn P w K (.Tuple elts kk tpos) (Iten x) [e, it] e (fun i h => (∃ old, IsEnum h e it ((i : Nat) : Int) old) ∧ h.IsStrIter it ty x t i ∧ e ≠ it ∧ i ≤ x.cps.size) where
  mem := by simp
  obj := fun i h st b hb => by
    obtain ⟨⟨old, he⟩, ⟨o, ho, hc, hd⟩, _⟩ := st
    have z : b = e ∨ b = it := by simpa using hb
    rcases z with z | z
    · rw [z]; exact ⟨_, he, fun v q => nomatch q⟩
    · rw [z]; exact ⟨o, ho, fun v q => by rw [hd] at q; cases q⟩
  keep := fun i h h' st k => by
    obtain ⟨⟨old, he⟩, ⟨o, ho, r⟩, hne, hi⟩ := st
    exact ⟨⟨old, k e (by simp) _ he⟩, ⟨o, k it (by simp) o ho, r⟩, hne, hi⟩
  item := by
    intro X hP hw hK hc i pins s σ H E I hf st hg
    subst hP hw hK
    obtain ⟨⟨old, he⟩, hit, hne, hi⟩ := st
    have hel : e < s.heap.objs.size := Heap.lt_size he
    have hil : it < s.heap.objs.size := by obtain ⟨_, q, _⟩ := hit; exact Heap.lt_size q
    have D : Draws X.prog X.w X.A.in1 it [it] x.cps.size (fun i v => ∃ c u, x.cps[i]? = some c ∧ v = .str ⟨#[c]⟩ u) (fun i h => h.IsStrIter it ty x t i) := by
      rcases hty with z | z
      · rw [z]; exact Draws.strAscii (A := X.A.in1) (I.ok.hd hc) it x t
      · rw [z]; exact Draws.strWide (A := X.A.in1) (I.ok.hd hc) it x t
    refine wpAny_pyNext_enum_itemD D he hit hg hne (by simpa using hne) fun v h' tk hv ho hit' hT hsz hk => ?_
    obtain ⟨c, u, hcx, rfl⟩ := hv
    refine ⟨_, rfl, wpAny_letOwnedTupleGo_enum (s := { s with heap := h', toks := tk + 1 }) ho fun h2 he2 sb => ?_⟩
    have hT2 : h2.get? s.heap.objs.size = some { cls := .type "tuple", data := .seq #[.int i tk, .str ⟨#[c]⟩ u] } := (sb.2 _ (Nat.ne_of_gt hel)).trans hT
    have new : ObjOk X.prog X.w (upd H s.heap.objs.size (.tup [.int (i : Nat), .str ⟨#[c]⟩])) h2 s.heap.objs.size (.tup [.int (i : Nat), .str ⟨#[c]⟩]) := ⟨by show 2 ≤ sizeLine; decide, [.int i tk, .str ⟨#[c]⟩ u], .cons ⟨_, rfl⟩ (.cons ⟨_, rfl⟩ .nil), ⟨_, hT2, rfl, _, rfl⟩⟩
    have I1 : Inv X pins σ (upd H s.heap.objs.size (.tup [.int (i : Nat), .str ⟨#[c]⟩])) { s with heap := h2, toks := tk + 1 } :=
      I.turnedNew (ch := [e, it]) (fun b ob hb q => (sb.2 b (fun z => hb (by simp [z]))).trans (hk b ob (fun z => hb (by simp [z])) (fun z => hb (by simp [z])) q)) hf (Nat.le_refl _) new
    refine ⟨.ref s.heap.objs.size, _, I1, rfl, ⟨_, c, rfl, I.hok.fresh (Nat.le_refl _), rfl, hcx⟩, ⟨⟨.str ⟨#[c]⟩ u, ?_⟩, ?_, hne, hg⟩, fun b hb => ?_⟩
    · have e1 : ((i + 1 : Nat) : Int) = (i : Int) + 1 := by omega
      rw [e1]; exact he2
    · obtain ⟨o, o1, o2⟩ := hit'
      exact ⟨o, (sb.2 it (Ne.symm hne)).trans o1, o2⟩
    · have hb' : b < s.heap.objs.size := by
        have z : b = e ∨ b = it := by simpa using hb
        rcases z with z | z
        · rw [z]; exact hel
        · rw [z]; exact hil
      rw [upd_ne (Nat.ne_of_lt hb')]
      exact (hf b hb).1
  done := by
    intro X hP hw hK hc i pins s σ H E I hf st hg
    subst hP hw hK
    obtain ⟨⟨old, he⟩, hit, hne, hi⟩ := st
    have hg' : x.cps.size ≤ i := hg
    have hix : i = x.cps.size := by omega
    obtain ⟨f0, f1, f2, f3, f4, f5⟩ := hf it (by simp)
    have D : Draws X.prog X.w X.A.in1 it [it] x.cps.size (fun i v => ∃ c u, x.cps[i]? = some c ∧ v = .str ⟨#[c]⟩ u) (fun i h => h.IsStrIter it ty x t i) := by
      rcases hty with z | z
      · rw [z]; exact Draws.strAscii (A := X.A.in1) (I.ok.hd hc) it x t
      · rw [z]; exact Draws.strWide (A := X.A.in1) (I.ok.hd hc) it x t
    refine wpAny_pyNext_enum_endD D he (by rw [hix] at hit; exact hit) fun h' eb => ⟨rfl, I.turned (t' := s.toks) (fun b o hb q => eb b o hb q) f0 f1 f3 f4 f5⟩
  self := fun A i s Q E st h => let ⟨⟨_, he⟩, _⟩ := st; wpAny_pyIter_enum he h
def iEnT (ta : TA) : TI := fun σ H R => ta σ H fun vs H1 => ∃ x, vs = [.str x] ∧ R (Iten x) H1
theorem pi_enT {X : Cx} {e : Expr} {ta : TA} {p pos tpos : Pos} {elts : List Expr} {kk : Nat} (hg : Gl X "enumerate") (hm : X.mg "enumerate" = none) (ha : PA X [e] ta) (hs : starEach [e] X.env = [(false, eval e X.env)] := by rfl) :
    PI X (.Tuple elts kk tpos) (.Call (.Name "enumerate" p) [e] [] pos) (iEnT ta) := by
  constructor
  intro pins s σ H R I h
  refine Call_ (ld_blt I hg hm boot_enumerate (PyProof.Rows.callWith_type1 (thn (ha.run pos pins s σ H _ I h) ?_) hs rfl))
  rintro us s1 ⟨vs, H1, I1, r1, x, rfl, q⟩
  cases r1 with
  | cons r rr =>
    cases rr
    obtain ⟨t, rfl⟩ := r
    refine call_enumerate_str fun h' he hit hsz hk => wpAny_pyIter_enum he ?_
    have I2 : Inv X pins σ H1 { s1 with heap := h' } := I1.kept (t' := s1.toks) hk
    have hty : strIterType x = "str_ascii_iterator" ∨ strIterType x = "str_iterator" := by
      unfold strIterType
      split
      · exact .inl rfl
      · exact .inr rfl
    refine ⟨s1.heap.objs.size + 1, [s1.heap.objs.size + 1, s1.heap.objs.size], _, _, H1, rfl, I2, turn_enumT x t _ hty (s1.heap.objs.size + 1) s1.heap.objs.size, ⟨⟨.none, he⟩, hit, Nat.succ_ne_self _, Nat.zero_le _⟩, fun b hb => ?_, q⟩
    have z : b = s1.heap.objs.size + 1 ∨ b = s1.heap.objs.size := by simpa using hb
    have hle : s1.heap.objs.size ≤ b := by
      rcases z with z | z
      · rw [z]; exact Nat.le_add_right _ _
      · rw [z]; exact Nat.le_refl _
    exact I1.fpOk hle (I1.hok.fresh hle)
def enumT (z : Str) : List Dt := z.cps.toList.zipIdx.map fun p => .tup [.int (p.2 : Nat), .str ⟨#[p.1]⟩]
def enT : List Dt → Option (List Dt)
  | [.str z] => some (enumT z)
  | _ => none
section
variable {T : List (Addr × Str)}
theorem sim_enT {ta : TA} {f : SA} (hf : SimA T ta f) : SimI T (iEnT ta) (iR enT f) := by
  intro Z L st H s r xs st' Q w e h q
  obtain ⟨⟨ds, st1⟩, h1, h2⟩ := bind_some' h
  obtain ⟨ys, h3, h4⟩ := Option.map_eq_some_iff.mp h2
  cases h4
  refine hf Z L st H s r ds _ _ w e h1 fun vs H1 L1 f1 p1 => ?_
  match ds, h3 with
  | [.str z], h3 =>
    cases h3
    obtain ⟨v, rfl, pv⟩ := dens1 p1
    refine ⟨z, by rw [den_str pv], q _ H1 L1 f1 fun Z2 L2 st2 H2 f2 => ⟨?_, fun i d hd => ?_⟩⟩
    · show z.cps.size ≤ _
      simp [enumT]
    · unfold enumT at hd
      rw [List.getElem?_map] at hd
      obtain ⟨⟨c, j⟩, e1, e2⟩ := Option.map_eq_some_iff.mp hd
      rw [List.getElem?_zipIdx] at e1
      obtain ⟨c', e3, e4⟩ := Option.map_eq_some_iff.mp e1
      simp at e4
      obtain ⟨rfl, rfl⟩ := e4
      subst e2
      have hi : i < z.cps.size := by
        have := (List.getElem?_eq_some_iff.mp e3).1
        simpa using this
      refine ⟨hi, fun x H3 hy => ?_⟩
      obtain ⟨T', c2, rfl, nT, rfl, hc2⟩ := hy
      have : c' = c2 := by
        have e5 : z.cps.toList[i]? = z.cps[i]? := by simp
        rw [e5, hc2] at e3
        exact (Option.some.inj e3).symm
      subst this
      exact ⟨.new f2.wd nT, .newT f2.wd nT (.cons Den.int (.cons Den.str .nil))⟩
end
/-! ### one sign in a text -/
def rSgn (neg : Bool) : R2 := fun x y H Q => ∃ (c : Nat) (z : Str), x = .str ⟨#[c]⟩ ∧ y = .str z ∧ Q (.bl (if neg then !decide (c ∈ z.cps.toList) else decide (c ∈ z.cps.toList))) H
def rInZ (K : PySem.W.Frag) (neg : Bool) : R2 := fun x y H Q => rInA K neg x y H Q ∨ rSgn neg x y H Q
theorem op_InZ {X : Cx} (hu : X.A.units + 1 < cLine) : OpR X (compareOp .In) (rInZ X.K false) := OpR.or (op_InA hu) op_in_sign
theorem op_NotInZ {X : Cx} (hu : X.A.units + 1 < cLine) : OpR X (compareOp .NotIn) (rInZ X.K true) := OpR.or (op_NotInA hu) op_notIn_sign
def gInZ (neg : Bool) (st : Sto) (x y : Dt) : Option (Dt × Sto) := match x, y with
  | .str ⟨cs⟩, .str z => (match cs.toList with
    | [c] => some (.bl (if neg then !decide (c ∈ z.cps.toList) else decide (c ∈ z.cps.toList)), st)
    | _ => none)
  | x, y => gIn neg st x y
section
variable {T : List (Addr × Str)} {K : PySem.W.Frag}
theorem vo_InZ {neg : Bool} : VO2 T (rInZ K neg) (gInZ neg) := by
  intro Z L st H x y dx dy d st' Q w hx hy h q
  unfold gInZ at h
  split at h
  · rename_i cs z
    split at h
    · rename_i c hc
      cases h
      have : cs = #[c] := by
        apply Array.ext'
        simpa using hc
      subst this
      exact .inr ⟨c, z, den_str hx, den_str hy, q _ H L (.refl w) Den.bl⟩
    · cases h
  · exact .inl (vo_In Z L st H x y _ _ d st' Q w hx hy h q)
end
/-! ### list(text) -/
def rLstT : List V → Hp → VK → Prop := fun xs H Q => ∃ z : Str, xs = [.str z] ∧ z.cps.size ≤ sizeLine ∧ ∀ q, H q = none → Q (.ref q) (upd H q (.lst (z.cps.toList.map fun c => .str ⟨#[c]⟩)))
theorem call_lstT {X : Cx} (hc : X.calm = true) : CallR X (.type "list") rLstT := by
  rintro pins s σ H _ us Q I r ⟨z, rfl, hz, q⟩
  obtain ⟨u, rfl, t, rfl⟩ := vals1 r
  refine call_list_str (I.ok.hd hc) z t (fun h' tk ac c' kp hS ha => ⟨.ref s.heap.objs.size, upd H s.heap.objs.size (.lst (z.cps.toList.map fun c => .str ⟨#[c]⟩)), I.laid kp (Nat.le_refl _) (show ObjOk X.prog X.w _ _ _ (.lst (z.cps.toList.map fun c => .str ⟨#[c]⟩)) from ⟨by simpa using hz, ac.toList, c', ?_, by rw [Array.toArray_toList]; exact hS⟩), rfl, q _ (I.hok.fresh (Nat.le_refl _))⟩) hz
  have el : ac.toList.length = ac.size := by simp
  refine vals_of_at (by rw [List.length_map, el, ha.1]; simp) fun j x y h1 h2 => ?_
  obtain ⟨c, u, e1, rfl⟩ := ha.2 j y (by rw [← Array.getElem?_toList]; exact h2)
  rw [List.getElem?_map, Array.getElem?_toList, e1] at h1
  cases h1
  exact ⟨u, rfl⟩
def rListB (K : PySem.W.Frag) : List V → Hp → VK → Prop := fun xs H Q => rListA K xs H Q ∨ rLstT xs H Q
theorem call_listB {X : Cx} (hc : X.calm = true) : CallR X (.type "list") (rListB X.K) := CallR.or (call_listA hc) (call_lstT hc)
def gListB (st : Sto) (xs : List Dt) : Option (Dt × Sto) := match xs with
  | [.str z] => if z.cps.size ≤ sizeLine then some (.lst (z.cps.toList.map fun c => .str ⟨#[c]⟩), st) else none
  | xs => gListD st xs
def gListBR (st : Sto) (xs : List Dt) : Option (Dt × Sto) := match xs with
  | [.str z] => if z.cps.size ≤ sizeLine then some (.ref st.length, st ++ [some (.lst (z.cps.toList.map fun c => .str ⟨#[c]⟩))]) else none
  | xs => gListDR st xs
theorem dens_signs {L : List Addr} {B : Addr → Prop} {H : Hp} : ∀ l : List Nat, Dens L B H (l.map fun c => Dt.str ⟨#[c]⟩) (l.map fun c => V.str ⟨#[c]⟩)
  | [] => .nil
  | _ :: l => .cons Den.str (dens_signs l)
section
variable {T : List (Addr × Str)} {K : PySem.W.Frag}
theorem vo_listB : VON T (rListB K) gListB := by
  intro Z L st H xs dxs d st' Q w hx h q
  unfold gListB at h
  split at h
  · rename_i z
    split at h
    · rename_i hz
      cases h
      obtain ⟨v, rfl, p⟩ := dens1 hx
      exact .inr ⟨z, by rw [den_str p], hz, fun l nl => q _ _ L (.new w nl) (.newL w nl (dens_signs _))⟩
    · cases h
  · exact .inl (vo_listD Z L st H xs _ d st' Q w hx h q)
theorem vo_listBR : VON T (rListB K) gListBR := by
  intro Z L st H xs dxs d st' Q w hx h q
  unfold gListBR at h
  split at h
  · rename_i z
    split at h
    · rename_i hz
      cases h
      obtain ⟨v, rfl, p⟩ := dens1 hx
      refine .inr ⟨z, by rw [den_str p], hz, fun l nl => ?_⟩
      refine q _ _ (L ++ [l]) (.newR w nl ⟨_, rfl, dens_signs _⟩) ?_
      unfold Den
      exact ⟨l, by rw [← w.len]; simp, rfl⟩
    · cases h
  · exact .inl (vo_listDR Z L st H xs _ d st' Q w hx h q)
/-! ### xs.pop(i) -/
def gPop (st : Sto) (x : Dt) (ys : List Dt) : Option (Dt × Sto) := match x, ys with
  | .ref k, [.int i] => (match st[k]? with
    | some (some (.lst ds)) => if -(2 ^ 63) ≤ i ∧ i < 2 ^ 63 then (seqIndex? i ds.length).bind fun j => (ds[j]?).map fun y => (y, st.set k (some (.lst (ds.eraseIdx j)))) else none
    | _ => none)
  | _, _ => none
theorem Dens.erase {L : List Addr} {B : Addr → Prop} {H : Hp} : ∀ {ds : List Dt} {vs : List V} (n : Nat), Dens L B H ds vs → Dens L B H (ds.eraseIdx n) (vs.eraseIdx n)
  | [], vs, _, h => by unfold Dens at h; subst h; exact .nil
  | e :: ds, vs, 0, h => by
    obtain ⟨w, r, rfl, _, t⟩ := h.uncons
    exact t
  | e :: ds, vs, n + 1, h => by
    obtain ⟨w, r, rfl, p, t⟩ := h.uncons
    exact .cons p (Dens.erase n t)
theorem vo_pop : VOM T rPopAt gPop := by
  intro Z L st H x xs dx dxs d st' Q w hx hxs h q
  unfold gPop at h
  split at h
  · rename_i k i
    split at h
    · rename_i ds hk
      split at h
      · rename_i hi
        obtain ⟨j, h1, h2⟩ := bind_some' h
        obtain ⟨y, h3, h4⟩ := Option.map_eq_some_iff.mp h2
        cases h4
        obtain ⟨v, rfl, p⟩ := dens1 hxs
        unfold Den at hx
        obtain ⟨a, ka, rfl⟩ := hx
        obtain ⟨nz, o, eo, vs, rfl, t⟩ := w.own k a _ ka hk
        obtain ⟨u, g1, g2⟩ := t.get h3
        have af := Afz.wr (o := .lst (vs.eraseIdx j)) (d' := .lst (ds.eraseIdx j)) w ka hk ⟨_, rfl, t.erase j⟩
        exact ⟨a, vs, i, j, u, rfl, by rw [den_int p], eo, hi.1, hi.2, by rw [← t.len]; exact h1, g1, q _ _ L af (g2.keep af)⟩
      · cases h
    · cases h
  · cases h
/-! ### dict(d) -/
def rDictC : List V → Hp → VK → Prop := fun xs H Q => ∃ (a : Addr) (kvs : List (Key × V)), xs = [.ref a] ∧ Rd H a (.dK kvs) ∧ ∀ p, H p = none → Q (.ref p) (upd H p (.dK kvs))
def rDictA (K : PySem.W.Frag) : List V → Hp → VK → Prop := fun xs H Q => rDictP K xs H Q ∨ rDictC xs H Q
theorem call_dictA {X : Cx} (hc : X.calm = true) : CallR X (.type "dict") (rDictA X.K) := CallR.or (call_dictP hc) call_dictD
def gDictA (st : Sto) (xs : List Dt) : Option (Dt × Sto) := match xs with
  | [x] => (match asD st x with
    | some p => some (.dic p.1 p.2, st)
    | none => gDictP st [x])
  | _ => none
def gDictAR (st : Sto) (xs : List Dt) : Option (Dt × Sto) := match xs with
  | [x] => (match asD st x with
    | some p => some (.ref st.length, st ++ [some (.dic p.1 p.2)])
    | none => gDictPR st [x])
  | _ => none
theorem vo_dictA : VON T (rDictA K) gDictA := by
  intro Z L st H xs dxs d st' Q w hx h q
  unfold gDictA at h
  split at h
  · split at h
    · rename_i p hp
      cases h
      obtain ⟨ks, ds⟩ := p
      obtain ⟨v, rfl, pv⟩ := dens1 hx
      obtain ⟨a, vs, rfl, ra, hl, t⟩ := asD_ok w pv hp
      exact .inr ⟨a, _, rfl, ra, fun l nl => q _ _ L (.new w nl) (.newD w nl hl t)⟩
    · exact .inl (vo_dictP Z L st H xs _ d st' Q w hx h q)
  · cases h
theorem vo_dictAR : VON T (rDictA K) gDictAR := by
  intro Z L st H xs dxs d st' Q w hx h q
  unfold gDictAR at h
  split at h
  · split at h
    · rename_i p hp
      cases h
      obtain ⟨ks, ds⟩ := p
      obtain ⟨v, rfl, pv⟩ := dens1 hx
      obtain ⟨a, vs, rfl, ra, hl, t⟩ := asD_ok w pv hp
      refine .inr ⟨a, _, rfl, ra, fun l nl => ?_⟩
      refine q _ _ (L ++ [l]) (.newR w nl ⟨vs, rfl, hl, t⟩) ?_
      unfold Den
      exact ⟨l, by rw [← w.len]; simp, rfl⟩
    · exact .inl (vo_dictPR Z L st H xs _ d st' Q w hx h q)
  · cases h
/-! ### min, max of two -/
def g2I (f : Int → Int → Int) (st : Sto) (xs : List Dt) : Option (Dt × Sto) := match xs with
  | [.int i, .int j] => some (.int (f i j), st)
  | _ => none
theorem vo_2I {f : Int → Int → Int} : VON T (fun xs H Q => ∃ i j, xs = [.int i, .int j] ∧ Q (.int (f i j)) H) (g2I f) := by
  intro Z L st H xs dxs d st' Q w hx h q
  unfold g2I at h
  split at h
  · cases h
    obtain ⟨v, u, rfl, p1, p2⟩ := dens2 hx
    exact ⟨_, _, by rw [den_int p1, den_int p2], q _ H L (.refl w) Den.int⟩
  · cases h
def mx (i j : Int) : Int := if j > i then j else i
def mn (i j : Int) : Int := if j < i then j else i
def gMax : Sto → List Dt → Option (Dt × Sto) := g2I mx
def gMin2 : Sto → List Dt → Option (Dt × Sto) := g2I mn
theorem vo_max : VON T (fun xs H Q => ∃ i j, xs = [.int i, .int j] ∧ Q (.int (if j > i then j else i)) H) gMax := vo_2I
theorem vo_min : VON T (fun xs H Q => ∃ i j, xs = [.int i, .int j] ∧ Q (.int (if j < i then j else i)) H) gMin2 := vo_2I
end
/-! ### text * int -/
def repS (z : Str) (k : Nat) : Str := ⟨((List.replicate k z.cps.toList).flatten).toArray⟩
theorem foldl_app : ∀ (k : Nat) (a : Array Nat) (acc : Array Nat), (List.replicate k a).foldl (· ++ ·) acc = acc ++ ((List.replicate k a.toList).flatten).toArray
  | 0, a, acc => by simp
  | k + 1, a, acc => by
    rw [List.replicate_succ, List.foldl_cons, foldl_app k a (acc ++ a), List.replicate_succ, List.flatten_cons]
    apply Array.ext'
    simp
theorem rep_len (z : Str) (k : Nat) : (repS z k).length = k * z.length := by
  unfold repS
  have : ∀ k : Nat, ((List.replicate k z.cps.toList).flatten).length = k * z.cps.toList.length := by
    intro k
    induction k with
    | zero => simp
    | succ k ih => rw [List.replicate_succ, List.flatten_cons, List.length_append, ih, Nat.succ_mul]; omega
  rw [str_len, str_len]
  show ((List.replicate k z.cps.toList).flatten).toArray.toList.length = _
  rw [List.toList_toArray, this]
def rMulS : R2 := fun x y H Q => ∃ (z : Str) (k : Int), x = .str z ∧ y = .int k ∧ 0 ≤ k ∧ k ≤ 1000000 ∧ z.length * k.toNat ≤ 16000000 ∧ Q (.str (repS z k.toNat)) H
theorem op_MulS {X : Cx} : OpR X (binaryOp .Mult) rMulS := by
  rintro pins s σ H _ _ v u Q I rx ry ⟨z, k, rfl, rfl, h0, h1, hz, q⟩
  obtain ⟨t, rfl⟩ := rx
  obtain ⟨t2, rfl⟩ := ry
  have hs : 16777216 ≤ sizeLine := by decide
  refine PySem.P.mul_str (by rw [decide_eq_false (by omega), decide_eq_false (by omega)]; rfl) (fun _ _ => ?_) (fun _ _ => ?_) ?_
  · have hk : (1 : Int) ≤ k := by omega
    have : (z.length : Int) * k ≤ 16000000 := by
      have e : (k.toNat : Int) = k := Int.toNat_of_nonneg h0
      rw [← e, ← Int.natCast_mul]
      exact Int.ofNat_le.mpr hz
    have h3 : (z.length : Int) ≤ 16000000 := Int.le_trans (by
      have := Int.mul_le_mul_of_nonneg_left hk (show (0 : Int) ≤ z.length by omega)
      rw [Int.mul_one] at this
      exact this) this
    have h4 : (16000000 : Int) ≤ (2 ^ 63 - 1) / k := by
      rw [Int.le_ediv_iff_mul_le (by omega)]
      omega
    omega
  · exact decide_eq_false (by omega)
  · split
    · rename_i h2
      have hk : k.toNat = 0 := by omega
      rw [hk] at q
      have e : repS z 0 = Str.empty := rfl
      rw [e] at q
      exact ⟨by decide, ⟨.str Str.empty, H, I.tok _, ⟨_, rfl⟩, q⟩⟩
    · split
      · rename_i h2 h3
        have e : repS z k.toNat = z := by
          simp at h3
          rcases h3 with h3 | h3
          · subst h3
            unfold repS
            simp
          · have : z = ⟨#[]⟩ := by
              cases z
              simp [Str.length] at h3
              subst h3
              rfl
            subst this
            unfold repS
            simp
        rw [e] at q
        exact ⟨.str z, H, I, ⟨t, rfl⟩, q⟩
      · have e : (⟨(List.replicate k.toNat z.cps).foldl (· ++ ·) #[]⟩ : Str) = repS z k.toNat := by
          unfold repS
          rw [foldl_app]
          simp
        rw [e]
        refine ⟨?_, ⟨.str (repS z k.toNat), H, I.tok _, ⟨_, rfl⟩, q⟩⟩
        have := rep_len z k.toNat
        have : k.toNat * z.length = z.length * k.toNat := Nat.mul_comm _ _
        omega
end HB

set_option Elab.async false
set_option linter.all false
set_option maxRecDepth 100000
set_option maxHeartbeats 1000000
/-! HC, part b: sorted(text), sorted(d); the operators with texts; xs += ys; the walks of dicts that are locked. -/
namespace HB
open PySem PySem.Spec PyProof.Rows L2

/-! ### sorted(text) -/
def signs (z : Str) : List Str := z.cps.toList.map fun c => ⟨#[c]⟩
def rSortT : List V → Hp → VK → Prop := fun xs H Q => ∃ z : Str, xs = [.str z] ∧ z.length ≤ 1000 ∧ ∀ p, H p = none → Q (.ref p) (upd H p (.lst ((sortS (signs z)).map V.str)))
theorem strs_ix : ∀ {vs : List Value} {xs : List Str}, vs.length = xs.length → (∀ (j : Nat) (v : Value), vs[j]? = some v → ∃ x u, xs[j]? = some x ∧ v = Value.str x u) → StrsAre vs xs
  | [], [], _, _ => .nil
  | [], _ :: _, h, _ => by simp at h
  | _ :: _, [], h, _ => by simp at h
  | v :: vs, x :: xs, h, f => by
    obtain ⟨y, u, e1, rfl⟩ := f 0 v rfl
    simp at e1
    subst e1
    exact .cons x u (strs_ix (by simpa using h) fun j w hj => by simpa using f (j + 1) w (by simpa using hj))
theorem signs_len (z : Str) : (signs z).length = z.length := by unfold signs; rw [List.length_map, ← str_len]
section
variable {prog : Program} {w : World} {A : Around} {E : Value → Shared → Prop} {s : Shared}
/-- a text's signs collected; the heap has grown -/
theorem collect_strZ {Q : List Value → Shared → Prop} (hh : A.handled = none) (x : Str) (t : Tok)
    (hQ : ∀ s2 ac, (∀ b o, s.heap.get? b = some o → s2.heap.get? b = some o) → s.heap.objs.size < s2.heap.objs.size → s2.gens = s.gens → s2.drawn = s.drawn → s2.os = s.os → ItemsOf (SignAt x) ac x.cps.size → Q ac.toList s2) (hn : x.cps.size ≤ sizeLine) :
    wpAny (model prog w) A (collect (.str x t)) Q E s := by
  unfold collect
  refine wpAny_bind (wpAny_runValue (codeAny_builtin PySem.F.entry_proto_collect ?_))
  rw [Around.under_plainId PySem.F.plain_proto_collect _]
  show wpAny _ A.in1 (newList [] >>= fun l => again (.builtin "list.__iadd__" ⟨[l, .str x t], []⟩)) _ _ s
  refine wpAny_bind (wpAny_newObj_type (wpAny_pure ⟨plainId_quiet PySem.F.plain_list_iadd _, codeAny_builtin PySem.F.entry_list_iadd ?_⟩))
  rw [Around.under_plainId PySem.F.plain_list_iadd _]
  show wpAny _ A.in1 (Builtin.List.listExtendWith (.ref s.heap.objs.size) (.str x t) (.ref s.heap.objs.size)) _ _ _
  unfold Builtin.List.listExtendWith
  refine wpAny_bind (wpAny_typeOf (T := "str") (v := .str x t) rfl ?_)
  have q1 : Builtin.List.listSameRef (.ref s.heap.objs.size) (.str x t) = false := rfl
  have q2 : (Value.type "str" == Value.type "list") = false := by decide
  have q3 : (Value.type "str" == Value.type "tuple") = false := by decide
  simp only [q1, q2, q3, Bool.or_false, Bool.false_eq_true, if_false]
  refine wpAny_bind (wpAny_pyIter_str fun o St W hst => ?_)
  refine wpAny_bind (wpAny_holding ?_)
  unfold Builtin.List.listLengthHint
  refine wpAny_bind (wpAny_specialOf (T := "str") (v := .str x t) rfl PySem.F.str_len ?_)
  wp_delta
  refine wpAny_bind (wpAny_isInstance (T := "str") (v := .str x t) (b := true) rfl (by rw [isSubtype_type]; kernel_rfl) ?_)
  show wpAny _ A.in1 (typeOf (Value.str x t) >>= _) _ _ _
  refine wpAny_bind (wpAny_typeOf (T := "str") (v := .str x t) rfl (wpAny_pure ?_))
  rw [if_neg (by decide)]
  generalize hH : s.heap.push { cls := .type "list", data := .seq ([] : List Value).toArray } = G at W hst ⊢
  have hGs : G.objs.size = s.heap.objs.size + 1 := by rw [← hH, Heap.size_push]
  have nf : s.heap.objs.size ∉ [G.objs.size] := fun hm => by have := List.mem_singleton.mp hm; omega
  have hS : (G.push o).get? s.heap.objs.size = some { cls := .type "list", data := .seq ([] : List Value).toArray } := Heap.get?_push_of_some _ (hH ▸ Heap.get?_push_size _ rfl)
  refine wpAny_pure ⟨plainId_quiet PySem.F.plain_extend_loop _, codeAny_extend_loopS (W A.in1 hh).toS hn _ nf _ x.cps.size 0 _ _ _ rfl (Nat.zero_le _) hst hS (ItemsOf.nil _) fun s2 ac c2 hm hS2 hac => ?_⟩
  show wpAny _ A (load s.heap.objs.size >>= _) _ _ s2
  refine wpAny_bind (wpAny_load hS2 (wpAny_pure (hQ s2 ac (fun b ob e => hm.heap b ob (fun hb => ?_) (Heap.get?_push_of_some _ (hH ▸ Heap.get?_push_of_some _ e))) (Heap.lt_size hS2) hm.gens hm.drawn hm.os hac)))
  have hlt := Heap.lt_size e
  rcases List.mem_cons.mp hb with h | h
  · rw [h] at hlt; exact absurd hlt (Nat.lt_irrefl _)
  · rw [List.mem_singleton.mp h, hGs] at hlt; exact absurd hlt (Nat.not_lt.mpr (Nat.le_succ _))
end
theorem cr_sortT {X : Cx} (hc : X.calm = true) (hu : X.A.units + 64 < cLine) : CallR X (.builtin "sorted") rSortT := by
  rintro pins s s1 H _ us Q I r ⟨z, rfl, hz, q⟩
  obtain ⟨u, rfl, t, rfl⟩ := vals1 r
  have hsl : 16777216 ≤ sizeLine := by decide
  have hzs : z.cps.size = z.length := rfl
  refine Calls.call_function_entry kind_sorted plain_sorted entry_sorted (args_sorted1 _) ?_
  unfold Builtin.«sorted»
  refine wpAny_bind (m := checkCount "sorted" 1 1 _) (wpAny_pure ?_)
  refine wpAny_bind (collect_strZ (A := X.A.in1) (I.ok.hd hc) z t (fun s2 acc k2 z1 g2 d2 o2 ha => ?_) (by omega))
  have z2 : s.heap.objs.size ≤ s2.heap.objs.size := Nat.le_of_lt z1
  have hal : acc.toList.length = (signs z).length := by rw [Array.length_toList, ha.1, signs_len, hzs]
  have hS : StrsAre acc.toList (signs z) := strs_ix hal fun j v e => by
    obtain ⟨c, u, e1, e2⟩ := ha.2 j v (by rw [← Array.getElem?_toList]; exact e)
    refine ⟨⟨#[c]⟩, u, ?_, e2⟩
    unfold signs
    rw [List.getElem?_map, Array.getElem?_toList, e1]
    rfl
  have hsn := signs_len z
  refine wpAny_bind (wpAny_newList ?_ (by omega))
  have hoL : (s2.heap.push (seqObj "list" acc.toList.toArray 0)).get? s2.heap.objs.size = some (seqObj "list" acc.toList.toArray 0) := Heap.get?_push_size _ rfl
  refine wpAny_bind (wpAny_holding (sort_strs (s := { s2 with heap := s2.heap.push (seqObj "list" acc.toList.toArray 0) }) hoL hS (by omega) (by show X.A.units + 1 + 2 < cLine; omega) fun out c h' ho2 hc2 kp => ?_))
  refine wpAny_pure ⟨_, rfl, ?_⟩
  have hn : H s2.heap.objs.size = none := I.hok.fresh z2
  have k3 : ∀ b o, s.heap.get? b = some o → h'.get? b = some o := fun b o e => by
    have := k2 b o e
    exact kp b o (Nat.ne_of_lt (Heap.lt_size this)) (Heap.get?_push_of_some _ this)
  have J : Inv X pins s1 (upd H s2.heap.objs.size (.lst ((sortS (signs z)).map V.str))) { s with heap := h', gens := s2.gens, drawn := s2.drawn, toks := s2.toks } :=
    I.call (ch := []) (Un.laid k3 z2 hn) (I.hok.laid k3 z2 ⟨by rw [List.length_map, sortS_len]; omega, out, c, vals_strs ho2, hc2⟩) (by rw [g2]; exact I.bare) (fun _ z => nomatch z)
  have e : { s2 with heap := h' } = { s with heap := h', gens := s2.gens, drawn := s2.drawn, toks := s2.toks } := by
    cases s2; cases s; cases o2; rfl
  show EP X pins s1 Q _ { s2 with heap := h' }
  rw [e]
  exact ⟨.ref _, _, J, rfl, q _ hn⟩
/-! ### sorted(d), its keys texts -/
def rSortD : List V → Hp → VK → Prop := fun xs H Q => ∃ (a : Addr) (kvs : List (Key × V)) (ks : List Str), xs = [.ref a] ∧ Rd H a (.dK kvs) ∧ kvs.map (·.1) = ks.map Sum.inr ∧ ∀ p, H p = none → Q (.ref p) (upd H p (.lst ((sortS ks).map V.str)))
theorem cr_sortD {X : Cx} (hc : X.calm = true) (hu : X.A.units + 64 < cLine) : CallR X (.builtin "sorted") rSortD := by
  rintro pins s s1 H _ us Q I r ⟨a, kvs, ks, rfl, hd, hks, q⟩
  rw [Vals.ref1 r]
  obtain ⟨z, lo, vs, rel, dd⟩ := hd.ok I.hok
  obtain ⟨ep, hat⟩ := dd.dictAt
  have hkeys : vs.map (·.1) = ks.map Sum.inr := rel.keys.symm.trans hks
  have hl : vs.length = ks.length := by have e := congrArg List.length hkeys; simpa using e
  have h16 : vs.length ≤ sizeLine := by have := rel.length; omega
  refine Calls.call_function_entry kind_sorted plain_sorted entry_sorted (args_sorted1 _) ?_
  unfold Builtin.«sorted»
  refine wpAny_bind (m := checkCount "sorted" 1 1 _) (wpAny_pure ?_)
  refine wpAny_bind (PySem.W.kdu_collect (A := X.A.in1) (PySem.W.kdl_dict (knd := mixKind X.prog X.w) (kvs := vs) (ep := ep) lo) (I.ok.hd hc) hat h16 fun h2 tk acc k2 ha => ?_)
  have hal : acc.toList.length = ks.length := by rw [Array.length_toList, ha.1, hl]
  have hS : StrsAre acc.toList ks := strs_ix hal fun j v e => by
    obtain ⟨k, x, e1, e2⟩ := ha.2 j v (by rw [← Array.getElem?_toList]; exact e)
    have e3 : (vs.map (·.1))[j]? = some k := by rw [List.getElem?_map, e1]; rfl
    rw [hkeys, List.getElem?_map] at e3
    obtain ⟨y, e4, e5⟩ := Option.map_eq_some_iff.mp e3
    subst e5
    obtain ⟨t, ev⟩ := Value.isStrOf_shape (x := y) (v := v) e2
    exact ⟨y, t, e4, ev⟩
  have I1 : Inv X pins s1 H { s with heap := h2, toks := tk } := I.kept k2
  refine wpAny_bind (wpAny_newList ?_ (by omega))
  have hoL : (h2.push (seqObj "list" acc.toList.toArray 0)).get? h2.objs.size = some (seqObj "list" acc.toList.toArray 0) := Heap.get?_push_size _ rfl
  show wpAny _ _ _ _ _ { s with heap := h2.push (seqObj "list" acc.toList.toArray 0), toks := tk }
  refine wpAny_bind (wpAny_holding (sort_strs (s := { s with heap := h2.push (seqObj "list" acc.toList.toArray 0), toks := tk }) hoL hS (by omega) (by show X.A.units + 1 + 2 < cLine; omega) fun out c h' ho2 hc2 kp => ?_))
  refine wpAny_pure ⟨_, rfl, ?_⟩
  exact ⟨.ref _, upd H h2.objs.size (.lst ((sortS ks).map V.str)), I1.laid (t' := tk) (fun b o e => kp b o (Nat.ne_of_lt (Heap.lt_size e)) (Heap.get?_push_of_some _ e)) (Nat.le_refl _) ⟨by rw [List.length_map, sortS_len]; omega, out, c, vals_strs ho2, hc2⟩, rfl, q _ (I1.hok.fresh (Nat.le_refl _))⟩
def rSortZ (K : PySem.W.Frag) : List V → Hp → VK → Prop := fun xs H Q => (rSortL K xs H Q ∨ rSortT xs H Q) ∨ rSortD xs H Q
theorem cr_sortZ {X : Cx} (hc : X.calm = true) (hu : X.A.units + 64 < cLine) : CallR X (.builtin "sorted") (rSortZ X.K) := CallR.or (CallR.or (cr_sortL hu) (cr_sortT hc hu)) (cr_sortD hc hu)
def gSortZ (st : Sto) (xs : List Dt) : Option (Dt × Sto) := match xs with
  | [.str z] => if z.length ≤ 1000 then some (.lst ((sortS (signs z)).map .str), st) else none
  | [x] => (match asL st x with
    | some ds => (strs' ds).map fun ys => (.lst ((sortS ys).map .str), st)
    | none => (asD st x).bind fun p => (kStrs p.1).map fun ks => (.lst ((sortS ks).map .str), st))
  | _ => none
section
variable {T : List (Addr × Str)} {K : PySem.W.Frag}
theorem vo_sortZ : VON T (rSortZ K) gSortZ := by
  intro Z L st H xs dxs d st' Q w hx h q
  unfold gSortZ at h
  split at h
  · rename_i z
    split at h
    · rename_i hz
      cases h
      obtain ⟨v, rfl, p⟩ := dens1 hx
      exact .inl (.inr ⟨z, by rw [den_str p], hz, fun l nl => q _ _ L (.new w nl) (.newL w nl (dens_strs _))⟩)
    · cases h
  · obtain ⟨v, rfl, p⟩ := dens1 hx
    split at h
    · rename_i ds hd
      obtain ⟨ys, h1, h2⟩ := Option.map_eq_some_iff.mp h
      cases h2
      obtain ⟨a, vs, rfl, ea, t⟩ := asL_ok w p hd
      have := strs_ok t h1
      subst this
      exact .inl (.inl ⟨a, ys, rfl, SqL.of ea, fun l nl => q _ _ L (.new w nl) (.newL w nl (dens_strs _))⟩)
    · obtain ⟨⟨ks, ds⟩, h1, h2⟩ := bind_some' h
      obtain ⟨l, h3, h4⟩ := Option.map_eq_some_iff.mp h2
      cases h4
      obtain ⟨a, vs, rfl, ra, hl, t⟩ := asD_ok w p h1
      have := kStrs_ok h3
      dsimp only at this
      subst this
      exact .inr ⟨a, _, l, rfl, ra, zip_keys hl, fun p np => q _ _ L (.new w np) (.newL w np (dens_strs _))⟩
  · cases h
end
/-! ### * with texts -/
def rMulZ : R2 := fun x y H Q => rMulA x y H Q ∨ rMulS x y H Q
theorem op_MulZ {X : Cx} : OpR X (binaryOp .Mult) rMulZ := OpR.or op_MulA op_MulS
def gMulZ (st : Sto) (x y : Dt) : Option (Dt × Sto) := match x, y with
  | .str z, .int k => if 0 ≤ k ∧ k ≤ 1000000 ∧ z.length * k.toNat ≤ 16000000 then some (.str (repS z k.toNat), st) else none
  | x, y => gMulA st x y
section
variable {T : List (Addr × Str)} {K : PySem.W.Frag}
theorem vo_MulZ : VO2 T rMulZ gMulZ := by
  intro Z L st H x y dx dy d st' Q w hx hy h q
  unfold gMulZ at h
  split at h
  · split at h
    · rename_i hk
      cases h
      exact .inr ⟨_, _, den_str hx, den_int hy, hk.1, hk.2.1, hk.2.2, q _ H L (.refl w) Den.str⟩
    · cases h
  · exact .inl (vo_MulA Z L st H x y _ _ d st' Q w hx hy h q)
/-! ### xs += ys of a live list, n += m -/
def rAugA : R2 := fun x y H Q => ipI (fun i j => i + j) x y H Q ∨ rExt2 x y H Q
theorem ip_addA {X : Cx} : PIp X .Add rAugA := fun pins s σ H x y v u Q I rx ry h => h.elim (ip_add pins s σ H x y v u Q I rx ry) (iop_ext pins s σ H x y v u Q I rx ry)
def gAugA (st : Sto) (x y : Dt) : Option (Dt × Sto) := match x, y with
  | .int i, .int j => some (.int (i + j), st)
  | .ref k, y => (match st[k]? with
    | some (some (.lst ds)) => (asL st y).bind fun es => if ds.length + es.length ≤ sizeLine then some (.ref k, st.set k (some (.lst (ds ++ es)))) else none
    | _ => none)
  | _, _ => none
theorem sim_augA {i : Nat} {ta : TE} {fa : SE} (ha : SimE T ta fa) : SimS T (tAug i ta rAugA) (sAug i gAugA fa) := by
  intro Z L st H s r o D w e h q
  unfold sAug at h
  split at h
  · rename_i d hd
    obtain ⟨⟨dy, st1⟩, h1, h⟩ := bind_some' h
    obtain ⟨⟨dz, st2⟩, h2, h3⟩ := Option.map_eq_some_iff.mp h
    cases h3
    obtain ⟨x, hx, px⟩ := e.2 i d hd
    refine ⟨x, hx, ha Z L st H s r dy st1 _ w e h1 fun y H1 L1 f1 p1 => ?_⟩
    dsimp only at h2
    unfold gAugA at h2
    split at h2
    · cases h2
      rw [den_int px, den_int p1]
      exact .inl ⟨_, _, rfl, rfl, q _ H1 L1 f1 ((e.keep f1).set i Den.int)⟩
    · rename_i k _
      split at h2
      · rename_i ds hk
        obtain ⟨es, h4, h5⟩ := bind_some' h2
        split at h5
        · rename_i hz
          cases h5
          have px' := px.keep f1
          unfold Den at px'
          obtain ⟨a, ka, rfl⟩ := px'
          obtain ⟨nz, o, eo, vs, rfl, t⟩ := f1.wd.own k a _ ka hk
          obtain ⟨b, us, rfl, eb, t2⟩ := asL_ok f1.wd p1 h4
          have af := Afz.wr (o := .lst (vs ++ us)) (d' := .lst (ds ++ es)) f1.wd ka hk ⟨_, rfl, t.append t2⟩
          refine .inr ⟨a, b, vs, us, rfl, rfl, eo, eb, by rw [← t.len, ← t2.len]; exact hz, q _ _ L1 (f1.trans af) (((e.keep f1).keep af).set i ?_)⟩
          unfold Den
          exact ⟨a, af.ix ka, rfl⟩
        · cases h5
      · cases h2
    · cases h2
  · cases h
end
section
variable {T : List (Addr × Str)} {X : Cx} {a b c e o : Expr} {es rest : List Expr} {fa fb fc : SE} {ga gb : ST} {fs : SA} {pos : Pos} {g k : SS}
theorem jsAugZ {i : Nat} {x : Str} {p2 : Pos} (hN : X.N.Nodup) (he : PE X e (rE T fa)) (hi : X.N[i]? = some x := by rfl) (hx : Loc X.env.scope x := by first | exact Or.inl rfl | exact Or.inr rfl) (hf : X.fn x = true ∨ X.env.scope.names.lookup x = some .local := by first | exact .inl rfl | exact .inr rfl) :
    PS X (.AugAssign (.Name x p2) .Add e pos) (rS T (sAug i gAugA fa)) := toS (ps_aug hN hi hx he ip_addA hf) (sim_augA sE)
theorem jMulZ (ha : PE X a (rE T fa)) (hb : PE X b (rE T fb)) : PE X (.BinOp a .Mult b pos) (rE T (eOp2 gMulZ fa fb)) := jOp op_MulZ vo_MulZ ha hb
theorem jiEnT {p tpos : Pos} {elts : List Expr} {kk : Nat} (hg : Gl X "enumerate") (hm : X.mg "enumerate" = none) (ha : PA X [e] (rA T fs)) (hs : starEach [e] X.env = [(false, eval e X.env)] := by rfl) :
    PI X (.Tuple elts kk tpos) (.Call (.Name "enumerate" p) [e] [] pos) (rI T (iR enT fs)) := toI (pi_enT hg hm ha hs) (sim_enT sA)
theorem jPop {apos : Pos} (ho : PE X o (rE T fa)) (ha : PA X [e] (rA T fs))
    (hbase : attributeBase o "pop" X.env (eval o X.env) = eval o X.env := by rfl)
    (hfew : ((backTo pos (starEach [e] X.env)).all (fun x => !x.1) && (backToKw pos (keywordEach [] X.env)).all (fun x => x.1.isSome) && decide ([e].length + ([] : List Keyword).length + (if ([] : List Keyword).isEmpty then 0 else 1) < 30)) = true := by rfl)
    (hline : (apos.endLine == pos.line) = true := by rfl) (hs : starEach [e] X.env = (false, eval e X.env) :: starEach [] X.env := by rfl) :
    PE X (.Call (.Attribute o "pop" apos) [e] [] pos) (rE T (eM isL gPop fa fs)) := toE (pe_bm PySem.F.plainAttrs_list PySem.F.slot_list_pop PySem.F.type_list_pop mt_popAt ho ha hbase hfew hline hs rfl) (sim_bmL sE sA vo_pop)
end
/-! ### a dict that is locked while it is walked -/
section
variable {T : List (Addr × Str)} {Z : Addr → Prop} {L L' : List Addr} {st st' : Sto} {H H' : Hp} {a : Addr} {od : Obj} {kvs : List (Key × V)}
mutual
theorem Den.lock {B : Addr → Prop} (ha : H a = some (.dK kvs)) : ∀ {d : Dt} {v : V}, Den L B H d v → Den L B (upd H a (.frz od (.dK kvs))) d v
  | .non, _, q => by unfold Den at q ⊢; exact q
  | .bl _, _, q => by unfold Den at q ⊢; exact q
  | .int _, _, q => by unfold Den at q ⊢; exact q
  | .str _, _, q => by unfold Den at q ⊢; exact q
  | .ref _, _, q => by unfold Den at q ⊢; exact q
  | .lst ds, _, q => by
    unfold Den at q ⊢
    obtain ⟨b, vs, r, nb, e, t⟩ := q
    exact ⟨b, vs, r, nb, by rw [upd_ne (fun z => by rw [z, ha] at e; cases e)]; exact e, Dens.lock ha t⟩
  | .tup ds, _, q => by
    unfold Den at q ⊢
    obtain ⟨b, vs, r, e, t⟩ := q
    exact ⟨b, vs, r, by rw [upd_ne (fun z => by rw [z, ha] at e; cases e)]; exact e, Dens.lock ha t⟩
  | .dic ks ds, _, q => by
    unfold Den at q ⊢
    obtain ⟨b, vs, r, nb, e, el, t⟩ := q
    refine ⟨b, vs, r, nb, ?_, el, Dens.lock ha t⟩
    by_cases hb : b = a
    · subst hb
      rcases e with e | ⟨x, e⟩
      · rw [ha] at e
        cases e
        exact .inr ⟨od, upd_same⟩
      · rw [ha] at e
        cases e
    · rcases e with e | ⟨x, e⟩
      · exact .inl (by rw [upd_ne hb]; exact e)
      · exact .inr ⟨x, by rw [upd_ne hb]; exact e⟩
theorem Dens.lock {B : Addr → Prop} (ha : H a = some (.dK kvs)) : ∀ {ds : List Dt} {vs : List V}, Dens L B H ds vs → Dens L B (upd H a (.frz od (.dK kvs))) ds vs
  | [], _, q => by unfold Dens at q ⊢; exact q
  | d :: ds, _, q => by
    obtain ⟨v, r, rfl, p, t⟩ := q.uncons
    exact .cons (Den.lock ha p) (Dens.lock ha t)
end
mutual
theorem Den.unlock {B : Addr → Prop} (ha : H a = some (.frz od (.dK kvs))) : ∀ {d : Dt} {v : V}, Den L B H d v → Den L B (upd H a (.dK kvs)) d v
  | .non, _, q => by unfold Den at q ⊢; exact q
  | .bl _, _, q => by unfold Den at q ⊢; exact q
  | .int _, _, q => by unfold Den at q ⊢; exact q
  | .str _, _, q => by unfold Den at q ⊢; exact q
  | .ref _, _, q => by unfold Den at q ⊢; exact q
  | .lst ds, _, q => by
    unfold Den at q ⊢
    obtain ⟨b, vs, r, nb, e, t⟩ := q
    exact ⟨b, vs, r, nb, by rw [upd_ne (fun z => by rw [z, ha] at e; cases e)]; exact e, Dens.unlock ha t⟩
  | .tup ds, _, q => by
    unfold Den at q ⊢
    obtain ⟨b, vs, r, e, t⟩ := q
    exact ⟨b, vs, r, by rw [upd_ne (fun z => by rw [z, ha] at e; cases e)]; exact e, Dens.unlock ha t⟩
  | .dic ks ds, _, q => by
    unfold Den at q ⊢
    obtain ⟨b, vs, r, nb, e, el, t⟩ := q
    refine ⟨b, vs, r, nb, ?_, el, Dens.unlock ha t⟩
    by_cases hb : b = a
    · subst hb
      rcases e with e | ⟨x, e⟩
      · rw [ha] at e
        cases e
      · rw [ha] at e
        cases e
        exact .inl upd_same
    · rcases e with e | ⟨x, e⟩
      · exact .inl (by rw [upd_ne hb]; exact e)
      · exact .inr ⟨x, by rw [upd_ne hb]; exact e⟩
theorem Dens.unlock {B : Addr → Prop} (ha : H a = some (.frz od (.dK kvs))) : ∀ {ds : List Dt} {vs : List V}, Dens L B H ds vs → Dens L B (upd H a (.dK kvs)) ds vs
  | [], _, q => by unfold Dens at q ⊢; exact q
  | d :: ds, _, q => by
    obtain ⟨v, r, rfl, p, t⟩ := q.uncons
    exact .cons (Den.unlock ha p) (Dens.unlock ha t)
end
theorem Wd.lock (w : Wd T Z L st H) (ha : H a = some (.dK kvs)) (nb : ¬ Bad Z L st a) : Wd T Z L st (upd H a (.frz od (.dK kvs))) := by
  refine ⟨tabs_upd w.tabs fun u e => by rw [ha] at e; cases e; exact .inr ⟨_, rfl⟩, w.len, w.inj, fun k b d h1 h2 => ?_, fun b z e => ?_⟩
  · obtain ⟨nz, o, eo, q⟩ := w.own k b d h1 h2
    have hb : b ≠ a := fun z => nb (by rw [← z]; exact .inr ⟨k, d, h1, h2⟩)
    exact ⟨nz, o, by rw [upd_ne hb]; exact eo, q.imp fun ds vs t => t.lock ha⟩
  · by_cases hb : b = a
    · rw [hb, upd_same] at e; cases e
    · rw [upd_ne hb] at e; exact w.zt b z e
theorem Wd.unlock (w : Wd T Z L st H) (ha : H a = some (.frz od (.dK kvs))) (nl : ¬ Liv L st a) : Wd T Z L st (upd H a (.dK kvs)) := by
  refine ⟨fun p hp => ?_, w.len, w.inj, fun k b d h1 h2 => ?_, fun b z e => ?_⟩
  · obtain ⟨ps, h1, h2, h3⟩ := w.tabs p hp
    have n1 : p.1 ≠ a := fun z => by rw [z, ha] at h1; cases h1
    refine ⟨ps, by rw [upd_ne n1]; exact h1, h2, fun pos cv hc => ?_⟩
    obtain ⟨c, e1, e2⟩ := h3 pos cv hc
    have n2 : c ≠ a := fun z => by rw [z, ha] at e2; unfold LamX.CodeO at e2; cases e2
    exact ⟨c, e1, by rw [upd_ne n2]; exact e2⟩
  · obtain ⟨nz, o, eo, q⟩ := w.own k b d h1 h2
    have hb : b ≠ a := fun z => nl (by rw [← z]; exact ⟨k, d, h1, h2⟩)
    exact ⟨nz, o, by rw [upd_ne hb]; exact eo, q.imp fun ds vs t => t.unlock ha⟩
  · by_cases hb : b = a
    · rw [hb, upd_same] at e; cases e
    · rw [upd_ne hb] at e; exact w.zt b z e
theorem EnvOk.lock {r : Evr} {s : L2.St} {B : Addr → Prop} (e : EnvOk L B H r s) (ha : H a = some (.dK kvs)) : EnvOk L B (upd H a (.frz od (.dK kvs))) r s := ⟨e.1, fun i d h => let ⟨v, h1, h2⟩ := e.2 i d h; ⟨v, h1, h2.lock ha⟩⟩
theorem EnvOk.unlock {r : Evr} {s : L2.St} {B : Addr → Prop} (e : EnvOk L B H r s) (ha : H a = some (.frz od (.dK kvs))) : EnvOk L B (upd H a (.dK kvs)) r s := ⟨e.1, fun i d h => let ⟨v, h1, h2⟩ := e.2 i d h; ⟨v, h1, h2.unlock ha⟩⟩
/-- what is locked stays so -/
theorem Afz.frz {Z' : Addr → Prop} (f : Afz T Z L st H Z' L' st' H') (ha : H a = some (.frz od (.dK kvs))) (nl : ¬ Liv L st a) : H' a = some (.frz od (.dK kvs)) := f.kp a _ ha nl (fun ps z => by cases z)
/-- from before the lock to behind it -/
theorem Afz.locked (w : Wd T Z L st H) (ha : H a = some (.dK kvs)) (nb : ¬ Bad Z L st a) (f : Af T Z L st (upd H a (.frz od (.dK kvs))) L' st' H') : H' a = some (.frz od (.dK kvs)) ∧ Af T Z L st H L' st' (upd H' a (.dK kvs)) := by
  have nl : ¬ Liv L st a := fun z => nb (.inr z)
  have fa := f.frz upd_same nl
  have nl' : ¬ Liv L' st' a := fun z => by
    rcases f.nw a z with z | z
    · exact nl z
    · rw [upd_same] at z; cases z
  refine ⟨fa, f.wd.unlock fa nl', f.pre, fun b o e n nt => ?_, fun b z => ?_, fun b n z => ?_, fun b xs e => ?_, fun k b hk e => ?_, fun b z => .inl z⟩
  · by_cases hb : b = a
    · rw [hb] at e ⊢; rw [upd_same]; rw [ha] at e; exact e
    · rw [upd_ne hb]; exact f.kp b o (by rw [upd_ne hb]; exact e) n nt
  · rcases f.nw b z with z | z
    · exact .inl z
    · right
      by_cases hb : b = a
      · rw [hb, upd_same] at z; cases z
      · rw [upd_ne hb] at z; exact z
  · by_cases hb : b = a
    · rw [hb, upd_same] at z; cases z
    · rw [upd_ne hb] at z; exact f.trk b (by rw [upd_ne hb]; exact n) z
  · have hb : b ≠ a := fun z => by rw [z, ha] at e; cases e
    rw [upd_ne hb]; exact f.tp b xs (by rw [upd_ne hb]; exact e)
  · have := f.fr k b hk e
    by_cases hb : b = a
    · rw [hb, upd_same] at this; cases this
    · rw [upd_ne hb] at this; exact this
end
end HB

set_option Elab.async false
set_option linter.all false
set_option maxRecDepth 100000
set_option maxHeartbeats 1000000
/-! HC, part c: dicts that are walked (locked meanwhile). -/
namespace HB
open PySem PySem.Spec PyProof.Rows L2

section
variable {X : Cx}
def tOrL (t : TS) : TS := fun D s H => t D s H ∨ tLock t D s H
def tOrLE (t : TE) : TE := fun s H Q => t s H Q ∨ tLockE t s H Q
theorem ps_orL {st : Stmt} {t : TS} (h : PS X st t) : PS X st (tOrL t) := ⟨fun pins s σ H D I q => q.elim (fun q => h.run pins s σ H D I q) fun q => (ps_lock h).run pins s σ H D I q⟩
theorem pe_orL {e : Expr} {t : TE} (h : PE X e t) : PE X e (tOrLE t) := ⟨fun pins s σ H Q I q => q.elim (fun q => h.run pins s σ H Q I q) fun q => (pe_lock h).run pins s σ H Q I q⟩
end
/-- the dict in slot i is locked -/
def FrzAt (i : Nat) (H : Hp) (s : L2.St) : Prop := ∃ a od kvs, s[i]? = some (some (.ref a)) ∧ H a = some (.frz od (.dK kvs))
def SimSf (T : List (Addr × Str)) (i : Nat) (t : TS) (g : SS) : Prop := ∀ Z L st H s r o D, Wd T Z L st H → EnvOk L (Bad Z L st) H r s → FrzAt i H s → g r st = some o → OuOk T Z L st H D o → t D s H
def SimEf (T : List (Addr × Str)) (i : Nat) (t : TE) (f : SE) : Prop := ∀ Z L st H s r d st' (Q : VK), Wd T Z L st H → EnvOk L (Bad Z L st) H r s → FrzAt i H s → f r st = some (d, st') → (∀ v H' L', Af T Z L st H L' st' H' → Den L' (Bad Z L' st') H' d v → Q v H') → t s H Q
section
variable {T : List (Addr × Str)}
theorem sim_orL {i : Nat} {t : TS} {g : SS} (k : SimSf T i t g) (hd : ∀ r st o, g r st = some o → ∃ ks ds, r[i]? = some (some (.dic ks ds))) : SimS T (tOrL t) g := by
  intro Z L st H s r o D w e h q
  obtain ⟨ks, ds, hr⟩ := hd r st o h
  obtain ⟨v, hs, hv⟩ := e.2 i _ hr
  unfold Den at hv
  obtain ⟨a, vs, rfl, nb, ha, hl, t1⟩ := hv
  rcases ha with ha | ⟨od, ha⟩
  · refine .inr ⟨a, _, ha, trivial, fun od => ?_⟩
    refine k Z L st _ s r o _ (w.lock ha nb) (e.lock ha) ⟨a, od, _, hs, upd_same⟩ h ?_
    cases o with
    | nx r' st' => exact fun s' H' L' f e' => ⟨(Afz.locked w ha nb f).1, q s' _ L' (Afz.locked w ha nb f).2 (e'.unlock (Afz.locked w ha nb f).1)⟩
    | bk r' st' => exact fun s' H' L' f e' => ⟨(Afz.locked w ha nb f).1, q s' _ L' (Afz.locked w ha nb f).2 (e'.unlock (Afz.locked w ha nb f).1)⟩
    | ct r' st' => exact fun s' H' L' f e' => ⟨(Afz.locked w ha nb f).1, q s' _ L' (Afz.locked w ha nb f).2 (e'.unlock (Afz.locked w ha nb f).1)⟩
    | rt d st' => exact fun s' H' L' f e' => ⟨(Afz.locked w ha nb f).1, q s' _ L' (Afz.locked w ha nb f).2 (e'.unlock (Afz.locked w ha nb f).1)⟩
  · exact .inl (k Z L st H s r o D w e ⟨a, od, _, hs, ha⟩ h q)
theorem sim_orLE {i : Nat} {t : TE} {f : SE} (k : SimEf T i t f) (hd : ∀ r st o, f r st = some o → ∃ ks ds, r[i]? = some (some (.dic ks ds))) : SimE T (tOrLE t) f := by
  intro Z L st H s r d st' Q w e h q
  obtain ⟨ks, ds, hr⟩ := hd r st _ h
  obtain ⟨v, hs, hv⟩ := e.2 i _ hr
  unfold Den at hv
  obtain ⟨a, vs, rfl, nb, ha, hl, t1⟩ := hv
  rcases ha with ha | ⟨od, ha⟩
  · refine .inr ⟨a, _, ha, trivial, fun od => ?_⟩
    exact k Z L st _ s r d st' _ (w.lock ha nb) (e.lock ha) ⟨a, od, _, hs, upd_same⟩ h fun v' H' L' f e' => ⟨(Afz.locked w ha nb f).1, q v' _ L' (Afz.locked w ha nb f).2 (e'.unlock (Afz.locked w ha nb f).1)⟩
  · exact .inl (k Z L st H s r d st' Q w e ⟨a, od, _, hs, ha⟩ h q)

/-! ### the walks -/
def itK (_ : Sto) : Dt → Option (List Dt)
  | .dic ks _ => some (ks.map keyDt)
  | _ => none
def itV (_ : Sto) : Dt → Option (List Dt)
  | .dic _ ds => some ds
  | _ => none
def itI (_ : Sto) : Dt → Option (List Dt)
  | .dic ks ds => some ((ks.zip ds).map fun p => .tup [keyDt p.1, p.2])
  | _ => none
def Dwk (T : List (Addr × Str)) (wi : TE → TI) (it : Sto → Dt → Option (List Dt)) : Prop := ∀ (i : Nat) Z L st H s r, Wd T Z L st H → EnvOk L (Bad Z L st) H r s → FrzAt i H s → IAt T Z L st H s r (wi (tVar i)) (iE it (eVar i))
theorem den_keyDt {L : List Addr} {B : Addr → Prop} {H : Hp} {k : Key} : Den L B H (keyDt k) (kV k) := by
  cases k <;> (unfold keyDt Den; rfl)
theorem zip_getK {ks : List Key} {vs : List V} {i : Nat} {k : Key} {v : V} (h : (ks.zip vs)[i]? = some (k, v)) : ks[i]? = some k ∧ vs[i]? = some v := by
  rw [List.getElem?_zip_eq_some] at h; exact h
theorem dwk_K : Dwk T iKeys itK := by
  intro i Z L st H s r w e ⟨a, od, kvs, hs, ha⟩ xs st' Q h q
  obtain ⟨⟨dx, st1⟩, h1, h2⟩ := bind_some' h
  obtain ⟨ys, h3, h4⟩ := Option.map_eq_some_iff.mp h2
  cases h4
  unfold eVar at h1
  split at h1
  case h_2 => cases h1
  rename_i d' hd
  cases h1
  obtain ⟨v, h5, h6⟩ := e.2 i _ hd
  rw [hs] at h5
  cases h5
  refine ⟨_, hs, ?_⟩
  cases dx with
  | dic ks ds =>
    cases h3
    unfold Den at h6
    obtain ⟨b, vs, e1, nb, e2, el, t⟩ := h6
    cases e1
    have ek : kvs = ks.zip vs := by
      rcases e2 with e2 | ⟨_, e2⟩ <;> (rw [ha] at e2; cases e2)
      rfl
    subst ek
    refine ⟨a, od, rfl, .inl ⟨_, ha, q _ H L (.refl w) fun Z2 L2 st2 H2 f2 => ?_⟩⟩
    have fa := f2.frz ha (fun z => nb (.inr z))
    refine ⟨⟨fa, ?_⟩, fun j d hj => ⟨⟨fa, ?_⟩, fun x H3 hy => ?_⟩⟩
    · simp [List.length_zip]; omega
    · have := (List.getElem?_eq_some_iff.mp hj).1
      simp [List.length_zip] at this ⊢; omega
    · obtain ⟨rfl, k, v, hk, rfl⟩ := hy
      rw [List.getElem?_map, (zip_getK hk).1] at hj
      cases hj
      exact ⟨.refl f2.wd, den_keyDt⟩
  | _ => cases h3
theorem dwk_V : Dwk T iVals itV := by
  intro i Z L st H s r w e ⟨a, od, kvs, hs, ha⟩ xs st' Q h q
  obtain ⟨⟨dx, st1⟩, h1, h2⟩ := bind_some' h
  obtain ⟨ys, h3, h4⟩ := Option.map_eq_some_iff.mp h2
  cases h4
  unfold eVar at h1
  split at h1
  case h_2 => cases h1
  rename_i d' hd
  cases h1
  obtain ⟨v, h5, h6⟩ := e.2 i _ hd
  rw [hs] at h5
  cases h5
  refine ⟨_, hs, ?_⟩
  cases dx with
  | dic ks ds =>
    cases h3
    unfold Den at h6
    obtain ⟨b, vs, e1, nb, e2, el, t⟩ := h6
    cases e1
    have ek : kvs = ks.zip vs := by
      rcases e2 with e2 | ⟨_, e2⟩ <;> (rw [ha] at e2; cases e2)
      rfl
    subst ek
    refine ⟨a, od, _, rfl, ha, q _ H L (.refl w) fun Z2 L2 st2 H2 f2 => ?_⟩
    have fa := f2.frz ha (fun z => nb (.inr z))
    have hln := t.len
    refine ⟨⟨fa, ?_⟩, fun j d hj => ⟨⟨fa, ?_⟩, fun x H3 hy => ?_⟩⟩
    · simp [List.length_zip]; omega
    · have := (List.getElem?_eq_some_iff.mp hj).1
      simp [List.length_zip] at this ⊢; omega
    · obtain ⟨rfl, k, hk⟩ := hy
      obtain ⟨v, h7, h8⟩ := (t.keep f2).get hj
      rw [(zip_getK hk).2] at h7
      cases h7
      exact ⟨.refl f2.wd, h8⟩
  | _ => cases h3
theorem dwk_I : Dwk T iItems itI := by
  intro i Z L st H s r w e ⟨a, od, kvs, hs, ha⟩ xs st' Q h q
  obtain ⟨⟨dx, st1⟩, h1, h2⟩ := bind_some' h
  obtain ⟨ys, h3, h4⟩ := Option.map_eq_some_iff.mp h2
  cases h4
  unfold eVar at h1
  split at h1
  case h_2 => cases h1
  rename_i d' hd
  cases h1
  obtain ⟨v, h5, h6⟩ := e.2 i _ hd
  rw [hs] at h5
  cases h5
  refine ⟨_, hs, ?_⟩
  cases dx with
  | dic ks ds =>
    cases h3
    unfold Den at h6
    obtain ⟨b, vs, e1, nb, e2, el, t⟩ := h6
    cases e1
    have ek : kvs = ks.zip vs := by
      rcases e2 with e2 | ⟨_, e2⟩ <;> (rw [ha] at e2; cases e2)
      rfl
    subst ek
    refine ⟨a, od, _, rfl, ha, q _ H L (.refl w) fun Z2 L2 st2 H2 f2 => ?_⟩
    have fa := f2.frz ha (fun z => nb (.inr z))
    have hln := t.len
    refine ⟨⟨fa, ?_⟩, fun j d hj => ⟨⟨fa, ?_⟩, fun x H3 hy => ?_⟩⟩
    · simp [List.length_zip]; omega
    · have := (List.getElem?_eq_some_iff.mp hj).1
      simp [List.length_zip] at this ⊢; omega
    · obtain ⟨T', k, v, hk, rfl, nT, rfl⟩ := hy
      obtain ⟨hk1, hk2⟩ := zip_getK hk
      rw [List.getElem?_map] at hj
      obtain ⟨⟨k', d'⟩, h9, h10⟩ := Option.map_eq_some_iff.mp hj
      rw [List.getElem?_zip_eq_some] at h9
      obtain ⟨h9, h11⟩ := h9
      rw [hk1] at h9
      cases h9
      subst h10
      obtain ⟨v', h7, h8⟩ := (t.keep f2).get h11
      rw [hk2] at h7
      cases h7
      exact ⟨.new f2.wd nT, .newT f2.wd nT (.cons den_keyDt (.cons h8 .nil))⟩
  | _ => cases h3
theorem iE_dic {i : Nat} {it : Sto → Dt → Option (List Dt)} (hit : ∀ st d xs, it st d = some xs → ∃ ks ds, d = .dic ks ds) {r : Evr} {st : Sto} {o : List Dt × Sto} (h : iE it (eVar i) r st = some o) : ∃ ks ds, r[i]? = some (some (.dic ks ds)) := by
  obtain ⟨⟨dx, st1⟩, h1, h2⟩ := bind_some' h
  obtain ⟨ys, h3, h4⟩ := Option.map_eq_some_iff.mp h2
  obtain ⟨ks, ds, rfl⟩ := hit _ _ _ h3
  unfold eVar at h1
  split at h1
  · rename_i d' hd
    cases h1
    exact ⟨ks, ds, hd⟩
  · cases h1
theorem itK_dic : ∀ st d xs, itK st d = some xs → ∃ ks ds, d = .dic ks ds := by
  intro st d xs h; cases d <;> first | exact ⟨_, _, rfl⟩ | cases h
theorem itV_dic : ∀ st d xs, itV st d = some xs → ∃ ks ds, d = .dic ks ds := by
  intro st d xs h; cases d <;> first | exact ⟨_, _, rfl⟩ | cases h
theorem itI_dic : ∀ st d xs, itI st d = some xs → ∃ ks ds, d = .dic ks ds := by
  intro st d xs h; cases d <;> first | exact ⟨_, _, rfl⟩ | cases h
end
end HB

set_option Elab.async false
set_option linter.all false
set_option maxRecDepth 100000
set_option maxHeartbeats 1000000
/-! HC, part d: for, comprehensions over dicts. -/
namespace HB
open PySem PySem.Spec PyProof.Rows L2
section
variable {T : List (Addr × Str)}
theorem dc_runA {is own : List Nat} {wi : TI} {fi : SA} {g : TG} {k : SG} {tt : TT} {c : ST} {tk tv : TE} {fk fv : SE} (hg : SimG T is g k) (hc : SimT T tt c) (hk : SimE T tk fk) (hv : SimE T tv fv) (hs : ∀ i ∈ is, i ∈ own)
    {Z : Addr → Prop} {L : List Addr} {st : Sto} {H : Hp} {s : L2.St} {r : Evr} (hi : IAt T Z L st H s r wi fi) {ks : List Key} {zs : List Dt} {st' : Sto} {Q : VK} (w : Wd T Z L st H) (e : EnvOk L (Bad Z L st) H r s) (h : dc fi own k c fk fv r st = some ((ks, zs), st'))
    (q : ∀ D vs H' L', Afz T Z L st H (zAnd Z D) L' st' H' → H D = none → H' D = some (.dK (ks.zip vs)) → ks.length = vs.length → Dens L' (Bad (zAnd Z D) L' st') H' zs vs → Q (.ref D) H') : tDc wi g tt tk tv own s H Q := by
  obtain ⟨⟨xs, st1⟩, a1, a2⟩ := bind_some' h
  refine hi xs st1 _ a1 fun J H1 L1 f1 wk D nD => ?_
  have nD0 : H D = none := by
    cases qq : H D with
    | none => rfl
    | some o => exact absurd nD (f1.trk D (by rw [qq]; simp))
  have m1 : Afz T Z L1 st1 H1 (zAnd Z D) L1 st1 (upd H1 D (.dK [])) := Afz.mine f1.wd nD
  refine ⟨fun i m H2 => m = xs.length - i ∧ i ≤ xs.length ∧ ∃ L2 st2 kc acc vs, Afz T Z L1 st1 H1 (zAnd Z D) L2 st2 H2 ∧ H2 D = some (.dK (kc.zip vs)) ∧ kc.length = vs.length ∧ Dens L2 (Bad (zAnd Z D) L2 st2) H2 acc vs ∧ dcGo k c fk fv (wipeD r own) (xs.drop i) st2 kc acc = some ((ks, zs), st'),
    ⟨xs.length, by simp, Nat.zero_le _, L1, st1, [], [], [], m1, upd_same, rfl, .nil, a2⟩, ?_⟩
  rintro i m H2 ⟨rfl, hle, L2, st2, kc, acc, vs, f2, hD, hl, hacc, h2⟩
  obtain ⟨ws, wg⟩ := wk (zAnd Z D) L2 st2 H2 f2
  by_cases hlt : i < xs.length
  · right
    obtain ⟨go, yl⟩ := wg i xs[i] (List.getElem?_eq_getElem hlt)
    rw [List.drop_eq_getElem_cons hlt] at h2
    obtain ⟨r3, b1, b2⟩ := bind_some' h2
    obtain ⟨⟨b, st3⟩, b3, b4⟩ := bind_some' b2
    refine ⟨go, fun H5 => ∃ L5 st5 kc5 acc5 vs5, Afz T Z L1 st1 H1 (zAnd Z D) L5 st5 H5 ∧ H5 D = some (.dK (kc5.zip vs5)) ∧ kc5.length = vs5.length ∧ Dens L5 (Bad (zAnd Z D) L5 st5) H5 acc5 vs5 ∧ dcGo k c fk fv (wipeD r own) (xs.drop (i + 1)) st5 kc5 acc5 = some ((ks, zs), st'),
      fun H5 x => ⟨xs.length - (i + 1), by omega, rfl, hlt, x⟩, fun x H3 y => ?_⟩
    obtain ⟨f3, p3⟩ := yl x H3 y
    have e3 := (((e.keep f1).keep f2).keep f3).wipe own
    refine hg (zAnd Z D) L2 st2 H3 _ _ x _ r3 _ f3.wd e3 p3 b1 fun s4 e4 wp => ⟨?_, ?_⟩
    · rw [wp own hs, wipe_wipe]
    refine hc (zAnd Z D) L2 st2 H3 s4 r3 b st3 _ f3.wd e4 b3 fun H4 L4 f4 => ?_
    have keepD : ∀ {L' : List Addr} {st'' : Sto} {H' : Hp}, Afz T (zAnd Z D) L2 st2 H2 (zAnd Z D) L' st'' H' → H' D = some (.dK (kc.zip vs)) := fun ff => ff.kp D _ hD (fun z => by
      obtain ⟨j, d, j1, j2⟩ := z
      exact (f2.wd.own j D d j1 j2).1 (.inr rfl)) (fun ps z => by cases z)
    cases b with
    | false =>
      rw [if_neg (by simp)] at b4
      exact iteF ⟨L4, st3, kc, acc, vs, f2.trans (f3.trans f4), keepD (f3.trans f4), hl, (hacc.keep f3).keep f4, b4⟩
    | true =>
      rw [if_pos rfl] at b4
      obtain ⟨⟨dy, st5⟩, c1, c2⟩ := bind_some' b4
      obtain ⟨⟨dz, st6⟩, c3, c4⟩ := bind_some' c2
      obtain ⟨kk, c5, c6⟩ := bind_some' c4
      split at c6
      case isFalse => cases c6
      case isTrue hz =>
      refine iteT (hk (zAnd Z D) L4 st3 H4 s4 r3 dy st5 _ f4.wd (e4.keep f4) c1 fun y H5 L5 f5 p5 => ?_)
      refine hv (zAnd Z D) L5 st5 H5 s4 r3 dz st6 _ f5.wd ((e4.keep f4).keep f5) c3 fun z H6 L6 f6 p6 => ?_
      have fall := f3.trans (f4.trans (f5.trans f6))
      have hacc6 := (((hacc.keep f3).keep f4).keep f5).keep f6
      have zD : zAnd Z D D := .inr rfl
      have hD6 := keepD fall
      have tD6 : ∀ zs, H6 D ≠ some (.tup zs) := fun zs z => by rw [hD6] at z; cases z
      have wd7 : Wd T (zAnd Z D) L6 st6 (upd H6 D (.dK (putK (kc.zip vs) kk z))) := f6.wd.chg zD fun u eu => by rw [hD6] at eu; cases eu; exact .inr ⟨_, rfl⟩
      have fa := f2.trans fall
      have ek : y = kV kk := keyD_ok p5 c5
      refine ⟨kc.zip vs, kk, ek, hD6, by rw [List.length_zip]; omega, L6, st6, (pPut kk dz kc acc).1, (pPut kk dz kc acc).2, (pPut kk z kc vs).2, ⟨wd7, fa.pre, fun b u eb nl nt => ?_, fa.nw, fun b n z => ?_, fun b us eb => ?_, fa.fr, fa.zs⟩, ?_, ?_, (Dens.pPut p6 kk hacc6).chg (.inl zD) tD6, c6⟩
      · rw [upd_ne (ne_of_none eb nD)]; exact fa.kp b u eb nl nt
      · by_cases hb : b = D
        · rw [hb, upd_same] at z; cases z
        · rw [upd_ne hb] at z; exact fa.trk b n z
      · rw [upd_ne (ne_of_none eb nD)]; exact fa.tp b us eb
      · rw [upd_same, pPut_zip kk z hl, pPut_keys kk z dz kc vs acc]
      · rw [pPut_keys kk dz z kc acc vs]; exact pPut_len kk z hl
  · left
    have hx : i = xs.length := by omega
    subst hx
    rw [List.drop_length] at h2
    cases h2
    exact ⟨ws, q D vs H2 L2 (f1.trans f2) nD0 hD hl hacc⟩

theorem simf_for {i : Nat} {is : List Nat} {wi : TE → TI} {it : Sto → Dt → Option (List Dt)} {g : TG} {k : SG} {tb : TS} {gb : SS} (hd : Dwk T wi it) (hg : SimG T is g k) (hb : SimS T tb gb) : SimSf T i (tFor (wi (tVar i)) g tb) (sFor (iE it (eVar i)) k gb) :=
  fun Z L st H s r o D w e fz h q => for_run (hd i Z L st H s r w e fz) hg hb w e h q
theorem simf_lcV {i : Nat} {is own : List Nat} {wi : TE → TI} {it : Sto → Dt → Option (List Dt)} {g : TG} {k : SG} {tt : TT} {c : ST} {te : TE} {f : SE} (hd : Dwk T wi it) (hg : SimG T is g k) (hc : SimT T tt c) (hf : SimE T te f) (hs : ∀ i ∈ is, i ∈ own) : SimEf T i (tLc (wi (tVar i)) g tt te own) (toV (lc (iE it (eVar i)) own k c f)) :=
  fun Z L st H s r d st' Q w e fz h q => at_lcV (hd i Z L st H s r w e fz) hg hc hf hs w e d st' Q h q
theorem simf_dcV {i : Nat} {is own : List Nat} {wi : TE → TI} {it : Sto → Dt → Option (List Dt)} {g : TG} {k : SG} {tt : TT} {c : ST} {tk tv : TE} {fk fv : SE} (hd : Dwk T wi it) (hg : SimG T is g k) (hc : SimT T tt c) (hk : SimE T tk fk) (hv : SimE T tv fv) (hs : ∀ i ∈ is, i ∈ own) : SimEf T i (tDc (wi (tVar i)) g tt tk tv own) (dToV (dc (iE it (eVar i)) own k c fk fv)) := by
  intro Z L st H s r d st' Q w e fz h q
  obtain ⟨⟨⟨ks, zs⟩, st1⟩, a1, h⟩ := bind_some' h
  cases h
  refine dc_runA hg hc hk hv hs (hd i Z L st H s r w e fz) w e a1 fun D vs H' L' ff nD hD hl hv => ?_
  refine q _ H' L' ff.back ?_
  unfold Den
  refine ⟨D, vs, rfl, fun z => ?_, .inl hD, hl, hv.mono bad_zAnd⟩
  rcases z with z | ⟨j, d, j1, j2⟩
  · exact w.zt D z nD
  · exact (ff.wd.own j D d j1 j2).1 (.inr rfl)
theorem simf_dcR {i : Nat} {is own : List Nat} {wi : TE → TI} {it : Sto → Dt → Option (List Dt)} {g : TG} {k : SG} {tt : TT} {c : ST} {tk tv : TE} {fk fv : SE} (hd : Dwk T wi it) (hg : SimG T is g k) (hc : SimT T tt c) (hk : SimE T tk fk) (hv : SimE T tv fv) (hs : ∀ i ∈ is, i ∈ own) : SimEf T i (tDc (wi (tVar i)) g tt tk tv own) (dToR (dc (iE it (eVar i)) own k c fk fv)) := by
  intro Z L st H s r d st' Q w e fz h q
  obtain ⟨⟨⟨ks, zs⟩, st1⟩, a1, h⟩ := bind_some' h
  cases h
  refine dc_runA hg hc hk hv hs (hd i Z L st H s r w e fz) w e a1 fun D vs H' L' ff nD hD hl hv => ?_
  refine q _ H' (L' ++ [D]) (ff.claim w nD hD ⟨vs, rfl, hl, hv⟩) ?_
  unfold Den
  exact ⟨D, by rw [← ff.wd.len]; simp, rfl⟩
theorem bind_of {α β : Type} {x : Option α} {f : α → Option β} {o : β} (h : x.bind f = some o) : ∃ a, x = some a := by
  cases x with
  | none => cases h
  | some a => exact ⟨a, rfl⟩
theorem hd_for {i : Nat} {it : Sto → Dt → Option (List Dt)} (hit : ∀ st d xs, it st d = some xs → ∃ ks ds, d = .dic ks ds) {k : SG} {gb : SS} : ∀ r st o, sFor (iE it (eVar i)) k gb r st = some o → ∃ ks ds, r[i]? = some (some (.dic ks ds)) := fun r st o h => by
  obtain ⟨a, ha⟩ := bind_of h
  exact iE_dic hit ha
theorem hd_lc {i : Nat} {it : Sto → Dt → Option (List Dt)} (hit : ∀ st d xs, it st d = some xs → ∃ ks ds, d = .dic ks ds) {own : List Nat} {k : SG} {c : ST} {f : SE} : ∀ r st o, toV (lc (iE it (eVar i)) own k c f) r st = some o → ∃ ks ds, r[i]? = some (some (.dic ks ds)) := fun r st o h => by
  obtain ⟨a, ha⟩ := bind_of h
  obtain ⟨b, hb⟩ := bind_of ha
  exact iE_dic hit hb
theorem hd_dc {i : Nat} {it : Sto → Dt → Option (List Dt)} (hit : ∀ st d xs, it st d = some xs → ∃ ks ds, d = .dic ks ds) {own : List Nat} {k : SG} {c : ST} {fk fv : SE} : ∀ r st o, dToV (dc (iE it (eVar i)) own k c fk fv) r st = some o → ∃ ks ds, r[i]? = some (some (.dic ks ds)) := fun r st o h => by
  obtain ⟨a, ha⟩ := bind_of h
  obtain ⟨b, hb⟩ := bind_of ha
  exact iE_dic hit hb
theorem hd_dcR {i : Nat} {it : Sto → Dt → Option (List Dt)} (hit : ∀ st d xs, it st d = some xs → ∃ ks ds, d = .dic ks ds) {own : List Nat} {k : SG} {c : ST} {fk fv : SE} : ∀ r st o, dToR (dc (iE it (eVar i)) own k c fk fv) r st = some o → ∃ ks ds, r[i]? = some (some (.dic ks ds)) := fun r st o h => by
  obtain ⟨a, ha⟩ := bind_of h
  obtain ⟨b, hb⟩ := bind_of ha
  exact iE_dic hit hb
end
/-! ### the rules -/
structure DWk (T : List (Addr × Str)) (X : Cx) (tg iter : Expr) (i : Nat) (it : Sto → Dt → Option (List Dt)) : Prop where
  pf : ∃ wi : TE → TI, PI X tg iter (wi (tVar i)) ∧ Dwk T wi it
  hit : ∀ st d xs, it st d = some xs → ∃ ks ds, d = .dic ks ds
section
variable {T : List (Addr × Str)} {X : Cx} {tg : Expr} {pos : Pos}
theorem jdK (i : Nat) {x : Str} (hN : X.N[i]? = some x := by rfl) (hv : Vis X.env.scope x := by first | exact Or.inl rfl | exact Or.inr (Or.inl rfl) | exact Or.inr (Or.inr rfl)) (hd : (x == ("__debug__" : Str)) = false := by decide)
    (hcd : (x == ("__classdict__" : Str)) = false := by decide) : DWk T X tg (.Name x pos) i itK := ⟨⟨iKeys, pi_keys (pe_var hN hv hd hcd), dwk_K⟩, itK_dic⟩
theorem jdI (i : Nat) {x : Str} {elts : List Expr} {kk : Nat} {tpos apos pn : Pos} (hN : X.N[i]? = some x := by rfl) (hv : Vis X.env.scope x := by first | exact Or.inl rfl | exact Or.inr (Or.inl rfl) | exact Or.inr (Or.inr rfl)) (hd : (x == ("__debug__" : Str)) = false := by decide)
    (hcd : (x == ("__classdict__" : Str)) = false := by decide) (hbase : attributeBase (.Name x pn) "items" X.env (eval (.Name x pn) X.env) = eval (.Name x pn) X.env := by rfl) (hline : (apos.endLine == pos.line) = true := by rfl) : DWk T X (.Tuple elts kk tpos) (.Call (.Attribute (.Name x pn) "items" apos) [] [] pos) i itI := ⟨⟨iItems, pi_items (pe_var hN hv hd hcd) hbase hline, dwk_I⟩, itI_dic⟩
theorem jdV (i : Nat) {x : Str} {apos pn : Pos} (hN : X.N[i]? = some x := by rfl) (hv : Vis X.env.scope x := by first | exact Or.inl rfl | exact Or.inr (Or.inl rfl) | exact Or.inr (Or.inr rfl)) (hd : (x == ("__debug__" : Str)) = false := by decide)
    (hcd : (x == ("__classdict__" : Str)) = false := by decide) (hbase : attributeBase (.Name x pn) "values" X.env (eval (.Name x pn) X.env) = eval (.Name x pn) X.env := by rfl) (hline : (apos.endLine == pos.line) = true := by rfl) : DWk T X tg (.Call (.Attribute (.Name x pn) "values" apos) [] [] pos) i itV := ⟨⟨iVals, pi_values (pe_var hN hv hd hcd) hbase hline, dwk_V⟩, itV_dic⟩
variable {i : Nat} {it : Sto → Dt → Option (List Dt)} {iter : Expr}
theorem jsForD {body : List Stmt} {tgt : TG} {kt : SG} {is : List Nat} {g : SS} (hp : PassesOwn (model X.prog X.w) X.A X.env X.xe) (hc : X.calm = true) (hk : SimG T is tgt kt) (hi : DWk T X tg iter i it) (hg : PG X tg tgt) (hb : PSs X body (rS T g)) (hs : ∀ x, foldedSetIterable iter X.env x = pure x := by intro _; rfl) :
    PS X (.For tg iter body [] pos) (rS T (sFor (iE it (eVar i)) kt g)) := by
  obtain ⟨⟨wi, p, q⟩, hit⟩ := hi
  exact toS (ps_orL (ps_for hp hc p hg hb hs)) (sim_orL (simf_for q hk sS) (hd_for hit))
theorem jLcD {elt : Expr} {ifs : List Expr} {scope : Scope} {own : List (Str × Nat)} {g : TG} {k : SG} {is : List Nat} {ga : ST} {fa : SE} (hc : X.calm = true) (hN : X.N.Nodup) (hk : SimG T is g k) (hi : DWk T X tg iter i it) (ok : BlkOk X.N X.env.scope scope own)
    (hg : ∀ s H C cl fp, PG (blkX X scope s H C cl fp) tg g) (ht : ∀ s H C cl fp, PTs (blkX X scope s H C cl fp) ifs (rT T ga)) (he : ∀ s H C cl fp, PE (blkX X scope s H C cl fp) elt (rE T fa)) (hz : ∀ i ∈ is, i ∈ own.map (·.2)) (hs : ∀ x, foldedSetIterable iter X.env x = pure x := by intro _; rfl) :
    PE X (.ListComp elt [⟨tg, iter, ifs, 0⟩] scope pos) (rE T (toV (lc (iE it (eVar i)) (own.map (·.2)) k ga fa))) := by
  obtain ⟨⟨wi, p, q⟩, hit⟩ := hi
  exact toE (pe_orL (pe_lc hc hN p ok hg ht he hs)) (sim_orLE (simf_lcV q hk sT sE hz) (hd_lc hit))
theorem jDcD {kx vx : Expr} {ifs : List Expr} {scope : Scope} {own : List (Str × Nat)} {g : TG} {k : SG} {is : List Nat} {ga : ST} {fa fb : SE} (hc : X.calm = true) (hN : X.N.Nodup) (hk : SimG T is g k) (hi : DWk T X tg iter i it) (ok : BlkOk X.N X.env.scope scope own)
    (hg : ∀ s H C cl fp, PG (blkX X scope s H C cl fp) tg g) (ht : ∀ s H C cl fp, PTs (blkX X scope s H C cl fp) ifs (rT T ga)) (hkx : ∀ s H C cl fp, PE (blkX X scope s H C cl fp) kx (rE T fa)) (hvx : ∀ s H C cl fp, PE (blkX X scope s H C cl fp) vx (rE T fb)) (hz : ∀ i ∈ is, i ∈ own.map (·.2)) (hs : ∀ x, foldedSetIterable iter X.env x = pure x := by intro _; rfl) :
    PE X (.DictComp kx vx [⟨tg, iter, ifs, 0⟩] scope pos) (rE T (dToV (dc (iE it (eVar i)) (own.map (·.2)) k ga fa fb))) := by
  obtain ⟨⟨wi, p, q⟩, hit⟩ := hi
  exact toE (pe_orL (pe_dc hc hN p ok hg ht hkx hvx hs)) (sim_orLE (simf_dcV q hk sT sE sE hz) (hd_dc hit))
theorem jDcDR {kx vx : Expr} {ifs : List Expr} {scope : Scope} {own : List (Str × Nat)} {g : TG} {k : SG} {is : List Nat} {ga : ST} {fa fb : SE} (hc : X.calm = true) (hN : X.N.Nodup) (hk : SimG T is g k) (hi : DWk T X tg iter i it) (ok : BlkOk X.N X.env.scope scope own)
    (hg : ∀ s H C cl fp, PG (blkX X scope s H C cl fp) tg g) (ht : ∀ s H C cl fp, PTs (blkX X scope s H C cl fp) ifs (rT T ga)) (hkx : ∀ s H C cl fp, PE (blkX X scope s H C cl fp) kx (rE T fa)) (hvx : ∀ s H C cl fp, PE (blkX X scope s H C cl fp) vx (rE T fb)) (hz : ∀ i ∈ is, i ∈ own.map (·.2)) (hs : ∀ x, foldedSetIterable iter X.env x = pure x := by intro _; rfl) :
    PE X (.DictComp kx vx [⟨tg, iter, ifs, 0⟩] scope pos) (rE T (dToR (dc (iE it (eVar i)) (own.map (·.2)) k ga fa fb))) := by
  obtain ⟨⟨wi, p, q⟩, hit⟩ := hi
  exact toE (pe_orL (pe_dc hc hN p ok hg ht hkx hvx hs)) (sim_orLE (simf_dcR q hk sT sE sE hz) (hd_dcR hit))
end
end HB

set_option Elab.async false
set_option linter.all false
set_option maxRecDepth 100000
set_option maxHeartbeats 1000000
/-! HC, part e: {**d, k: v}. -/
namespace HB
open PySem PySem.Spec PyProof.Rows L2
section
variable {prog : Program} {w : World} {A : Around} {E : Value → Shared → Prop} {s : Shared}
theorem wp_dictPut {K : Type} [DecidableEq K] {knd : PySem.KeyKind prog w K} {d : Addr} {kvs : List (K × Value)} {k : K} {key v : Value} {Q : Unit → Shared → Prop} (hkey : knd.is k key = true) (hm : s.heap.DictOf knd d kvs)
    (hQ : ∀ h', h'.DictOf knd d (stored kvs k v) → Heap.SameBut d s.heap h' → Q () { s with heap := h' })
    (hsz : kvs.length ≤ sizeLine) :
    wpAny (model prog w) A (dictPut d (knd.hash k) key v) Q E s := by
  obtain ⟨o, es, ep, ho, hc, hd, hk, hp, hn⟩ := hm
  have hes : es.size ≤ sizeLine := by have e1 := hp.length; have e2 : es.toList.length = es.size := by simp
                                      omega
  unfold dictPut
  refine wpAny_bind (wpAny_dictFind_of hkey ho hd hk ?_)
  have hidx : (es.findIdx? fun e => knd.is k e.key) = kvs.findIdx? fun kv => decide (kv.1 = k) := by
    rw [← hp.findIdx k]; obtain ⟨l⟩ := es; simp
  cases hi : es.findIdx? fun e => knd.is k e.key with
  | some i =>
    refine wpAny_updateDict ho hd (hQ _ ⟨_, _, ep, Heap.get?_update_self _ ho (Obj.isFreed_of_dict (Obj.data_mapDict hd _)),
      hc.mapDict _, Obj.data_mapDict hd _, hk.modify _ _, ?_, ?_⟩ (Heap.SameBut.update ..))
    · rw [stored, if_pos (any_of_findIdx_some (hidx ▸ hi))]
      have hl : (es.toList.findIdx? fun e => knd.is k e.key) = some i := by rw [← hi]; obtain ⟨l⟩ := es; simp
      have := hp.modify hn hl v
      obtain ⟨l⟩ := es
      simpa using this
    · rw [stored, if_pos (any_of_findIdx_some (hidx ▸ hi)), keys_map_store]; exact hn
  | none =>
    have hnot : k ∉ kvs.map (·.1) := not_mem_of_findIdx_none (hidx ▸ hi)
    have hany : ¬ (kvs.any fun kv => decide (kv.1 = k)) = true := by
      rw [List.any_eq_true]; rintro ⟨kv, hkv, he⟩
      exact hnot (List.mem_map.mpr ⟨kv, hkv, of_decide_eq_true he⟩)
    refine wpAny_updateDictKeys (hz := hes) ho hd (hQ _ ⟨_, _, ep + 1, Heap.get?_update_self _ ho (Obj.isFreed_of_dict (Obj.data_mapDictKeys hd _)),
      hc.mapDictKeys _, Obj.data_mapDictKeys hd _, hk.push hkey _, ?_, ?_⟩ (Heap.SameBut.update ..))
    · rw [stored, if_neg hany]
      have := hp.append hkey (knd.hash k) v
      obtain ⟨l⟩ := es
      simpa using this
    · rw [stored, if_neg hany, List.map_append, List.nodup_append]
      refine ⟨hn, by simp, ?_⟩
      intro a ha b hb
      simp only [List.map_cons, List.map_nil, List.mem_singleton] at hb
      subst hb
      exact fun e => hnot (e ▸ ha)
theorem wp_mergeMapping {d o : Addr} {kvs more : List (Key × Value)} {Q : Unit → Shared → Prop} (hdo : d ≠ o) (hoS : (o == sysModules) = false)
    (hd : s.heap.DictOf (mixKind prog w) d kvs) (ho : s.heap.DictOf (mixKind prog w) o more)
    (hQ : ∀ h', h'.DictOf (mixKind prog w) d (merged kvs more) → h'.DictOf (mixKind prog w) o more → Heap.SameBut d s.heap h' → Q () { s with heap := h' })
    (hsz : kvs.length + more.length ≤ sizeLine) :
    wpAny (model prog w) A (mergeMapping d (.ref o) false) Q E s := by
  obtain ⟨od, esd, epd, hod, hcd, hdd, hkd, hpd, hnd⟩ := id hd
  obtain ⟨oo, eso, epo, hoo, hco, hdo', hko, hpo, hno⟩ := id ho
  have hlen : more.length = eso.size := by rw [← hpo.length]; simp
  unfold mergeMapping
  have loop : wpAny (model prog w) A (do
      let l ← dictEntries o
      let epoch ← dictEpoch o
      forIn (List.range l.size) PUnit.unit fun i (_ : PUnit) => (do
          let l' ← dictEntries o
          match l'[i]? with
            | some e => do
              holding [e.key, e.val] (dictPut d e.hash e.key e.val)
              let ep' ← dictEpoch o
              if (ep' != epoch) = true then do
                  (unsupported "dict.changed-during-merge" : Sem PUnit)
                  pure (ForInStep.yield PUnit.unit)
                else pure (ForInStep.yield PUnit.unit)
            | _ => do
              (unsupported "dict.changed-during-merge" : Sem PUnit)
              pure (ForInStep.yield PUnit.unit) : Sem (ForInStep PUnit))
      pure ()) Q E s := by
    refine wpAny_bind (wpAny_dictEntries hoo hdo' ?_)
    refine wpAny_bind (wpAny_dictEpoch hoo hdo' ?_)
    refine wpAny_bind ?_
    rw [List.range_eq_range']
    refine wpAny_forIn_list _
      (fun rest _ s' => ∃ h' i, s' = { s with heap := h' } ∧ rest = List.range' i (eso.size - i) ∧ i ≤ eso.size ∧ h'.DictOf (mixKind prog w) d (merged kvs (more.take i)) ∧ h'.get? o = some oo ∧ Heap.SameBut d s.heap h')
      _ ?_ ?_ _ _ ⟨s.heap, 0, rfl, by simp, Nat.zero_le _, by simpa [merged] using hd, hoo, Heap.SameBut.refl _ _⟩
    · rintro x rest b s' ⟨h', i, rfl, hr, hi, hd', hoo', hs'⟩
      have hlt : i < eso.size := by
        rcases Nat.lt_or_ge i eso.size with h | h
        · exact h
        · rw [Nat.sub_eq_zero_of_le h] at hr; simp at hr
      obtain ⟨rfl, hrest⟩ : x = i ∧ rest = List.range' (i + 1) (eso.size - (i + 1)) := by
        have e : eso.size - i = (eso.size - (i + 1)) + 1 := by omega
        rw [e, List.range'_succ] at hr
        injection hr with h1 h2
        exact ⟨h1, h2⟩
      refine wpAny_bind (wpAny_dictEntries hoo' hdo' ?_)
      rw [Array.getElem?_eq_getElem hlt]
      obtain ⟨kv, hkv⟩ : ∃ kv, more[x]? = some kv := ⟨more[x]'(by rw [hlen]; exact hlt), List.getElem?_eq_getElem _⟩
      obtain ⟨k, v⟩ := kv
      obtain ⟨hkey, hval⟩ := hpo.get? (e := eso[x]) (by simp [hlt]) hkv
      obtain ⟨k', hkey', hhash⟩ := hko eso[x] (Array.getElem_mem hlt)
      obtain rfl : k' = k := (mixKind prog w).inj _ _ _ hkey' hkey
      show wpAny _ _ (holding [eso[x].key, eso[x].val] (dictPut d eso[x].hash eso[x].key eso[x].val) >>= _) _ _ _
      rw [hhash, hval]
      have hmx : (merged kvs (more.take x)).length ≤ sizeLine := by
        have e1 := merged_length_le kvs (more.take x)
        have e2 : (more.take x).length ≤ more.length := by rw [List.length_take]; omega
        omega
      refine wpAny_bind (wpAny_holding (wp_dictPut (hsz := hmx) hkey hd' fun h'' hd'' hs'' => ?_))
      have hoo'' : h''.get? o = some oo := (hs''.2 o (Ne.symm hdo)).trans hoo'
      refine wpAny_bind (wpAny_dictEpoch hoo'' hdo' ?_)
      rw [if_neg (by simp)]
      exact wpAny_pure ⟨h'', x + 1, rfl, hrest, hlt, by rw [merged_take_succ kvs more x (k', v) hkv]; exact hd'', hoo'', hs'.trans hs''⟩
    · rintro b s' ⟨h', i, rfl, hr, hi, hd', hoo', hs'⟩
      have hin : i = eso.size := by
        rcases Nat.lt_or_ge i eso.size with h | h
        · have e : eso.size - i = (eso.size - (i + 1)) + 1 := by omega
          rw [e, List.range'_succ] at hr; exact nomatch hr
        · exact Nat.le_antisymm hi h
      refine wpAny_pure (hQ h' ?_ ⟨oo, eso, epo, hoo', hco, hdo', hko, hpo, hno⟩ hs')
      rw [hin, ← hlen, List.take_length] at hd'; exact hd'
  refine wpAny_bind (wpAny_isInstance ho.typeIs isSubtype_dict_dict ?_)
  rw [if_pos rfl]
  refine wpAny_bind (wpAny_specialOf ho.typeIs F.slot_dict_iter.lookup (wpAny_bind (wpAny_pure ?_)))
  simp only [beq_self_eq_true]
  rw [if_neg (by rw [hoS]; exact Bool.false_ne_true)]
  refine wpAny_bind (wpAny_dictEntries hod hdd ?_)
  split
  · refine wpAny_bind (wpAny_dictEntries hoo hdo' ?_)
    refine wpAny_bind ?_
    rw [← Array.forIn_toList, forIn_yield_id _ fun e he c => by
      obtain ⟨k, hkey, _⟩ := hko e (Array.mem_toList_iff.mp he)
      rcases keyIs_shape (show keyIs k e.key = true from hkey) with ⟨i, t, rfl, h⟩ | ⟨x, t, rfl, h⟩ <;> (rw [h])]
    exact wpAny_pure loop
  · exact loop
theorem wp_dictStar {v1 k v2 : Sem Value} {Q : Value → Shared → Prop}
    (h : wpAny (model prog w) A v1 (fun m s1 => ∃ o more, m = .ref o ∧ s.heap.objs.size ≠ o ∧ (o == sysModules) = false ∧ s1.heap.DictOf (mixKind prog w) s.heap.objs.size [] ∧ s1.heap.DictOf (mixKind prog w) o more ∧ more.length ≤ sizeLine ∧
      ∀ h', h'.DictOf (mixKind prog w) s.heap.objs.size more → Heap.SameBut s.heap.objs.size s1.heap h' →
        wpAny (model prog w) A (evalPairs [(k, v2)]) (fun vs s2 => ∃ kvs more2, Carries (mixKind prog w) vs kvs ∧ h'.objs.size ≠ s.heap.objs.size ∧ (h'.objs.size == sysModules) = false ∧ s2.heap.DictOf (mixKind prog w) h'.objs.size [] ∧ s2.heap.DictOf (mixKind prog w) s.heap.objs.size more2 ∧ more2.length + kvs.length ≤ sizeLine ∧
          ∀ h2, h2.DictOf (mixKind prog w) h'.objs.size (merged [] kvs) → Heap.SameBut h'.objs.size s2.heap h2 → ∀ h3, h3.DictOf (mixKind prog w) s.heap.objs.size (merged more2 (merged [] kvs)) → h3.DictOf (mixKind prog w) h'.objs.size (merged [] kvs) → Heap.SameBut s.heap.objs.size h2 h3 → Q (.ref s.heap.objs.size) { s2 with heap := h3, toks := s2.toks + vs.length }) E
          { s1 with heap := h'.push { cls := .type "dict", data := .dict #[] } }) E
      { s with heap := s.heap.push { cls := .type "dict", data := .dict #[] } }) : wpAny (model prog w) A (dictDisplay [(none, v1), (some k, v2)]) Q E s := by
  unfold dictDisplay
  simp only [List.forIn_cons, List.forIn_nil]
  refine wpAny_bind (wpAny_bind (wpAny_bind ?_))
  simp only [List.isEmpty_nil, if_true]
  refine wpAny_pure ?_
  refine wpAny_bind (wpAny_alloc ?_)
  refine wpAny_bind (wpAny_holding (wpAny_mono h (fun m s1 q => ?_) fun _ _ e => e))
  obtain ⟨o, more, rfl, hne, hoS, d0, d1, hz, q⟩ := q
  refine wpAny_bind (wpAny_onRaise (wpAny_tryCatch (wpAny_onRaise (wpAny_holding (wp_mergeMapping hne hoS d0 d1 (fun h' e1 e2 e3 => ?_) (by simpa using hz))))))
  rw [merged_nil_of_nodup more (by obtain ⟨_, _, _, _, _, _, _, _, hn⟩ := d1; exact hn)] at e1
  refine wpAny_pure ?_
  refine wpAny_bind ?_
  rw [if_neg (by simp)]
  refine wpAny_pure (wpAny_pure ?_)
  refine wpAny_bind ?_
  rw [if_neg (by simp)]
  refine wpAny_bind (wpAny_holding (wpAny_subDict (knd := mixKind prog w) (by simp) (wpAny_mono (q h' e1 e3) (fun vs s2 q2 => ?_) fun _ _ e => e)))
  obtain ⟨kvs, more2, c, n1, n2, f0, f1, hz2, q2⟩ := q2
  refine ⟨kvs, c, f0, fun h2 g1 g2 => ?_⟩
  refine wpAny_bind (wpAny_onRaise (wpAny_holding (wp_mergeMapping (Ne.symm n1) n2 (f1.sameBut g2 (Ne.symm n1)) g1 (fun h3 k1 k2 k3 => ?_) ?_)))
  · exact wpAny_pure (wpAny_pure (q2 h2 g1 g2 h3 k1 k2 k3))
  · have := merged_length_le ([] : List (Key × Value)) kvs
    simp at this
    omega
end
end HB

set_option Elab.async false
set_option linter.all false
set_option maxRecDepth 100000
set_option maxHeartbeats 1000000
/-! HC, part f: {**d, k: v} as a rule. -/
namespace HB
open PySem PySem.Spec PyProof.Rows L2
def tStar (td tk tv : TE) : TE := fun σ H Q => ∀ p, H p = none → td σ (upd H p (.dK [])) fun m H1 => H1 p = some (.dK []) ∧ ∃ (a : Addr) (kvs : List (Key × V)), m = .ref a ∧ Rd H1 a (.dK kvs) ∧ p ≠ a ∧ kvs.length + 1 ≤ sizeLine ∧
  ∀ q, H1 q = none → tk σ (upd (upd H1 p (.dK kvs)) q (.dK [])) fun x H2 => tv σ H2 fun y H3 => H3 p = some (.dK kvs) ∧ H3 q = some (.dK []) ∧ ∃ k, x = kV k ∧ Q (.ref p) (upd (upd H3 q (.dK [(k, y)])) p (.dK (putK kvs k y)))
def onePair (P : V → V → Hp → Prop) : List (V × V) → Hp → Prop
  | [(x, y)], H => P x y H
  | _, _ => False
theorem pe_star {X : Cx} {d k v : Expr} {pos : Pos} {td tk tv : TE} (hd : PE X d td) (hk : PE X k tk) (hv : PE X v tv) : PE X (.Dict [none, some k] [d, v] pos) (tStar td tk tv) := by
  refine ⟨fun pins s σ H Q I q => ?_⟩
  have hn := I.hok.fresh (Nat.le_refl s.heap.objs.size)
  have I1 := I.laid (a := s.heap.objs.size) (o := .dK []) (h' := s.heap.push { cls := .type "dict", data := .dict #[] }) (t' := s.toks) (fun _ _ q => Heap.get?_push_of_some _ q) (Nat.le_refl _) (dk_empty s.heap I.big)
  rw [arm_eval_Dict]
  refine wpAny_bind (wpAny_standAt ?_)
  show wpAny _ _ (dictDisplay [(none, do let x ← eval d X.env; standAt pos; pure x), (some (eval k X.env), do let x ← eval v X.env; standAt pos; pure x)]) _ _ s
  refine wp_dictStar ?_
  refine wpAny_bind (thn (hd.run pins _ σ _ _ I1 (q _ hn)) fun u s1 ⟨m, H1, I2, rm, e0, a, kvs, em, ra, hne, hz, q1⟩ => ?_)
  subst em
  obtain rfl : u = Value.ref a := rm
  refine wpAny_bind (wpAny_standAt (wpAny_pure ?_))
  obtain ⟨zp, hdp, vs0, r0, d0⟩ := dk_of I2.hok e0
  cases r0
  obtain ⟨za, hda, more, r1, d1⟩ := dk_rd I2.hok ra
  have lm : kvs.length = more.length := Paired.length r1
  refine ⟨a, more, rfl, hne, hda, d0, d1, by omega, fun h' e1 e2 => ?_⟩
  have he : ∃ q, h'.get? s.heap.objs.size = some q := let ⟨q, _, _, hq, _⟩ := e1; ⟨q, hq⟩
  have I3 : Inv X pins σ (upd H1 s.heap.objs.size (.dK kvs)) { s1 with heap := h', toks := s1.toks } := d_write I2 (by rw [e0]; exact True.intro) e2 he (dk_new za hdp r1 e1)
  have hn2 := I3.hok.fresh (Nat.le_refl h'.objs.size)
  have hpq : h'.objs.size ≠ s.heap.objs.size := fun z => by rw [z, upd_same] at hn2; cases hn2
  rw [upd_ne hpq] at hn2
  have I4 := I3.laid (a := h'.objs.size) (o := .dK []) (h' := h'.push { cls := .type "dict", data := .dict #[] }) (t' := s1.toks) (fun _ _ q => Heap.get?_push_of_some _ q) (Nat.le_refl _) (dk_empty h' I3.big)
  have key := (pps_cons (pos := pos) hk hv pps_nil).run pins _ σ _ (onePair fun x y H3 => H3 s.heap.objs.size = some (.dK kvs) ∧ H3 h'.objs.size = some (.dK []) ∧ ∃ k, x = kV k ∧ Q (.ref s.heap.objs.size) (upd (upd H3 h'.objs.size (.dK [(k, y)])) s.heap.objs.size (.dK (putK kvs k y)))) I4 ?_
  · refine thn key fun ws s2 ⟨ps, H3, I5, rel, qq⟩ => ?_
    match ps, qq with
    | [(x, y)], qq =>
    obtain ⟨e3, e4, kk, ek, qf⟩ := qq
    subst ek
    obtain ⟨rs, c, rk⟩ := carries_of (P := X.prog) (w := X.w) (kvs := [(kk, y)]) rel
    obtain ⟨_, hdq, vs1, r2, d2⟩ := dk_of I5.hok e4
    cases r2
    obtain ⟨_, _, more2, r3, d3⟩ := dk_of I5.hok e3
    have l2 : kvs.length = more2.length := Paired.length r3
    have l3 : rs.length = 1 := (Paired.length rk).symm
    refine ⟨rs, more2, c, hpq, hdq, d2, d3, by omega, fun h2 g1 g2 h3 k1 k2 k3 => ⟨.ref s.heap.objs.size, _, ?_, rfl, qf⟩⟩
    have rk' : KV [(kk, y)] (merged [] rs) := rk.merge .nil
    have he2 : ∃ q, h2.get? h'.objs.size = some q := let ⟨q, _, _, hq, _⟩ := g1; ⟨q, hq⟩
    have he3 : ∃ q, h3.get? s.heap.objs.size = some q := let ⟨q, _, _, hq, _⟩ := k1; ⟨q, hq⟩
    have I6 : Inv X pins σ (upd H3 h'.objs.size (.dK [(kk, y)])) { s2 with heap := h2, toks := s2.toks + ws.length } := d_write I5 (by rw [e4]; exact True.intro) g2 he2 (dk_new (by rw [List.length_singleton]; omega) hdq rk' g1)
    exact d_write (s := { s2 with heap := h2, toks := s2.toks + ws.length }) (t' := s2.toks + ws.length) I6 (by rw [upd_ne (Ne.symm hpq), e3]; exact True.intro) k3 he3 (dk_new (by have := length_putK kvs kk y; omega) hdp (rk'.merge r3) k1)
  · exact q1 _ hn2
/-! ### the plain function -/
def eStar (fd fk fv : SE) : Evr → Sto → Option ((List Key × List Dt) × Sto) := fun r st => (fd r st).bind fun x => (asD x.2 x.1).bind fun p => (fk r x.2).bind fun y => (fv r y.2).bind fun z => (keyD y.1).bind fun k => if p.1.length < sizeLine then some (pPut k z.1 p.1 p.2, z.2) else none
section
variable {T : List (Addr × Str)}
theorem Afz.chgZ {Z Z' : Addr → Prop} {L L' : List Addr} {st st' : Sto} {H H' : Hp} {D : Addr} {kvs kvs' : List (Key × V)} (f : Afz T Z L st H Z' L' st' H') (zD : Z' D) (nD : H D = none) (hD : H' D = some (.dK kvs)) : Afz T Z L st H Z' L' st' (upd H' D (.dK kvs')) := by
  refine ⟨f.wd.chg zD fun u eu => by rw [hD] at eu; cases eu; exact .inr ⟨_, rfl⟩, f.pre, fun b u eb nl nt => ?_, f.nw, fun b n z => ?_, fun b us eb => ?_, f.fr, f.zs⟩
  · rw [upd_ne (ne_of_none eb nD)]; exact f.kp b u eb nl nt
  · by_cases hb : b = D
    · rw [hb, upd_same] at z; cases z
    · rw [upd_ne hb] at z; exact f.trk b n z
  · rw [upd_ne (ne_of_none eb nD)]; exact f.tp b us eb
theorem asD_ne {Z : Addr → Prop} {L : List Addr} {st : Sto} {H : Hp} {D a : Addr} {d : Dt} {ks : List Key} {ds : List Dt} (w : Wd T (zAnd Z D) L st H) (h : Den L (Bad (zAnd Z D) L st) H d (.ref a)) (e : asD st d = some (ks, ds)) : D ≠ a := by
  intro z
  subst z
  cases d with
  | dic xs ys =>
    unfold Den at h
    obtain ⟨b, vs, r, nb, e, el, t⟩ := h
    cases r
    exact nb (.inl (.inr rfl))
  | ref k =>
    unfold asD at e
    dsimp only at e
    split at e
    · rename_i xs ys hk
      unfold Den at h
      obtain ⟨b, ka, r⟩ := h
      cases r
      exact (w.own k D _ ka hk).1 (.inr rfl)
    · cases e
  | _ => cases e
theorem star_run {fd fk fv : SE} {Z : Addr → Prop} {L : List Addr} {st : Sto} {H : Hp} {s : L2.St} {ev : Evr} {ks : List Key} {ds : List Dt} {st' : Sto} {Q : VK} (w : Wd T Z L st H) (e : EnvOk L (Bad Z L st) H ev s) (h : eStar fd fk fv ev st = some ((ks, ds), st'))
    (q : ∀ D vs H' L', Afz T Z L st H (zAnd Z D) L' st' H' → H D = none → H' D = some (.dK (ks.zip vs)) → ks.length = vs.length → Dens L' (Bad (zAnd Z D) L' st') H' ds vs → Q (.ref D) H') : tStar (rE T fd) (rE T fk) (rE T fv) s H Q := by
  obtain ⟨⟨dx, st1⟩, h1, h⟩ := bind_some' h
  obtain ⟨⟨ks0, ds0⟩, h2, h⟩ := bind_some' h
  obtain ⟨⟨dy, st2⟩, h3, h⟩ := bind_some' h
  obtain ⟨⟨dz, st3⟩, h4, h⟩ := bind_some' h
  obtain ⟨k, h5, h⟩ := bind_some' h
  split at h
  case isFalse => cases h
  case isTrue hz =>
  have h6 : pPut k dz ks0 ds0 = (ks, ds) := congrArg Prod.fst (Option.some.inj h)
  have h7 : st3 = st' := congrArg Prod.snd (Option.some.inj h)
  subst h7
  obtain rfl : (pPut k dz ks0 ds0).1 = ks := by rw [h6]
  obtain rfl : (pPut k dz ks0 ds0).2 = ds := by rw [h6]
  clear h6 h
  intro D nD
  have m1 : Afz T Z L st H (zAnd Z D) L st (upd H D (.dK [])) := Afz.mine w nD
  have zD : zAnd Z D D := .inr rfl
  refine sE (zAnd Z D) L st _ s ev dx st1 _ m1.wd (e.keep m1) h1 fun m H1 L1 f1 p1 => ?_
  have hD : H1 D = some (.dK []) := f1.kp D _ upd_same (fun z => by
    obtain ⟨j, d, j1, j2⟩ := z
    exact (m1.wd.own j D d j1 j2).1 zD) (fun ps z => by cases z)
  obtain ⟨a, vs, rfl, ra, hl, t⟩ := asD_ok f1.wd p1 h2
  refine ⟨hD, a, _, rfl, ra, asD_ne f1.wd p1 h2, by rw [List.length_zip]; dsimp only at hz; omega, fun q2 nq => ?_⟩
  have tD : ∀ zs, H1 D ≠ some (.tup zs) := fun zs z => by rw [hD] at z; cases z
  have g1 : Afz T Z L st H (zAnd Z D) L1 st1 (upd H1 D (.dK (ks0.zip vs))) := (m1.trans f1).chgZ zD nD hD
  have t1 : Dens L1 (Bad (zAnd Z D) L1 st1) (upd H1 D (.dK (ks0.zip vs))) ds0 vs := t.chg (.inl zD) tD
  have hqD : q2 ≠ D := fun z => by rw [z, hD] at nq; cases nq
  have nq' : upd H1 D (.dK (ks0.zip vs)) q2 = none := by rw [upd_ne hqD]; exact nq
  have nq0 : H q2 = none := by
    cases qq : H q2 with
    | none => rfl
    | some o => exact absurd nq' (g1.trk q2 (by rw [qq]; simp))
  have m2 : Afz T (zAnd Z D) L1 st1 (upd H1 D (.dK (ks0.zip vs))) (zAnd (zAnd Z D) q2) L1 st1 (upd (upd H1 D (.dK (ks0.zip vs))) q2 (.dK [])) := Afz.mine g1.wd nq'
  have g2 := g1.trans m2
  have zq : zAnd (zAnd Z D) q2 q2 := .inr rfl
  have zD2 : zAnd (zAnd Z D) q2 D := .inl zD
  refine sE _ L1 st1 _ s ev dy st2 _ g2.wd (e.keep g2) h3 fun x H2 L2 f2 p2 => ?_
  refine sE _ L2 st2 H2 s ev dz st3 _ f2.wd ((e.keep g2).keep f2) h4 fun y H3 L3 f3 p3 => ?_
  have f23 := f2.trans f3
  have kd : ∀ (c : Addr) (o : HO), zAnd (zAnd Z D) q2 c → upd (upd H1 D (.dK (ks0.zip vs))) q2 (.dK []) c = some o → (∀ ps, o ≠ .tbl ps) → H3 c = some o := fun c o zc ec nt => f23.kp c o ec (fun z => by
    obtain ⟨j, d, j1, j2⟩ := z
    exact (g2.wd.own j c d j1 j2).1 zc) nt
  have e3D : H3 D = some (.dK (ks0.zip vs)) := kd D _ zD2 (by rw [upd_ne (Ne.symm hqD), upd_same]) (fun ps z => by cases z)
  have e3q : H3 q2 = some (.dK []) := kd q2 _ zq upd_same (fun ps z => by cases z)
  refine ⟨e3D, e3q, k, keyD_ok p2 h5, ?_⟩
  have g3 := g2.trans f23
  have t3 := Dens.pPut (ks := ks0) p3 k ((t1.keep m2).keep f23)
  have g4 : Afz T Z L st H (zAnd (zAnd Z D) q2) L3 st3 (upd H3 q2 (.dK [(k, y)])) := g3.chgZ zq nq0 e3q
  have t4 := t3.chg (o := .dK [(k, y)]) (.inl zq) (fun zs z => by rw [e3q] at z; cases z)
  have e4D : upd H3 q2 (.dK [(k, y)]) D = some (.dK (ks0.zip vs)) := by rw [upd_ne (Ne.symm hqD)]; exact e3D
  have g5 := g4.chgZ (kvs' := putK (ks0.zip vs) k y) zD2 nD e4D
  have t5 := t4.chg (o := .dK (putK (ks0.zip vs) k y)) (.inl zD2) (fun zs z => by rw [e4D] at z; cases z)
  refine q D (pPut k y ks0 vs).2 _ L3 ⟨g5.wd.less fun b z => .inl z, g5.pre, g5.kp, g5.nw, g5.trk, g5.tp, g5.fr, fun b z => z.elim .inl fun y => .inr (by rw [y]; exact nD)⟩ nD ?_ ?_ (t5.mono bad_zAnd)
  · rw [upd_same, pPut_zip k y hl, pPut_keys k y dz ks0 vs ds0]
  · rw [pPut_keys k dz y ks0 ds0 vs]; exact pPut_len k y hl
theorem sim_starV {fd fk fv : SE} : SimE T (tStar (rE T fd) (rE T fk) (rE T fv)) (dToV (eStar fd fk fv)) := by
  intro Z L st H s r d st' Q w e h q
  obtain ⟨⟨⟨ks, zs⟩, st1⟩, a1, h⟩ := bind_some' h
  cases h
  refine star_run w e a1 fun D vs H' L' ff nD hD hl hv => ?_
  refine q _ H' L' ff.back ?_
  unfold Den
  refine ⟨D, vs, rfl, fun z => ?_, .inl hD, hl, hv.mono bad_zAnd⟩
  rcases z with z | ⟨j, d, j1, j2⟩
  · exact w.zt D z nD
  · exact (ff.wd.own j D d j1 j2).1 (.inr rfl)
theorem jStarV {X : Cx} {d k v : Expr} {pos : Pos} {fd fk fv : SE} (hd : PE X d (rE T fd)) (hk : PE X k (rE T fk)) (hv : PE X v (rE T fv)) : PE X (.Dict [none, some k] [d, v] pos) (rE T (dToV (eStar fd fk fv))) := toE (pe_star hd hk hv) sim_starV
end
end HB

set_option Elab.async false
set_option linter.all false
set_option maxRecDepth 100000
set_option maxHeartbeats 1000000
/-! HC, part g: [.. for x in xs for sign in text]. -/
namespace HB
open PySem PySem.Spec PyProof.Rows L2
def lc2Go (k : SG) (c : ST) (fw : SE) (vs1 : List Nat) (k1 : SG) (c1 : ST) (f : SE) (r : Evr) : List Dt → Sto → Option (List Dt × Sto)
  | [], st => some ([], st)
  | x :: xs, st => (k x r).bind fun r1 => (c r1 st).bind fun b => if b.1 = true then (iE itS fw r1 b.2).bind fun ys => (lcGo k1 c1 f (wipeD r1 vs1) ys.1 ys.2).bind fun z => (lc2Go k c fw vs1 k1 c1 f r xs z.2).bind fun z2 => some (z.1 ++ z2.1, z2.2) else lc2Go k c fw vs1 k1 c1 f r xs b.2
def lc2 (fi : SA) (own : List Nat) (k : SG) (c : ST) (fw : SE) (vs1 : List Nat) (k1 : SG) (c1 : ST) (f : SE) : SA := fun r st => (fi r st).bind fun xs => (lc2Go k c fw vs1 k1 c1 f (wipeD r own) xs.1 xs.2).bind fun z => if z.1.length ≤ sizeLine then some z else none
section
variable {T : List (Addr × Str)}
theorem EnvOk.chg {L : List Addr} {B : Addr → Prop} {H : Hp} {a : Addr} {o : HO} {r : Evr} {s : L2.St} (e : EnvOk L B H r s) (hb : B a) (ht : ∀ xs, H a ≠ some (.tup xs)) : EnvOk L B (upd H a o) r s := ⟨e.1, fun i d h => let ⟨v, h1, h2⟩ := e.2 i d h; ⟨v, h1, h2.chg hb ht⟩⟩
theorem lc2_run {is is1 own vs1 : List Nat} {wi : TI} {fi : SA} {g g1 : TG} {k k1 : SG} {tt tt1 : TT} {c c1 : ST} {tw te : TE} {fw f : SE} (hi : SimI T wi fi) (hg : SimG T is g k) (hc : SimT T tt c) (hw : SimE T tw fw) (hg1 : SimG T is1 g1 k1) (hc1 : SimT T tt1 c1) (hf : SimE T te f) (hs : ∀ i ∈ is, i ∈ own) (hs1 : ∀ i ∈ is1, i ∈ vs1)
    {Z : Addr → Prop} {L : List Addr} {st : Sto} {H : Hp} {s : L2.St} {r : Evr} {zs : List Dt} {st' : Sto} {Q : VK} (w : Wd T Z L st H) (e : EnvOk L (Bad Z L st) H r s) (h : lc2 fi own k c fw vs1 k1 c1 f r st = some (zs, st'))
    (q : ∀ D vs H' L', Afz T Z L st H (zAnd Z D) L' st' H' → H D = none → H' D = some (.lst vs) → Dens L' (Bad (zAnd Z D) L' st') H' zs vs → Q (.ref D) H') : tLc2 wi g tt (iStr tw) g1 tt1 te own vs1 s H Q := by
  obtain ⟨⟨xs, st1⟩, a1, h⟩ := bind_some' h
  obtain ⟨⟨ys, st9⟩, a2, h⟩ := bind_some' h
  split at h
  case isFalse => cases h
  case isTrue hz =>
  cases h
  refine hi Z L st H s r xs st1 _ w e a1 fun J H1 L1 f1 wk D nD => ?_
  have nD0 : H D = none := by
    cases qq : H D with
    | none => rfl
    | some o => exact absurd nD (f1.trk D (by rw [qq]; simp))
  have zD : zAnd Z D D := .inr rfl
  have m1 : Afz T Z L1 st1 H1 (zAnd Z D) L1 st1 (upd H1 D (.lst [])) := Afz.mine f1.wd nD
  refine ⟨fun i m H2 => m = xs.length - i ∧ i ≤ xs.length ∧ ∃ L2 st2 acc rest vs, Afz T Z L1 st1 H1 (zAnd Z D) L2 st2 H2 ∧ H2 D = some (.lst vs) ∧ Dens L2 (Bad (zAnd Z D) L2 st2) H2 acc vs ∧ lc2Go k c fw vs1 k1 c1 f (wipeD r own) (xs.drop i) st2 = some (rest, st') ∧ acc ++ rest = zs,
    ⟨xs.length, by simp, Nat.zero_le _, L1, st1, [], zs, [], m1, upd_same, .nil, a2, rfl⟩, ?_⟩
  rintro i m H2 ⟨rfl, hle, L2, st2, acc, rest, vs, f2, hD, hacc, h2, ez⟩
  obtain ⟨ws, wg⟩ := wk (zAnd Z D) L2 st2 H2 f2
  by_cases hlt : i < xs.length
  · right
    obtain ⟨go, yl⟩ := wg i xs[i] (List.getElem?_eq_getElem hlt)
    rw [List.drop_eq_getElem_cons hlt] at h2
    obtain ⟨r3, b1, b2⟩ := bind_some' h2
    obtain ⟨⟨b, st3⟩, b3, b4⟩ := bind_some' b2
    refine ⟨go, fun H5 => ∃ L5 st5 acc5 rest5 vs5, Afz T Z L1 st1 H1 (zAnd Z D) L5 st5 H5 ∧ H5 D = some (.lst vs5) ∧ Dens L5 (Bad (zAnd Z D) L5 st5) H5 acc5 vs5 ∧ lc2Go k c fw vs1 k1 c1 f (wipeD r own) (xs.drop (i + 1)) st5 = some (rest5, st') ∧ acc5 ++ rest5 = zs,
      fun H5 x => ⟨xs.length - (i + 1), by omega, rfl, hlt, x⟩, fun x H3 y => ?_⟩
    obtain ⟨f3, p3⟩ := yl x H3 y
    have e3 := (((e.keep f1).keep f2).keep f3).wipe own
    refine hg (zAnd Z D) L2 st2 H3 _ _ x _ r3 _ f3.wd e3 p3 b1 fun s4 e4 wp => ⟨?_, ?_⟩
    · rw [wp own hs, wipe_wipe]
    refine hc (zAnd Z D) L2 st2 H3 s4 r3 b st3 _ f3.wd e4 b3 fun H4 L4 f4 => ?_
    have keepD : ∀ {La : List Addr} {sta : Sto} {Ha : Hp} {L' : List Addr} {st'' : Sto} {H' : Hp} {us : List V}, Wd T (zAnd Z D) La sta Ha → Ha D = some (.lst us) → Afz T (zAnd Z D) La sta Ha (zAnd Z D) L' st'' H' → H' D = some (.lst us) := fun wa ea ff => ff.kp D _ ea (fun z => by
      obtain ⟨j, d, j1, j2⟩ := z
      exact (wa.own j D d j1 j2).1 zD) (fun ps z => by cases z)
    have f34 := f3.trans f4
    cases b with
    | false =>
      rw [if_neg (by simp)] at b4
      exact iteF ⟨L4, st3, acc, rest, vs, f2.trans f34, keepD f2.wd hD f34, (hacc.keep f3).keep f4, b4, ez⟩
    | true =>
      rw [if_pos rfl] at b4
      obtain ⟨⟨yy, st5⟩, c1', c2⟩ := bind_some' b4
      obtain ⟨⟨z1, st6⟩, c3, c4⟩ := bind_some' c2
      obtain ⟨⟨z2, st7⟩, c5, c6⟩ := bind_some' c4
      cases c6
      obtain ⟨⟨dx, sx⟩, i1, i2⟩ := bind_some' c1'
      obtain ⟨tx, i3, i4⟩ := Option.map_eq_some_iff.mp i2
      cases i4
      refine iteT (hw (zAnd Z D) L4 st3 H4 s4 r3 dx _ _ f4.wd (e4.keep f4) i1 fun xv H5 L5 f5 p5 => ?_)
      cases dx with
      | str tz =>
        cases i3
        refine ⟨tz, den_str p5, ?_⟩
        have f35 := f34.trans f5
        refine ⟨fun j kk H6 => kk = tz.cps.size - j ∧ j ≤ tz.cps.size ∧ ∃ L6 st8 acc6 rest6 vs6, Afz T Z L1 st1 H1 (zAnd Z D) L6 st8 H6 ∧ EnvOk L6 (Bad (zAnd Z D) L6 st8) H6 r3 s4 ∧ H6 D = some (.lst vs6) ∧ Dens L6 (Bad (zAnd Z D) L6 st8) H6 acc6 vs6 ∧ lcGo k1 c1 f (wipeD r3 vs1) ((tz.cps.toList.map fun c => Dt.str ⟨#[c]⟩).drop j) st8 = some (rest6, st6) ∧ acc6 ++ (rest6 ++ z2) = zs,
          ⟨tz.cps.size, by simp, Nat.zero_le _, L5, _, acc, z1, vs, f2.trans f35, (e4.keep f4).keep f5, keepD f2.wd hD f35, ((hacc.keep f3).keep f4).keep f5, c3, ez⟩, ?_⟩
        rintro j kk H6 ⟨rfl, jle, L6, st8, acc6, rest6, vs6, f6, e6, hD6, hacc6, h6, ez6⟩
        by_cases jlt : j < tz.cps.size
        · right
          refine ⟨jlt, fun H9 => ∃ L6 st8 acc6 rest6 vs6, Afz T Z L1 st1 H1 (zAnd Z D) L6 st8 H9 ∧ EnvOk L6 (Bad (zAnd Z D) L6 st8) H9 r3 s4 ∧ H9 D = some (.lst vs6) ∧ Dens L6 (Bad (zAnd Z D) L6 st8) H9 acc6 vs6 ∧ lcGo k1 c1 f (wipeD r3 vs1) ((tz.cps.toList.map fun c => Dt.str ⟨#[c]⟩).drop (j + 1)) st8 = some (rest6, st6) ∧ acc6 ++ (rest6 ++ z2) = zs,
            fun H9 x => ⟨tz.cps.size - (j + 1), by omega, rfl, jlt, x⟩, fun xc H7 hy => ?_⟩
          obtain ⟨rfl, ch, hch, rfl⟩ := hy
          have hget : tz.cps.toList[j]? = some ch := by rw [Array.getElem?_toList]; exact hch
          have hjl : j < (tz.cps.toList.map fun c => Dt.str ⟨#[c]⟩).length := by simpa using jlt
          rw [List.drop_eq_getElem_cons hjl] at h6
          have hel : (tz.cps.toList.map fun c => Dt.str ⟨#[c]⟩)[j] = Dt.str ⟨#[ch]⟩ := by
            have : (tz.cps.toList.map fun c => Dt.str ⟨#[c]⟩)[j]? = some (Dt.str ⟨#[ch]⟩) := by rw [List.getElem?_map, hget]; rfl
            rw [List.getElem?_eq_getElem hjl] at this
            exact Option.some.inj this
          rw [hel] at h6
          obtain ⟨r7, d1, d2⟩ := bind_some' h6
          obtain ⟨⟨b7, st10⟩, d3, d4⟩ := bind_some' d2
          refine hg1 (zAnd Z D) L6 st8 _ _ _ (V.str ⟨#[ch]⟩) _ r7 _ f6.wd (e6.wipe vs1) Den.str d1 fun s7 e7 wp7 => ⟨?_, ?_⟩
          · rw [wp7 vs1 hs1, wipe_wipe]
          refine hc1 (zAnd Z D) L6 st8 _ s7 r7 b7 st10 _ f6.wd e7 d3 fun H8 L8 f8 => ?_
          cases b7 with
          | false =>
            rw [if_neg (by simp)] at d4
            exact iteF ⟨L8, st10, acc6, rest6, vs6, f6.trans f8, e6.keep f8, keepD f6.wd hD6 f8, hacc6.keep f8, d4, ez6⟩
          | true =>
            rw [if_pos rfl] at d4
            obtain ⟨⟨dy, st11⟩, k1', k2⟩ := bind_some' d4
            obtain ⟨⟨rest7, st12⟩, k3, k4⟩ := bind_some' k2
            cases k4
            refine iteT (hf (zAnd Z D) L8 st10 H8 s7 r7 dy st11 _ f8.wd (e7.keep f8) k1' fun y H9 L9 f9 p9 => ?_)
            have f89 := f8.trans f9
            have hD9 := keepD f6.wd hD6 f89
            have hacc9 := (hacc6.keep f8).keep f9
            have tD9 : ∀ zs, H9 D ≠ some (.tup zs) := fun zs z => by rw [hD9] at z; cases z
            have hlen : vs6.length < sizeLine := by
              rw [← hacc6.len]
              have : (acc6 ++ (dy :: rest7 ++ z2)).length ≤ sizeLine := by rw [ez6]; exact hz
              rw [List.length_append, List.cons_append, List.length_cons] at this
              omega
            have fa := f6.trans f89
            have wd9 : Wd T (zAnd Z D) L9 st11 (upd H9 D (.lst (vs6 ++ [y]))) := f9.wd.chg zD fun u eu => by rw [hD9] at eu; cases eu; exact .inl ⟨_, rfl⟩
            refine ⟨vs6, hD9, hlen, L9, st11, acc6 ++ [dy], rest7, vs6 ++ [y], ⟨wd9, fa.pre, fun b u eb nl nt => ?_, fa.nw, fun b n z => ?_, fun b us eb => ?_, fa.fr, fa.zs⟩, ((e6.keep f8).keep f9).chg (.inl zD) tD9, upd_same, (hacc9.append (.cons p9 .nil)).chg (.inl zD) tD9, k3, by rw [← ez6]; simp⟩
            · rw [upd_ne (ne_of_none eb nD)]; exact fa.kp b u eb nl nt
            · by_cases hb : b = D
              · rw [hb, upd_same] at z; cases z
              · rw [upd_ne hb] at z; exact fa.trk b n z
            · rw [upd_ne (ne_of_none eb nD)]; exact fa.tp b us eb
        · left
          have hx : j = tz.cps.size := by omega
          subst hx
          rw [List.drop_eq_nil_of_le (by simp)] at h6
          cases h6
          refine ⟨Nat.le_refl _, L6, _, acc6, z2, vs6, f6, hD6, hacc6, c5, by simpa using ez6⟩
      | _ => cases i3
  · left
    have hx : i = xs.length := by omega
    subst hx
    rw [List.drop_length] at h2
    cases h2
    rw [List.append_nil] at ez
    subst ez
    exact ⟨ws, q D vs H2 L2 (f1.trans f2) nD0 hD hacc⟩
theorem sim_lc2V {is is1 own vs1 : List Nat} {wi : TI} {fi : SA} {g g1 : TG} {k k1 : SG} {tt tt1 : TT} {c c1 : ST} {tw te : TE} {fw f : SE} (hi : SimI T wi fi) (hg : SimG T is g k) (hc : SimT T tt c) (hw : SimE T tw fw) (hg1 : SimG T is1 g1 k1) (hc1 : SimT T tt1 c1) (hf : SimE T te f) (hs : ∀ i ∈ is, i ∈ own) (hs1 : ∀ i ∈ is1, i ∈ vs1) :
    SimE T (tLc2 wi g tt (iStr tw) g1 tt1 te own vs1) (toV (lc2 fi own k c fw vs1 k1 c1 f)) := by
  intro Z L st H s r d st' Q w e h q
  obtain ⟨⟨zs, st1⟩, a1, h⟩ := bind_some' h
  cases h
  refine lc2_run hi hg hc hw hg1 hc1 hf hs hs1 w e a1 fun D vs H' L' ff nD hD hv => ?_
  refine q _ H' L' ff.back ?_
  unfold Den
  refine ⟨D, vs, rfl, fun z => ?_, hD, hv.mono bad_zAnd⟩
  rcases z with z | ⟨j, d, j1, j2⟩
  · exact w.zt D z nD
  · exact (ff.wd.own j D d j1 j2).1 (.inr rfl)
/-- [e for x in xs if .. for sign in text if ..] -/
theorem jLc2V {X : Cx} {pos : Pos} {elt tg iter tg1 iter1 : Expr} {ifs ifs1 : List Expr} {scope : Scope} {own : List (Str × Nat)} {vs1 : List Nat} {g g1 : TG} {k k1 : SG} {fi : SA} {is is1 : List Nat} {ga gb : ST} {fw fa : SE} (hc : X.calm = true) (hN : X.N.Nodup) (hk : SimG T is g k) (hk1 : SimG T is1 g1 k1) (hi : PI X tg iter (rI T fi)) (ok : BlkOk X.N X.env.scope scope own) (hv : ∀ i ∈ vs1, i ∈ own.map (·.2))
    (hg : ∀ s H C cl fp, PG (blkX X scope s H C cl fp) tg g) (ht : ∀ s H C cl fp, PTs (blkX X scope s H C cl fp) ifs (rT T ga)) (hi1 : ∀ s H C cl fp, PE (blkX X scope s H C cl fp) iter1 (rE T fw)) (hg1 : ∀ s H C cl fp, PG (blkX X scope s H C cl fp) tg1 g1) (ht1 : ∀ s H C cl fp, PTs (blkX X scope s H C cl fp) ifs1 (rT T gb)) (he : ∀ s H C cl fp, PE (blkX X scope s H C cl fp) elt (rE T fa))
    (hz : ∀ i ∈ is, i ∈ own.map (·.2)) (hz1 : ∀ i ∈ is1, i ∈ vs1) (hs : ∀ x, foldedSetIterable iter X.env x = pure x := by intro _; rfl) (hs1 : ∀ env x, foldedSetIterable iter1 env x = pure x := by intro _ _; rfl) :
    PE X (.ListComp elt [⟨tg, iter, ifs, 0⟩, ⟨tg1, iter1, ifs1, 0⟩] scope pos) (rE T (toV (lc2 fi (own.map (·.2)) k ga fw vs1 k1 gb fa))) :=
  toE (pe_lc2 hc hN hi ok hv hg ht (fun s H C cl fp => pi_str (hi1 s H C cl fp)) hg1 ht1 he hs hs1) (sim_lc2V sI hk sT sE hk1 sT sE hz hz1)
end
end HB

set_option Elab.async false
set_option linter.all false
set_option maxRecDepth 100000
set_option maxHeartbeats 1000000
/-! HC, part h: list(range(a, b)), list(range(a, b, -1)). -/
namespace HB
open PySem PySem.Spec PyProof.Rows L2
def dwnV (a : Int) (n : Nat) : List V := (List.range n).map fun i => V.int (a + (i : Nat) * (-1))
def dwnL (a : Int) (n : Nat) : List Dt := (List.range n).map fun i => .int (a - (i : Nat))
def tLstDn (ta tb tc : TE) : TE := fun σ H Q => ta σ H fun x H1 => tb σ H1 fun y H2 => tc σ H2 fun z H3 => ∃ i j, x = .int i ∧ y = .int j ∧ z = .int (-1) ∧ (-(2 ^ 62) ≤ i ∧ i < 2 ^ 62 ∧ -(2 ^ 62) ≤ j ∧ j < 2 ^ 62 ∧ (i - j).toNat ≤ 2 ^ 24) ∧ ∀ q, H3 q = none → Q (.ref q) (upd H3 q (.lst (dwnV i (i - j).toNat)))
section
variable {X : Cx} {a b c : Expr} {ta tb tc : TE} {p p2 pos pos2 : Pos}
theorem pe_listDn (hcm : X.calm = true) (hg : Gl X "list") (hm : X.mg "list" = none) (hg2 : Gl X "range") (hm2 : X.mg "range" = none) (ha : PE X a ta) (hb : PE X b tb) (hc : PE X c tc)
    (na : starEach [a, b, c] X.env = (false, eval a X.env) :: starEach [b, c] X.env := by rfl) (nb : starEach [b, c] X.env = (false, eval b X.env) :: starEach [c] X.env := by rfl) (nc : starEach [c] X.env = (false, eval c X.env) :: starEach [] X.env := by rfl) (hp : (backTo pos2 (starEach [b, c] X.env)).any (·.1) = false := by rfl)
    (nr : starEach [.Call (.Name "range" p2) [a, b, c] [] pos2] X.env = (false, eval (.Call (.Name "range" p2) [a, b, c] [] pos2) X.env) :: starEach [] X.env := by rfl) :
    PE X (.Call (.Name "list" p) [.Call (.Name "range" p2) [a, b, c] [] pos2] [] pos) (tLstDn ta tb tc) := by
  refine ⟨fun pins s σ H Q I h => ?_⟩
  have rng : wpAny (model X.prog X.w) X.A (eval (.Call (.Name "range" p2) [a, b, c] [] pos2) X.env) (fun x s' => ∃ r i j t u v H', x = .ref r ∧ IsRange s'.heap r i j (-1) t u v ∧ Inv X pins σ H' s' ∧ (-(2 ^ 62) ≤ i ∧ i < 2 ^ 62 ∧ -(2 ^ 62) ≤ j ∧ j < 2 ^ 62 ∧ (i - j).toNat ≤ 2 ^ 24) ∧ ∀ q, H' q = none → Q (.ref q) (upd H' q (.lst (dwnV i (i - j).toNat)))) X.xe s := by
    refine Call_ (ld_blt I hg2 hm2 boot_range (PyProof.Rows.callWith_type1 (args_cons (thn (ha.run pins s σ H _ I h) fun v s1 ⟨x, H1, I1, r1, q1⟩ => args_cons (thn (hb.run pins s1 σ H1 _ I1 q1) fun u s2 ⟨y, H2, I2, r2, q2⟩ => one_arg hc I2 q2 (fun ww s3 z H3 I3 r3 q => ?_) nc) nb) na) na hp))
    obtain ⟨i, j, rfl, rfl, rfl, ok, q⟩ := q
    obtain ⟨t, rfl⟩ := r1
    obtain ⟨t', rfl⟩ := r2
    obtain ⟨t'', rfl⟩ := r3
    exact call_range_3 (by decide) ⟨_, i, j, _, _, _, H3, rfl, IsRange.new _ _ _ _ _ _ _, I3.kept fun b u e => Heap.get?_push_of_some _ e, ok, q⟩ (.inl (PyProof.noPylong_small (by decide)))
  refine Call_ (ld_blt I hg hm boot_list (PyProof.Rows.callWith_type1 (args_cons (thn rng fun x s1 ⟨r, i, j, t, u, v, H1, ex, hr, I1, ok, q⟩ => args_nil ?_) nr) nr))
  subst ex
  obtain ⟨b1, b2, b3, b4, b5⟩ := ok
  refine call_list_range (n := (i - j).toNat) (I1.ok.hd hcm) hr (PySem.W.small_down b1 b2 b3 b4) (PySem.W.rangeSize_downNat i j) b5 fun h' tk acc c' hk e' hi => ?_
  have e0 : acc.toList.length = (i - j).toNat := by rw [Array.length_toList]; exact hi.1
  refine ⟨.ref s1.heap.objs.size, upd H1 s1.heap.objs.size (.lst (dwnV i (i - j).toNat)), I1.laid hk (Nat.le_refl _) (show ObjOk X.prog X.w _ _ _ (.lst (dwnV i (i - j).toNat)) from ⟨?_, acc.toList, c', ?_, ?_⟩), rfl, q _ (I1.hok.fresh (Nat.le_refl _))⟩
  · unfold dwnV; rw [List.length_map, List.length_range, sizeLine_eq]; omega
  · unfold dwnV
    rw [← e0]
    refine vals_of_get acc.toList _ fun j u hj => ?_
    obtain ⟨t, rfl⟩ := hi.2 j u (by rw [← hj, Array.getElem?_toList])
    exact ⟨t, rfl⟩
  · rw [Array.toArray_toList]; exact e'
end
def eLR2 (fa fb : SE) : SE := fun r st => (fa r st).bind fun x => (fb r x.2).bind fun y => match x.1, y.1 with
  | .int i, .int j => if -(2 ^ 62) ≤ i ∧ i < 2 ^ 62 ∧ -(2 ^ 62) ≤ j ∧ j < 2 ^ 62 ∧ (j - i).toNat ≤ 2 ^ 24 then some (.lst (rngL i (j - i).toNat), y.2) else none
  | _, _ => none
def eLDn (fa fb fc : SE) : SE := fun r st => (fa r st).bind fun x => (fb r x.2).bind fun y => (fc r y.2).bind fun z => match x.1, y.1, z.1 with
  | .int i, .int j, .int k => if k = -1 ∧ -(2 ^ 62) ≤ i ∧ i < 2 ^ 62 ∧ -(2 ^ 62) ≤ j ∧ j < 2 ^ 62 ∧ (i - j).toNat ≤ 2 ^ 24 then some (.lst (dwnL i (i - j).toNat), z.2) else none
  | _, _, _ => none
section
variable {T : List (Addr × Str)}
theorem dens_intsF {L : List Addr} {B : Addr → Prop} {H : Hp} (f : Nat → Int) : ∀ xs : List Nat, Dens L B H (xs.map fun i => Dt.int (f i)) (xs.map fun i => V.int (f i))
  | [] => .nil
  | x :: xs => .cons Den.int (dens_intsF f xs)
theorem sim_lr2 {ta tb : TE} {fa fb : SE} (ha : SimE T ta fa) (hb : SimE T tb fb) : SimE T (tLstRg (tRg2 ta tb)) (eLR2 fa fb) := by
  intro Z L st H s r d st' Q w e h q
  obtain ⟨⟨dx, st1⟩, h1, h⟩ := bind_some' h
  obtain ⟨⟨dy, st2⟩, h2, h⟩ := bind_some' h
  refine ha Z L st H s r dx st1 _ w e h1 fun x H1 L1 f1 p1 => ?_
  refine hb Z L1 st1 H1 s r dy st2 _ f1.wd (e.keep f1) h2 fun y H2 L2 f2 p2 => ?_
  match dx, dy, h, p1, p2 with
  | .int i, .int j, h, p1, p2 =>
    dsimp only at h
    split at h
    · rename_i ok
      cases h
      refine ⟨i, j, den_int (p1.keep f2), den_int p2, ok, fun l nl => q _ _ L2 ((f1.trans f2).trans (.new f2.wd nl)) (.newL f2.wd nl ?_)⟩
      exact dens_intsF (fun n => i + (n : Int)) _
    · cases h
theorem sim_ldn {ta tb tc : TE} {fa fb fc : SE} (ha : SimE T ta fa) (hb : SimE T tb fb) (hc : SimE T tc fc) : SimE T (tLstDn ta tb tc) (eLDn fa fb fc) := by
  intro Z L st H s r d st' Q w e h q
  obtain ⟨⟨dx, st1⟩, h1, h⟩ := bind_some' h
  obtain ⟨⟨dy, st2⟩, h2, h⟩ := bind_some' h
  obtain ⟨⟨dz, st3⟩, h3, h⟩ := bind_some' h
  refine ha Z L st H s r dx st1 _ w e h1 fun x H1 L1 f1 p1 => ?_
  refine hb Z L1 st1 H1 s r dy st2 _ f1.wd (e.keep f1) h2 fun y H2 L2 f2 p2 => ?_
  refine hc Z L2 st2 H2 s r dz st3 _ f2.wd ((e.keep f1).keep f2) h3 fun z H3 L3 f3 p3 => ?_
  match dx, dy, dz, h, p1, p2, p3 with
  | .int i, .int j, .int k, h, p1, p2, p3 =>
    dsimp only at h
    split at h
    · rename_i ok
      cases h
      refine ⟨i, j, den_int ((p1.keep f2).keep f3), den_int (p2.keep f3), by rw [den_int p3, ok.1], ok.2, fun l nl => q _ _ L3 ((f1.trans (f2.trans f3)).trans (.new f3.wd nl)) (.newL f3.wd nl ?_)⟩
      unfold dwnL dwnV
      have e : (fun k : Nat => V.int (i + (k : Int) * (-1))) = fun k : Nat => V.int (i - (k : Int)) := by
        funext k; congr 1; omega
      rw [e]; exact dens_intsF (fun n => i - (n : Int)) _
    · cases h
variable {X : Cx} {a b c : Expr} {fa fb fc : SE} {p p2 pos pos2 : Pos}
theorem jLR2 (hcm : X.calm = true) (hg : Gl X "list") (hm : X.mg "list" = none) (hg2 : Gl X "range") (hm2 : X.mg "range" = none) (ha : PE X a (rE T fa)) (hb : PE X b (rE T fb)) (na : starEach [a, b] X.env = (false, eval a X.env) :: starEach [b] X.env := by rfl) (nb : starEach [b] X.env = (false, eval b X.env) :: starEach [] X.env := by rfl) (hp : (backTo pos2 (starEach [b] X.env)).any (·.1) = false := by rfl)
    (nr : starEach [.Call (.Name "range" p2) [a, b] [] pos2] X.env = (false, eval (.Call (.Name "range" p2) [a, b] [] pos2) X.env) :: starEach [] X.env := by rfl) :
    PE X (.Call (.Name "list" p) [.Call (.Name "range" p2) [a, b] [] pos2] [] pos) (rE T (eLR2 fa fb)) := toE (pe_listRg hcm hg hm (prg_2 hg2 hm2 ha hb na nb hp) nr) (sim_lr2 sE sE)
theorem jLDn (hcm : X.calm = true) (hg : Gl X "list") (hm : X.mg "list" = none) (hg2 : Gl X "range") (hm2 : X.mg "range" = none) (ha : PE X a (rE T fa)) (hb : PE X b (rE T fb)) (hc : PE X c (rE T fc)) (na : starEach [a, b, c] X.env = (false, eval a X.env) :: starEach [b, c] X.env := by rfl) (nb : starEach [b, c] X.env = (false, eval b X.env) :: starEach [c] X.env := by rfl) (nc : starEach [c] X.env = (false, eval c X.env) :: starEach [] X.env := by rfl) (hp : (backTo pos2 (starEach [b, c] X.env)).any (·.1) = false := by rfl)
    (nr : starEach [.Call (.Name "range" p2) [a, b, c] [] pos2] X.env = (false, eval (.Call (.Name "range" p2) [a, b, c] [] pos2) X.env) :: starEach [] X.env := by rfl) :
    PE X (.Call (.Name "list" p) [.Call (.Name "range" p2) [a, b, c] [] pos2] [] pos) (rE T (eLDn fa fb fc)) := toE (pe_listDn hcm hg hm hg2 hm2 ha hb hc na nb nc hp nr) (sim_ldn sE sE sE)
end
end HB

set_option Elab.async false
set_option linter.all false
set_option maxRecDepth 100000
set_option maxHeartbeats 1000000
/-! HC, part i: a + b as a new live list. -/
namespace HB
open PySem PySem.Spec PyProof.Rows L2
def gAddR (st : Sto) (x y : Dt) : Option (Dt × Sto) := match asL st x, asL st y with
  | some a, some b => if a.length + b.length ≤ sizeLine then some (.ref st.length, st ++ [some (.lst (a ++ b))]) else none
  | _, _ => none
section
variable {T : List (Addr × Str)}
theorem vo_AddR : VO2 T rAdd gAddR := by
  intro Z L st H x y dx dy d st' Q w hx hy h q
  unfold gAddR at h
  split at h
  · rename_i a b ha hb
    split at h
    · rename_i hl
      cases h
      obtain ⟨p1, vs, rfl, e1, t1⟩ := asL_ok w hx ha
      obtain ⟨p2, us, rfl, e2, t2⟩ := asL_ok w hy hb
      refine .inr (.inr ⟨p1, p2, vs, us, rfl, rfl, e1, e2, by rw [← t1.len, ← t2.len]; exact hl, fun p np => ?_⟩)
      refine q _ _ (L ++ [p]) (.newR w np ⟨vs ++ us, rfl, t1.append t2⟩) ?_
      unfold Den
      exact ⟨p, by rw [← w.len]; simp, rfl⟩
    · cases h
  · cases h
variable {X : Cx} {a b : Expr} {fa fb : SE} {pos : Pos}
theorem jAddR (ha : PE X a (rE T fa)) (hb : PE X b (rE T fb)) : PE X (.BinOp a .Add b pos) (rE T (eOp2 gAddR fa fb)) := jOp op_Add vo_AddR ha hb
end
theorem boot_min' : bootBuiltins ("min" : Str) = some (.builtin "min") := by with_unfolding_all rfl
theorem boot_max' : bootBuiltins ("max" : Str) = some (.builtin "max") := by with_unfolding_all rfl
end HB

set_option Elab.async false
set_option linter.all false
set_option maxRecDepth 100000
set_option maxHeartbeats 1000000
/-! HC, part j: == and != of lists that hold many live objects. -/
namespace HB
open PySem PySem.Spec PyProof.Rows L2
def eqC (st : Sto) (x y : Dt) : Option Bool := (deref st 100 x).bind fun a => (deref st 100 y).bind fun b => if alikeD a b = true then (if noRef a = true ∧ noRef b = true then eqQ 8 a b else none) else eqD st x y
def gEqC (st : Sto) (x y : Dt) : Option (Dt × Sto) := (eqC st x y).map fun b => (.bl b, st)
def gNeC (st : Sto) (x y : Dt) : Option (Dt × Sto) := (eqC st x y).map fun b => (.bl (!b), st)
section
variable {T : List (Addr × Str)} {K : PySem.W.Frag}
theorem vo_EqC : VO2 T (rEqZ K) gEqC := by
  intro Z L st H x y dx dy d st' Q w hx hy h q
  obtain ⟨b, h1, h2⟩ := Option.map_eq_some_iff.mp h
  cases h2
  obtain ⟨a, e1, e2⟩ := bind_some' h1
  obtain ⟨c, e3, e4⟩ := bind_some' e2
  split at e4
  · rename_i ha
    split at e4
    · rename_i hn
      exact .inr ⟨L, Z, a, c, b, hn.1, hn.2, ha, e4, deref_ok w e1 (hx.mono fun b z => .inl z), deref_ok w e3 (hy.mono fun b z => .inl z), q _ H L (.refl w) Den.bl⟩
    · cases e4
  · exact .inl (vo_Eq Z L st H x y dx dy _ _ Q w hx hy (by unfold gEq; rw [e4]; rfl) q)
theorem vo_NeC : VO2 T (rNeZ K) gNeC := by
  intro Z L st H x y dx dy d st' Q w hx hy h q
  obtain ⟨b, h1, h2⟩ := Option.map_eq_some_iff.mp h
  cases h2
  obtain ⟨a, e1, e2⟩ := bind_some' h1
  obtain ⟨c, e3, e4⟩ := bind_some' e2
  split at e4
  · rename_i ha
    split at e4
    · rename_i hn
      exact .inr ⟨L, Z, a, c, b, hn.1, hn.2, ha, e4, deref_ok w e1 (hx.mono fun b z => .inl z), deref_ok w e3 (hy.mono fun b z => .inl z), q _ H L (.refl w) Den.bl⟩
    · cases e4
  · exact .inl (vo_Ne Z L st H x y dx dy _ _ Q w hx hy (by unfold gNe; rw [e4]; rfl) q)
end
/-! ### what is seen of live objects -/
theorem derefs_map {α : Type} {st : Sto} {f g : α → Dt} : ∀ (l : List α) (m : Nat), (∀ a ∈ l, ∀ k, 3 ≤ k → deref st k (f a) = some (g a)) → l.length + 3 ≤ m → derefs st m (l.map f) = some (l.map g)
  | [], m, _, _ => by cases m <;> rfl
  | a :: l, 0, _, h => by simp at h
  | a :: l, m + 1, h, hm => by
    rw [List.length_cons] at hm
    rw [List.map_cons, List.map_cons]
    show ((deref st m (f a)).bind fun e => (derefs st m (l.map f)).map fun es => e :: es) = _
    rw [h a (by simp) m (by omega), derefs_map l m (fun b hb => h b (by simp [hb])) (by omega)]
    rfl
/-- x and y are alike -/
theorem eqC_of {st : Sto} {x y a b : Dt} (hx : deref st 100 x = some a) (hy : deref st 100 y = some b) (na : noRef a = true) (nb : noRef b = true) (hk : alikeD a b = true) (hq : eqQ 8 a b = some true) : gEqC st x y = some (.bl true, st) ∧ gNeC st x y = some (.bl false, st) := by
  have e : eqC st x y = some true := by
    unfold eqC
    rw [hx, Option.bind_some, hy, Option.bind_some, if_pos hk, if_pos ⟨na, nb⟩]
    exact hq
  unfold gEqC gNeC
  rw [e]
  exact ⟨rfl, rfl⟩
theorem eqQ_nil {n : Nat} : eqQ (n + 1) (.lst []) (.lst []) = some true := rfl
theorem eqQ_cons {n : Nat} {x y : Dt} {xs ys : List Dt} (h : eqQ n x y = some true) (ht : eqQ (n + 1) (.lst xs) (.lst ys) = some true) : eqQ (n + 1) (.lst (x :: xs)) (.lst (y :: ys)) = some true := by
  have ht' : (if xs.length = ys.length then allO (List.zipWith (eqQ n) xs ys) else some false) = some true := ht
  show (if (x :: xs).length = (y :: ys).length then allO (List.zipWith (eqQ n) (x :: xs) (y :: ys)) else some false) = some true
  by_cases hl : xs.length = ys.length
  · rw [if_pos hl] at ht'
    rw [if_pos (by simp [hl]), List.zipWith_cons_cons]
    show ((eqQ n x y).bind fun b => (allO (List.zipWith (eqQ n) xs ys)).map fun c => b && c) = _
    rw [h, ht']
    rfl
  · rw [if_neg hl] at ht'; cases ht'
theorem eqQ_maps {α : Type} {n : Nat} {f g : α → Dt} : ∀ l : List α, (∀ a ∈ l, eqQ n (f a) (g a) = some true) → eqQ (n + 1) (.lst (l.map f)) (.lst (l.map g)) = some true
  | [], _ => rfl
  | a :: l, h => eqQ_cons (h a (by simp)) (eqQ_maps l fun b hb => h b (by simp [hb]))
end HB

set_option Elab.async false
set_option linter.all false
set_option maxRecDepth 100000
set_option maxHeartbeats 1000000
/-! HC, part k: a call by value that looks deeper into what it gets. -/
namespace HB
open PySem PySem.Spec PyProof.Rows L2
def fW (F : List Dt → Sto → Option (Dt × Sto)) : List Dt → Option Dt := fun ds => (F ds []).bind fun x => deref x.2 100 x.1
theorem fW_of {F : List Dt → Sto → Option (Dt × Sto)} {ds : List Dt} {x d : Dt} {st1 : Sto} (h : F ds [] = some (x, st1)) (h2 : deref st1 100 x = some d) : fW F ds = some d := by unfold fW; rw [h]; exact h2
section
variable {T : List (Addr × Str)} {P : Program} {w : World} {K : PySem.W.Frag} {mg : Str → Option Value} {base : Heap} {k n : Nat} {f : Addr} {fd : FuncData} {ps : List Str} {F : List Dt → Sto → Option (Dt × Sto)}
theorem gfn_W (G : GFn P w K mg base k f fd ps (SpF T n F)) : GFn P w K mg base k f fd ps (SpF T n (liftV (fW F))) := by
  refine G.imp fun vs H Q h => ?_
  obtain ⟨Z, L, st, ds, d, st', hl, wd, dn, hF, q⟩ := h
  unfold liftV at hF
  split at hF
  case isFalse => cases hF
  case isTrue hn =>
  obtain ⟨d1, e1, e2⟩ := Option.map_eq_some_iff.mp hF
  cases e2
  obtain ⟨⟨d0, st0⟩, e3, e4⟩ := bind_some' e1
  refine ⟨Bad Z L st, [], [], ds, d0, st0, hl, wd.inner, by rw [bad_inner]; exact dn.anyL hn, e3, fun v H' L' ff p => ?_⟩
  exact q v H' L (wd.outer ff) (deref_ok ff.wd e4 (p.mono fun b z => .inl z))
end
end HB

set_option Elab.async false
set_option linter.all false
set_option maxRecDepth 100000
set_option maxHeartbeats 1000000
/-! HC, part l: x *= e of ints. -/
namespace HB
open PySem PySem.Spec PyProof.Rows L2
def ipMul : TIp := fun x y H Q => ∃ i j, x = .int i ∧ y = .int j ∧ CMul i j ∧ Q (.int (i * j)) H
theorem ip_mul {X : Cx} : PIp X .Mult ipMul := by
  intro pins s σ H x y v u Q I r1 r2 h
  obtain ⟨i, j, e1, e2, hc, q⟩ := h
  subst e1; subst e2
  obtain ⟨t, rfl⟩ := r1
  obtain ⟨t', rfl⟩ := r2
  exact imul_int ⟨.int _, H, I.tok _, ⟨_, rfl⟩, q⟩ hc.ok
section
variable {T : List (Addr × Str)}
theorem sim_augM {i : Nat} {ta : TE} {fa : SE} (ha : SimE T ta fa) : SimS T (tAug i ta ipMul) (sAug i (gI cMul fun i j => i * j) fa) := by
  intro Z L st H s r o D w e h q
  unfold sAug at h
  split at h
  · rename_i d hd
    obtain ⟨⟨dy, st1⟩, h1, h⟩ := bind_some' h
    obtain ⟨⟨dz, st2⟩, h2, h3⟩ := Option.map_eq_some_iff.mp h
    cases h3
    obtain ⟨v, hv, pv⟩ := e.2 i _ hd
    refine ⟨v, hv, ha Z L st H s r dy st1 _ w e h1 fun y H1 L1 f1 p1 => ?_⟩
    cases d with
    | int a =>
      cases dy with
      | int b =>
        unfold gI at h2
        dsimp only at h2
        split at h2
        · rename_i hc
          cases h2
          refine ⟨a, b, den_int pv, den_int p1, cMul_ok hc, ?_⟩
          exact q _ H1 L1 f1 ((e.keep f1).set i Den.int)
        · cases h2
      | _ => cases h2
    | _ => cases h2
  · cases h
variable {X : Cx} {e : Expr} {fa : SE} {pos : Pos}
theorem jsAugM {i : Nat} {x : Str} {p2 : Pos} (hN : X.N.Nodup) (he : PE X e (rE T fa)) (hi : X.N[i]? = some x := by rfl) (hx : Loc X.env.scope x := by first | exact Or.inl rfl | exact Or.inr rfl) (hf : X.fn x = true ∨ X.env.scope.names.lookup x = some .local := by first | exact .inl rfl | exact .inr rfl) :
    PS X (.AugAssign (.Name x p2) .Mult e pos) (rS T (sAug i (gI cMul fun i j => i * j) fa)) := toS (ps_aug hN hi hx he ip_mul hf) (sim_augM sE)
end
end HB

set_option Elab.async false
set_option linter.all false
set_option maxRecDepth 100000
set_option maxHeartbeats 1000000
/-! HC, part m: zip of two lists. -/
namespace HB
open PySem PySem.Spec PyProof.Rows L2
def zipP (ds es : List Dt) : List Dt := (ds.zip es).map fun x => .tup [x.1, x.2]
def zipL : List Dt → Option (List Dt)
  | [.lst ds, .lst es] => some (zipP ds es)
  | _ => none
section
variable {T : List (Addr × Str)} {K : PySem.W.Frag}
theorem sim_zip {ta : TA} {f : SA} (hf : SimA T ta f) : SimI T (iZip K ta) (iR zipL f) := by
  intro Z L st H s r xs st' Q w e h q
  obtain ⟨⟨dx, st1⟩, h1, h2⟩ := bind_some' h
  obtain ⟨ys, h3, h4⟩ := Option.map_eq_some_iff.mp h2
  cases h4
  refine hf Z L st H s r dx _ _ w e h1 fun vs0 H1 L1 f1 p1 => ?_
  dsimp only at h3
  unfold zipL at h3
  split at h3
  · rename_i ds es
    cases h3
    obtain ⟨v, u, rfl, p, p'⟩ := dens2 p1
    unfold Den at p p'
    obtain ⟨a, vs, rfl, nb, ea, t⟩ := p
    obtain ⟨b, us, rfl, nb', eb, t'⟩ := p'
    refine ⟨a, b, vs, us, rfl, SqL.of ea, SqL.of eb, q _ H1 L1 f1 fun Z2 L2 st2 H2 f2 => ?_⟩
    have ea2 : H2 a = some (.lst vs) := f2.kp a _ ea (fun z => nb (.inr z)) (fun ps z => by cases z)
    have eb2 : H2 b = some (.lst us) := f2.kp b _ eb (fun z => nb' (.inr z)) (fun ps z => by cases z)
    have t2 := t.keep f2
    have t2' := t'.keep f2
    have wk := walk_zip (K := K) (a := a) (b := b) (xs := vs) (ys := us) (n := min vs.length us.length) rfl
    refine ⟨?_, fun i d hd => ?_⟩
    · have : (zipP ds es).length = min vs.length us.length := by unfold zipP; simp [t.len, t'.len]
      rw [this]
      exact wk.stops H2 ⟨SqL.of ea2, SqL.of eb2⟩
    · unfold zipP at hd
      rw [List.getElem?_map] at hd
      obtain ⟨⟨d0, d1⟩, hj, rfl⟩ := Option.map_eq_some_iff.mp hd
      obtain ⟨hd0, hd1⟩ := List.getElem?_zip_eq_some.mp hj
      obtain ⟨v, hv, pv⟩ := t2.get hd0
      obtain ⟨u, hu, pu⟩ := t2'.get hd1
      have hi : i < min vs.length us.length := by
        have := (List.getElem?_eq_some_iff.mp hv).1
        have := (List.getElem?_eq_some_iff.mp hu).1
        omega
      refine ⟨wk.goes i H2 hi ⟨SqL.of ea2, SqL.of eb2⟩, fun x H3 y => ?_⟩
      obtain ⟨TT, x1, y1, rfl, nT, rfl, hx1, hy1⟩ := wk.yields i H2 x H3 hi ⟨SqL.of ea2, SqL.of eb2⟩ y
      have hx1 : vs[i]? = some x1 := hx1
      have hy1 : us[i]? = some y1 := hy1
      rw [hv] at hx1
      rw [hu] at hy1
      cases hx1
      cases hy1
      exact ⟨.new f2.wd nT, .newT f2.wd nT (.cons pv (.cons pu .nil))⟩
  · cases h3
variable {X : Cx} {e e2 : Expr} {fs : SA} {pos : Pos}
theorem jiZip {p tpos : Pos} {elts : List Expr} {kk : Nat} (hg : Gl X "zip") (hm : X.mg "zip" = none) (ha : PA X [e, e2] (rA T fs)) (hs : starEach [e, e2] X.env = (false, eval e X.env) :: starEach [e2] X.env := by rfl) (hpl : (backTo pos (starEach [e2] X.env)).any (·.1) = false := by rfl) :
    PI X (.Tuple elts kk tpos) (.Call (.Name "zip" p) [e, e2] [] pos) (rI T (iR zipL fs)) := toI (pi_zip hg hm ha hs hpl) (sim_zip sA)
end
end HB

set_option Elab.async false
set_option linter.all false
set_option maxRecDepth 100000
set_option maxHeartbeats 1000000
/-! HC, part n: a call that changes its first argument and looks deeper; slices of tuples; for over zip of a live list. -/
namespace HB
open PySem PySem.Spec PyProof.Rows L2
def fX (F : List Dt → Sto → Option (Dt × Sto)) : Dt → List Dt → Option (Dt × Dt) := fun c ds => (F (.ref 0 :: ds) [some c]).bind fun x => match x.2[0]? with
  | some (some c') => if noRef c' = true then (deref (x.2.set 0 none) 100 x.1).map fun d => (d, c') else none
  | _ => none
theorem fX_of {F : List Dt → Sto → Option (Dt × Sto)} {ds : List Dt} {st1 : Sto} {x d c c' : Dt} (h : F (.ref 0 :: ds) [some c] = some (x, st1)) (h0 : st1[0]? = some (some c')) (hn : noRef c' = true) (hx : deref (st1.set 0 none) 100 x = some d) : fX F c ds = some (d, c') := by
  unfold fX
  rw [h]
  show (match st1[0]? with
    | some (some c') => if noRef c' = true then (deref (st1.set 0 none) 100 x).map fun d => (d, c') else none
    | _ => none) = _
  rw [h0]
  show (if noRef c' = true then _ else none) = _
  rw [if_pos hn, hx]
  rfl
section
variable {T : List (Addr × Str)} {P : Program} {w : World} {K : PySem.W.Frag} {mg : Str → Option Value} {base : Heap} {k n : Nat} {f : Addr} {fd : FuncData} {ps : List Str} {F : List Dt → Sto → Option (Dt × Sto)}
theorem gfn_X (G : GFn P w K mg base k f fd ps (SpF T n F)) : GFn P w K mg base k f fd ps (SpF T n (liftE (fX F))) := by
  refine G.imp fun vs H Q h => ?_
  obtain ⟨Z, L, st, ds, d, st', hl, wd, dn, hF, q⟩ := h
  unfold liftE at hF
  split at hF
  case h_2 => cases hF
  case h_1 k ds =>
  split at hF
  case isFalse => cases hF
  case isTrue hn =>
  split at hF
  case h_2 => cases hF
  case h_1 c hc =>
  split at hF
  case isFalse => cases hF
  case isTrue hnc =>
  obtain ⟨⟨d1, c1⟩, e1, e2⟩ := Option.map_eq_some_iff.mp hF
  cases e2
  obtain ⟨⟨d0, st0⟩, e3, e4⟩ := bind_some' e1
  obtain ⟨v0, us, rfl, p0, dn'⟩ := dn.uncons
  unfold Den at p0
  obtain ⟨a, ka, rfl⟩ := p0
  have la : Liv L st a := ⟨k, c, ka, hc⟩
  obtain ⟨nza, oa, ea, qa⟩ := wd.own k a c ka hc
  have ta : ∀ xs, oa ≠ .tup xs := fun xs z => by
    rcases qa.kind with ⟨ys, y⟩ | ⟨kvs, y⟩ <;> (rw [y] at z; cases z)
  let Z1 : Addr → Prop := fun b => Bad Z L st b ∧ b ≠ a
  have l1 : ∀ b, Liv [a] [some c] b ↔ b = a := fun b => by
    constructor
    · rintro ⟨j, x, j1, j2⟩
      cases j with
      | zero => simp at j1; exact j1.symm
      | succ j => simp at j1
    · rintro rfl
      exact ⟨0, c, rfl, rfl⟩
  have b1 : ∀ b, Bad Z1 [a] [some c] b → Bad Z L st b := fun b z => by
    rcases z with z | z
    · exact z.1
    · rw [(l1 b).mp z]; exact .inr la
  have w1 : Wd T Z1 [a] [some c] H := by
    refine ⟨wd.tabs, rfl, fun i j b x y a1 a2 _ _ => ?_, fun j b x a1 a2 => ?_, fun b z => z.1.elim (wd.zt b) wd.livTrk⟩
    · cases i with
      | zero =>
        cases j with
        | zero => rfl
        | succ j => simp at a2
      | succ i => simp at a1
    · cases j with
      | zero =>
        simp at a1 a2
        subst a1; subst a2
        exact ⟨fun z => z.2 rfl, oa, ea, (qa.imp fun ds vs t => t.mono b1).anyL hnc⟩
      | succ j => simp at a1
  have da : Dens [a] (Bad Z1 [a] [some c]) H (.ref 0 :: ds) (.ref a :: us) := by
    refine .cons ?_ ((dn'.mono b1).anyL hn)
    unfold Den
    exact ⟨a, rfl, rfl⟩
  refine ⟨Z1, [a], [some c], .ref 0 :: ds, d0, st0, hl, w1, da, e3, fun v H' L' ff p => ?_⟩
  dsimp only at e4
  split at e4
  case h_2 => cases e4
  case h_1 c' hc' =>
  split at e4
  case isFalse => cases e4
  case isTrue hnc' =>
  obtain ⟨d2, e5, e6⟩ := Option.map_eq_some_iff.mp e4
  cases e6
  have a0 : L'[0]? = some a := ff.ix rfl
  have lst : ∀ b, Liv L (st.set k (some c1)) b → Liv L st b := fun b ⟨j, x, j1, j2⟩ => by
    by_cases hj : k = j
    · subst hj
      rw [ka] at j1; cases j1
      exact la
    · rw [List.getElem?_set_ne hj] at j2
      exact ⟨j, x, j1, j2⟩
  have bz : ∀ b, Bad Z L (st.set k (some c1)) b → zAnd Z1 a b := fun b z => by
    by_cases hb : b = a
    · exact .inr hb
    · exact .inl ⟨z.elim .inl fun z => .inr (lst b z), hb⟩
  have bz2 : ∀ b, zAnd Z1 a b → Bad Z1 L' st0 b := fun b z => by
    rcases z with z | z
    · exact .inl z
    · rw [z]; exact .inr ⟨0, c1, a0, hc'⟩
  have stay : ∀ b u, b ≠ a → H b = some u → (∀ ps, u ≠ .tbl ps) → H' b = some u := fun b u nb e nt => ff.kp b u e (fun z => nb ((l1 b).mp z)) nt
  have bs : ∀ b, Bad Z L (st.set k (some c1)) b → Bad Z L st b := fun b z => z.elim .inl fun z => .inr (lst b z)
  have trD : ∀ ds vs, Dens L (Bad Z L st) H ds vs → Dens L (Bad Z L (st.set k (some c1))) H' ds vs := fun ds vs t =>
    (t.stayB fun b u e nt z => stay b u (fun y => by
      rcases z with ⟨xs, z⟩ | z
      · subst y; rw [ea] at e; cases e; exact ta xs z
      · exact z (by rw [y]; exact .inr la)) e nt).mono bs
  have hlt : k < st.length := (List.getElem?_eq_some_iff.mp hc).1
  refine q v H' L ⟨⟨ff.wd.tabs, by rw [List.length_set]; exact wd.len, fun i j b x y a1 a2 a3 a4 => ?_, fun j b x a1 a2 => ?_, fun b z => ff.trk b (wd.zt b z)⟩, ⟨[], by simp⟩, fun b u e nl nt => stay b u (fun y => nl (by rw [y]; exact la)) e nt, fun b z => .inl (lst b z), ff.trk, ff.tp, fun j b h e => absurd (List.getElem?_eq_some_iff.mp e).1 (by omega), fun b z => .inl z⟩ ?_
  · have g : ∀ (i : Nat) x, L[i]? = some b → (st.set k (some c1))[i]? = some (some x) → ∃ x', st[i]? = some (some x') := fun i x g1 g2 => by
      by_cases hj : k = i
      · subst hj; exact ⟨c, hc⟩
      · rw [List.getElem?_set_ne hj] at g2; exact ⟨x, g2⟩
    obtain ⟨x', g1⟩ := g i x a1 a3
    obtain ⟨y', g2⟩ := g j y a2 a4
    exact wd.inj i j b x' y' a1 a2 g1 g2
  · by_cases hj : k = j
    · subst hj
      rw [ka] at a1; cases a1
      rw [List.getElem?_set_self hlt] at a2
      cases a2
      obtain ⟨_, o, eo, qo⟩ := ff.wd.own 0 a c1 a0 hc'
      exact ⟨nza, o, eo, (qo.imp fun ds vs t => t.mono fun b z => bz2 b (bz b z)).anyL hnc'⟩
    · rw [List.getElem?_set_ne hj] at a2
      obtain ⟨nz, o, eo, qo⟩ := wd.own j b x a1 a2
      have nb : b ≠ a := fun y => by
        subst y
        exact hj (wd.inj k j b c x ka a1 hc a2)
      refine ⟨nz, o, stay b o nb eo fun ps z => ?_, qo.imp trD⟩
      rcases qo.kind with ⟨ys, y⟩ | ⟨kvs, y⟩ <;> (rw [y] at z; cases z)
  · obtain ⟨wz, _⟩ := ff.wd.toZ a0 hc'
    exact (deref_ok (L0 := L) wz e5 (p.mono bz2)).mono bz
end
/-! ### slices of tuples -/
def gSlT (x : Dt) (lo hi : Option Int) : Option Dt := match x with
  | .tup ds => if HT.sIx ds.length 0 lo = 0 ∧ HT.sIx ds.length ds.length hi = ds.length then none else some (.tup (cutL ds lo hi))
  | _ => none
def eSlT (f : SE) (l h : SO) : SE := fun r st => (f r st).bind fun x => (l r x.2).bind fun a => (h r a.2).bind fun b => (gSlT x.1 a.1 b.1).map fun d => (d, b.2)
section
variable {T : List (Addr × Str)} {K : PySem.W.Frag}
theorem sim_slT {te : TE} {tl th : TO} {f : SE} {l h : SO} (hf : SimE T te f) (hl : SimO T tl l) (hh : SimO T th h) : SimE T (tSl (rSlT K) te tl th) (eSlT f l h) := by
  intro Z L st H s r d st' Q w e hq q
  obtain ⟨⟨dx, st1⟩, h1, hq⟩ := bind_some' hq
  obtain ⟨⟨lo, st2⟩, h2, hq⟩ := bind_some' hq
  obtain ⟨⟨hi, st3⟩, h3, hq⟩ := bind_some' hq
  obtain ⟨d', h4, h5⟩ := Option.map_eq_some_iff.mp hq
  cases h5
  refine hf Z L st H s r dx st1 _ w e h1 fun x H1 L1 f1 p1 => ?_
  refine hl Z L1 st1 H1 s r lo st2 _ f1.wd (e.keep f1) h2 fun H2 L2 f2 => ?_
  refine hh Z L2 st2 H2 s r hi st3 _ f2.wd ((e.keep f1).keep f2) h3 fun H3 L3 f3 => ?_
  have p3 := (p1.keep f2).keep f3
  have fa := f1.trans (f2.trans f3)
  dsimp only at h4
  cases dx with
  | tup ds =>
    unfold gSlT at h4
    dsimp only at h4
    split at h4
    · cases h4
    · rename_i hw
      cases h4
      unfold Den at p3
      obtain ⟨a, vs, rfl, ea, t⟩ := p3
      refine ⟨a, vs, rfl, SqT.of ea, by rw [← t.len]; exact hw, fun p np => q _ _ L3 (fa.trans (.new f3.wd np)) ?_⟩
      refine .newT f3.wd np ?_
      show Dens _ _ _ (cutL ds lo hi) (cutV vs lo hi)
      unfold cutL cutV
      rw [t.len]
      exact (t.drop _).take _
  | _ => cases h4
variable {X : Cx} {e : Expr} {fa : SE} {pos : Pos}
theorem jSlT {lo hi : Option Expr} {fl fh : SO} {p2 : Pos} (he : PE X e (rE T fa)) (hl : PO X lo (rO T fl)) (hh : PO X hi (rO T fh)) : PE X (.Subscript e (.Slice lo hi none p2) pos) (rE T (eSlT fa fl fh)) := toE (pe_slice sl_tup he hl hh) (sim_slT sE sO sO)
end
/-! ### for over zip(live list, list) -/
def nxZ (k : Nat) (es : List Dt) (i : Nat) (st : Sto) : Option (Option Dt) := match st[k]? with
  | some (some (.lst ds)) => some (match ds[i]?, es[i]? with
    | some d, some e => some (.tup [d, e])
    | _, _ => none)
  | _ => none
def sForNx (nx : Nat → Sto → Option (Option Dt)) (k : SG) (g : SS) : Nat → Nat → SS
  | 0, _ => fun _ _ => none
  | n + 1, i => fun r st => (nx i st).bind fun o => match o with
    | none => some (.nx r st)
    | some x => (k x r).bind fun r1 => (g r1 st).bind fun o => match o with
      | .nx r' st' => sForNx nx k g n (i + 1) r' st'
      | .ct r' st' => sForNx nx k g n (i + 1) r' st'
      | .bk r' st' => some (.nx r' st')
      | .rt d st' => some (.rt d st')
def sForZ (f : SA) (k : SG) (g : SS) (n : Nat) : SS := fun r st => (f r st).bind fun x => match x.1 with
  | [.ref a, .lst es] => sForNx (nxZ a es) k g n 0 r x.2
  | _ => none
section
variable {T : List (Addr × Str)} {K : PySem.W.Frag}
theorem sim_forZ {is : List Nat} {ta : TA} {f : SA} {g : TG} {k : SG} {tb : TS} {gb : SS} {n : Nat} (hf : SimA T ta f) (hg : SimG T is g k) (hb : SimS T tb gb) : SimS T (tFor (iZip K ta) g tb) (sForZ f k gb n) := by
  intro Z L st H s r o D w e h q
  obtain ⟨⟨xs, st1⟩, a1, h⟩ := bind_some' h
  dsimp only at h
  split at h
  case h_2 => cases h
  case h_1 ka es =>
  refine hf Z L st H s r _ st1 _ w e a1 fun vs0 H1 L1 f1 p1 => ?_
  obtain ⟨v, u, rfl, p, p'⟩ := dens2 p1
  unfold Den at p p'
  obtain ⟨a, la, rfl⟩ := p
  obtain ⟨b, us, rfl, nb, eb, t'⟩ := p'
  -- at every later world
  have key : ∀ L2 st2 H2, Af T Z L1 st1 H1 L2 st2 H2 → ∀ ds, st2[ka]? = some (some (.lst ds)) → ∃ vs, SqL K H2 a vs ∧ SqL K H2 b us ∧ Dens L2 (Bad Z L2 st2) H2 ds vs ∧ Dens L2 (Bad Z L2 st2) H2 es us := fun L2 st2 H2 f2 ds hd => by
    have la2 : L2[ka]? = some a := f2.ix la
    obtain ⟨_, oa, ea, qa⟩ := f2.wd.own ka a _ la2 hd
    obtain ⟨vs, rfl, t⟩ := qa
    have eb2 : H2 b = some (.lst us) := f2.kp b _ eb (fun z => nb (.inr z)) (fun ps z => by cases z)
    exact ⟨vs, SqL.of ea, SqL.of eb2, t, t'.keep f2⟩
  have live0 : ∃ ds, st1[ka]? = some (some (.lst ds)) := by
    cases n with
    | zero => cases h
    | succ n =>
      obtain ⟨o1, b1, _⟩ := bind_some' h
      unfold nxZ at b1
      split at b1
      · rename_i ds hd; exact ⟨ds, hd⟩
      · cases b1
  obtain ⟨ds0, hd0⟩ := live0
  obtain ⟨vs, q1, q2, _, _⟩ := key L1 st1 H1 (.refl f1.wd) ds0 hd0
  refine ⟨a, b, vs, us, rfl, q1, q2, ?_⟩
  refine ⟨fun i m s2 H2 => ∃ L2 st2 r2, Af T Z L1 st1 H1 L2 st2 H2 ∧ EnvOk L2 (Bad Z L2 st2) H2 r2 s2 ∧ sForNx (nxZ ka es) k gb m i r2 st2 = some o,
    ⟨n, L1, st1, r, .refl f1.wd, e.keep f1, h⟩, ?_⟩
  rintro i m s2 H2 ⟨L2, st2, r2, f2, e2, h2⟩
  cases m with
  | zero => cases h2
  | succ m =>
    obtain ⟨o1, c1, c2⟩ := bind_some' h2
    unfold nxZ at c1
    split at c1
    case h_2 => cases c1
    case h_1 ds hd =>
    cases c1
    obtain ⟨vs, q1, q2, t, t2⟩ := key L2 st2 H2 f2 ds hd
    cases hdi : ds[i]? with
    | none =>
      left
      rw [hdi] at c2
      cases c2
      refine ⟨⟨vs, us, q1, q2, .inl ?_⟩, q s2 H2 L2 (f1.trans f2) e2⟩
      rw [← t.len]
      exact List.getElem?_eq_none_iff.mp hdi
    | some d =>
      cases hei : es[i]? with
      | none =>
        left
        rw [hdi, hei] at c2
        cases c2
        refine ⟨⟨vs, us, q1, q2, .inr ?_⟩, q s2 H2 L2 (f1.trans f2) e2⟩
        rw [← t2.len]
        exact List.getElem?_eq_none_iff.mp hei
      | some d' =>
        right
        rw [hdi, hei] at c2
        dsimp only at c2
        obtain ⟨v, hv, pv⟩ := t.get hdi
        obtain ⟨u, hu, pu⟩ := t2.get hei
        refine ⟨⟨vs, us, v, u, q1, q2, hv, hu⟩, fun s5 H5 => ∃ L5 st5 r5, Af T Z L1 st1 H1 L5 st5 H5 ∧ EnvOk L5 (Bad Z L5 st5) H5 r5 s5 ∧ sForNx (nxZ ka es) k gb m (i + 1) r5 st5 = some o, fun s5 H5 x => ⟨m, by omega, x⟩, fun x H3 y => ?_⟩
        obtain ⟨TT, x1, y1, rfl, nT, rfl, hx1, hy1⟩ := y
        have hx1 := hx1 vs q1
        have hy1 := hy1 us q2
        rw [hv] at hx1
        rw [hu] at hy1
        cases hx1
        cases hy1
        have f3 : Af T Z L2 st2 H2 L2 st2 (upd H2 TT (.tup [v, u])) := .new f2.wd nT
        have p3 : Den L2 (Bad Z L2 st2) (upd H2 TT (.tup [v, u])) (.tup [d, d']) (.ref TT) := .newT f2.wd nT (.cons pv (.cons pu .nil))
        obtain ⟨r3, b1, b2⟩ := bind_some' c2
        obtain ⟨o2, b3, b4⟩ := bind_some' b2
        refine hg Z L2 st2 _ s2 r2 _ _ r3 _ f3.wd (e2.keep f3) p3 b1 fun s3 e3 _ => ?_
        refine hb Z L2 st2 _ s3 r3 o2 _ f3.wd e3 b3 ?_
        cases o2 with
        | nx r' st' => exact fun s4 H4 L4 f4 e4 => ⟨L4, st', r', f2.trans (f3.trans f4), e4, b4⟩
        | ct r' st' => exact fun s4 H4 L4 f4 e4 => ⟨L4, st', r', f2.trans (f3.trans f4), e4, b4⟩
        | bk r' st' => cases b4; exact fun s4 H4 L4 f4 e4 => q s4 H4 L4 (f1.trans (f2.trans (f3.trans f4))) e4
        | rt d st' => cases b4; exact fun v H4 L4 f4 e4 => q v H4 L4 (f1.trans (f2.trans (f3.trans f4))) e4
variable {X : Cx} {pos : Pos} {g : SS}
theorem jsForZ (n : Nat) {a b : Expr} {elts : List Expr} {kk : Nat} {tpos p ipos : Pos} {body : List Stmt} {tgt : TG} {kt : SG} {fs : SA} {is : List Nat} (hp : PassesOwn (model X.prog X.w) X.A X.env X.xe) (hc : X.calm = true) (hk : SimG T is tgt kt) (hgz : Gl X "zip") (hm : X.mg "zip" = none) (ha : PA X [a, b] (rA T fs)) (hg : PG X (.Tuple elts kk tpos) tgt) (hb : PSs X body (rS T g))
    (hs1 : starEach [a, b] X.env = (false, eval a X.env) :: starEach [b] X.env := by rfl) (hpl : (backTo ipos (starEach [b] X.env)).any (·.1) = false := by rfl) (hs : ∀ x, foldedSetIterable (.Call (.Name "zip" p) [a, b] [] ipos) X.env x = pure x := by intro _; rfl) :
    PS X (.For (.Tuple elts kk tpos) (.Call (.Name "zip" p) [a, b] [] ipos) body [] pos) (rS T (sForZ fs kt g n)) := toS (ps_for hp hc (pi_zip hgz hm ha hs1 hpl) hg hb hs) (sim_forZ sA hk sS)
end
/-! ### d.get(k, x) -/
def eGet2 (fd fk fx : SE) : SE := fun r st => (fd r st).bind fun x => (asD x.2 x.1).bind fun _ => (fk r x.2).bind fun y => (fx r y.2).bind fun z => (asD z.2 x.1).bind fun p => (keyD y.1).map fun k => ((pGet k p.1 p.2).getD z.1, z.2)
section
variable {T : List (Addr × Str)}
theorem sim_get2 {td ty tx : TE} {fd fk fx : SE} (hd : SimE T td fd) (hk : SimE T ty fk) (hx : SimE T tx fx) : SimE T (tDGet2 td ty tx) (eGet2 fd fk fx) := by
  intro Z L st H s r d st' Q w e h q
  obtain ⟨⟨dx, st1⟩, h1, h⟩ := bind_some' h
  obtain ⟨⟨ks0, ds0⟩, g1, h⟩ := bind_some' h
  obtain ⟨⟨dy, st2⟩, h2, h⟩ := bind_some' h
  obtain ⟨⟨dz, st3⟩, h3, h⟩ := bind_some' h
  obtain ⟨⟨ks, ds⟩, g2, h⟩ := bind_some' h
  obtain ⟨k, g3, h5⟩ := Option.map_eq_some_iff.mp h
  cases h5
  refine hd Z L st H s r dx st1 _ w e h1 fun x H1 L1 f1 p1 => ?_
  obtain ⟨a, vs0, rfl, ea0, _, _⟩ := asD_ok f1.wd p1 g1
  refine ⟨a, rfl, .inl ⟨_, ea0⟩, ?_⟩
  refine hk Z L1 st1 H1 s r dy st2 _ f1.wd (e.keep f1) h2 fun y H2 L2 f2 p2 => ?_
  refine hx Z L2 st2 H2 s r dz st3 _ f2.wd ((e.keep f1).keep f2) h3 fun z H3 L3 f3 p3 => ?_
  obtain ⟨a', vs, ea', ea, el, t⟩ := asD_ok f3.wd ((p1.keep f2).keep f3) g2
  cases ea'
  refine ⟨pGet k ks vs, .inl ⟨_, k, ea, keyD_ok p2 g3, (pGet_val k ks vs).symm⟩, q _ H3 L3 (f1.trans (f2.trans f3)) ?_⟩
  rcases t.pGet k (ks := ks) with ⟨z1, z2⟩ | ⟨d2, v, z1, z2, z3⟩
  · rw [z1, z2]; exact p3
  · rw [z1, z2]; exact z3
variable {X : Cx} {o e f : Expr} {apos cpos : Pos} {fd fk fx : SE}
theorem jGet2 (hu : X.A.units + 64 < cLine) (ho : PE X o (rE T fd)) (he : PE X e (rE T fk)) (hf : PE X f (rE T fx)) (hbase : attributeBase o "get" X.env (eval o X.env) = eval o X.env := by rfl)
    (hfew : ((backTo cpos (starEach [e, f] X.env)).all (fun x => !x.1) && (backToKw cpos (keywordEach [] X.env)).all (fun x => x.1.isSome) && decide (([e, f] : List Expr).length + ([] : List Keyword).length + (if ([] : List Keyword).isEmpty then 0 else 1) < 30)) = true := by rfl)
    (hline : (apos.endLine == cpos.line) = true := by rfl) (htr : backTo cpos (starEach [e, f] X.env) = [(false, eval e X.env), (false, eval f X.env)] := by rfl) :
    PE X (.Call (.Attribute o "get" apos) [e, f] [] cpos) (rE T (eGet2 fd fk fx)) := toE (pe_dget2 (by omega) ho he hf ⟨hbase, hfew, hline, htr⟩) (sim_get2 sE sE sE)
end
end HB

set_option Elab.async false
set_option linter.all false
set_option maxRecDepth 100000
set_option maxHeartbeats 1000000
/-! HC, part o: int of an int or a bool. -/
namespace HB
open PySem PySem.Spec PyProof.Rows L2
def gIntB (st : Sto) (xs : List Dt) : Option (Dt × Sto) := match xs with
  | [.int i] => some (.int i, st)
  | [.bl k] => some (.int (if k = true then 1 else 0), st)
  | _ => none
section
variable {T : List (Addr × Str)}
theorem vo_intB : VON T (fun xs H Q => (∃ i, xs = [.int i] ∧ Q (.int i) H) ∨ ∃ k, xs = [.bl k] ∧ Q (.int (if k then 1 else 0)) H) gIntB := by
  intro Z L st H xs dxs d st' Q w hx h q
  unfold gIntB at h
  split at h
  · cases h
    obtain ⟨v, rfl, p⟩ := dens1 hx
    exact .inl ⟨_, by rw [den_int p], q _ H L (.refl w) Den.int⟩
  · cases h
    obtain ⟨v, rfl, p⟩ := dens1 hx
    exact .inr ⟨_, by rw [den_bl p], q _ H L (.refl w) Den.int⟩
  · cases h
end
end HB

set_option Elab.async false
set_option linter.all false
set_option maxRecDepth 100000
set_option maxHeartbeats 1000000
/-! the skips family: texts as lists of signs, evaluation lemmas. -/
namespace HB
open PySem PySem.Spec PyProof.Rows L2
/-- the text of these signs; one sign -/
def tx (l : List Nat) : Str := ⟨l.toArray⟩
abbrev sg (c : Nat) : Str := ⟨#[c]⟩
@[simp] theorem tx_cps (l : List Nat) : (tx l).cps.toList = l := by simp [tx]
@[simp] theorem tx_len (l : List Nat) : (tx l).length = l.length := by simp [tx, Str.length]
@[simp] theorem tx_inj {l m : List Nat} : tx l = tx m ↔ l = m := ⟨fun h => by rw [← tx_cps l, h, tx_cps], fun h => by rw [h]⟩
theorem sg_inj {c d : Nat} : sg c = sg d ↔ c = d := ⟨fun h => by injection h with h; injection h with h; injection h with h, fun h => by rw [h]⟩
theorem sg_tx (c : Nat) : sg c = tx [c] := rfl
section
variable {st : Sto} {r : Evr}
@[simp] theorem atI_nat {α : Type} {l : List α} {k : Nat} : atI l (k : Int) = l[k]? := by
  unfold atI ixN
  by_cases h : k < l.length
  · have h1 : ¬ ((k : Int) < 0) := by omega
    simp [h1, h]
  · have h1 : ¬ ((k : Int) < 0) := by omega
    rw [List.getElem?_eq_none (by omega)]
    simp [h1]
    try omega
theorem ixL {ds : List Dt} {i : Int} (k : Nat) {d : Dt} (hi : i = (k : Int)) (h : ds[k]? = some d) : gIx st (.lst ds) (.int i) = some (d, st) := zIx (by rw [hi, atI_nat]; exact h)
theorem ixT {l : List Nat} {i : Int} (k : Nat) (hz : l.length ≤ sizeLine) (hi : i = (k : Int)) (hk : k < l.length) : gIx st (.str (tx l)) (.int i) = some (.str (sg (l.getD k 0)), st) := by
  refine v_ixS (by rw [tx_len]; exact hz) ?_
  rw [tx_cps, hi, atI_nat, List.getElem?_eq_getElem hk]
  simp [List.getD, hk]
@[simp] theorem zItK {ks : List Key} {ds : List Dt} : itK st (.dic ks ds) = some (ks.map keyDt) := rfl
@[simp] theorem zItI {ks : List Key} {ds : List Dt} : itI st (.dic ks ds) = some ((ks.zip ds).map fun p => .tup [keyDt p.1, p.2]) := rfl
@[simp] theorem zEnT {l : List Nat} : enT [.str (tx l)] = some (l.zipIdx.map fun p => .tup [.int (p.2 : Nat), .str (sg p.1)]) := by
  show some (enumT (tx l)) = _
  unfold enumT; rw [tx_cps]
@[simp] theorem zItT {l : List Nat} : itS st (.str (tx l)) = some (l.map fun c => .str (sg c)) := by rw [zItS, tx_cps]
theorem zLenT {l : List Nat} (h : l.length ≤ sizeLine) : gLen st [.str (tx l)] = some (.int l.length, st) := by rw [zLenS (by rw [tx_len]; exact h), tx_len]
@[simp] theorem zInT {neg : Bool} {c : Nat} {l : List Nat} : gInZ neg st (.str (sg c)) (.str (tx l)) = some (.bl (if neg then !decide (c ∈ l) else decide (c ∈ l)), st) := by
  unfold gInZ
  simp
theorem flats_int : ∀ l : List Nat, flats (l.map fun p : Nat => Dt.int p) = some (l.map fun p : Nat => V.int p)
  | [] => rfl
  | x :: l => by rw [List.map_cons]; show (flats _).map _ = _; rw [flats_int l]; rfl
theorem inV_int (x : Nat) : ∀ l : List Nat, inV (.int x) (l.map fun p : Nat => V.int p) = decide (x ∈ l)
  | [] => by simp [inV]
  | y :: l => by
    have ih := inV_int x l
    unfold inV at ih ⊢
    rw [List.map_cons, List.any_cons, ih]
    by_cases h : x = y
    · simp [h, eqV]
    · have : ¬ ((y : Int) = (x : Int)) := by omega
      have h2 : ¬ ((x : Int) = (y : Int)) := by omega
      simp [h, this, h2, eqV]
theorem zInI {neg : Bool} {x : Nat} {l : List Nat} : gInZ neg st (.int x) (.lst (l.map fun p : Nat => .int p)) = some (.bl (if neg then !decide (x ∈ l) else decide (x ∈ l)), st) := by
  have e : inD st (.int (x : Int)) (.lst (l.map fun p : Nat => .int p)) = some (decide (x ∈ l)) := by
    unfold inD
    simp only [zAsL]
    rw [flats_int]
    show some (inV (V.int x) _) = _
    rw [inV_int]
  show gIn neg st _ _ = _
  unfold gIn
  rw [e]
  rfl
theorem zInDk {neg : Bool} {ks : List Key} {ds : List Dt} {c : Nat} : gInZ neg st (.str (sg c)) (.dic ks ds) = some (.bl (if neg then !(pGet (Sum.inr (sg c)) ks ds).isSome else (pGet (Sum.inr (sg c)) ks ds).isSome), st) := by
  show gIn neg st _ _ = _
  exact zInD rfl
theorem zMulZ {i j : Int} (h : cMul i j = true) : gMulZ st (.int i) (.int j) = some (.int (i * j), st) := zMulI h
theorem zMulT {l : List Nat} {k : Nat} (h : k ≤ 1000) (hl : l.length ≤ 1000) : gMulZ st (.str (tx l)) (.int k) = some (.str (tx (List.replicate k l).flatten), st) := by
  show (if _ then _ else _) = _
  rw [if_pos]
  · unfold repS tx; simp
  · refine ⟨by omega, by omega, ?_⟩
    rw [tx_len, Int.toNat_natCast]
    have := Nat.mul_le_mul hl h
    omega
theorem cutL_from {α : Type} (l : List α) (k : Nat) : cutL l (some (k : Int)) none = l.drop k := by
  unfold cutL
  rw [HT.sIx_nat, HT.sIx_none]
  by_cases h : k ≤ l.length
  · rw [Nat.min_eq_left h, List.take_of_length_le (by simp)]
  · rw [Nat.min_eq_right (by omega), List.drop_of_length_le (Nat.le_refl _), List.drop_of_length_le (by omega)]; simp
theorem cutL_to {α : Type} (l : List α) (k : Nat) : cutL l none (some (k : Int)) = l.take k := by
  unfold cutL
  rw [HT.sIx_nat, HT.sIx_none]
  simp
theorem cutL_at {α : Type} (l : List α) (i k : Nat) (h : i ≤ l.length) : cutL l (some (i : Int)) (some (k : Int)) = (l.drop i).take (min k l.length - i) := by
  unfold cutL
  rw [HT.sIx_nat, HT.sIx_nat, Nat.min_eq_left h]
theorem cutS_tx (l : List Nat) (lo hi : Option Int) : cutS (tx l) lo hi = tx (cutL l lo hi) := by
  have e : ({ cps := l.toArray } : Str).length = l.length := tx_len l
  unfold cutS cutL tx
  simp [e]
theorem v_lc {fi : SA} {own : List Nat} {kt : SG} {c : ST} {f : SE} {r : Evr} {st st1 st2 : Sto} {xs zs : List Dt} (hi : fi r st = some (xs, st1)) (hg : lcGo kt c f (wipeD r own) xs st1 = some (zs, st2)) (hl : zs.length ≤ sizeLine) : lc fi own kt c f r st = some (zs, st2) := by
  rw [zLc, hi, Option.bind_some, hg, Option.bind_some, if_pos hl]
theorem s_asg {kt : SG} {fa : SE} {r r' : Evr} {st st1 : Sto} {d : Dt} (h : fa r st = some (d, st1)) (hk : kt d r = some r') : sAsg kt fa r st = some (.nx r' st1) := by
  rw [zAsg, h, Option.bind_some, hk]; rfl
theorem v_toT {fs : SA} {r : Evr} {st st1 : Sto} {ds : List Dt} (h : fs r st = some (ds, st1)) (hl : ds.length ≤ 16777216) : toT fs r st = some (.tup ds, st1) := by
  have := line_ge
  rw [zToT, h, Option.bind_some, if_pos (show ds.length ≤ sizeLine by omega)]
theorem v_smallN {fs : SA} {r : Evr} {st st1 : Sto} {ds : List Dt} (h : fs r st = some (ds, st1)) (hl : ds.length ≤ 16777216) : small fs r st = some (ds, st1) := v_small h (by have := line_ge; omega)
theorem rg_eq (i j : Int) : rg2 [.int i, .int j] = if -(2 ^ 62) ≤ i ∧ i < 2 ^ 62 ∧ -(2 ^ 62) ≤ j ∧ j < 2 ^ 62 then some (rngL i (j - i).toNat) else none := by unfold rg2; rfl
theorem rg_one {n : Nat} (h : n ≤ 1000000) : rg2 [.int 1, .int ((n : Int) + 1)] = some ((List.range n).map fun i : Nat => .int (1 + (i : Nat))) := by
  rw [rg_eq, if_pos (by omega)]
  have : ((n : Int) + 1 - 1).toNat = n := by omega
  rw [this]
  rfl
theorem nodup_filter {α : Type} {l : List α} (p : α → Bool) (h : l.Nodup) : (l.filter p).Nodup := List.Pairwise.filter p h
theorem neI {st : Sto} {a b : Int} (h : a = b) : gNeB st (.int a) (.int b) = some (.bl false, st) := by rw [zNeI, decide_eq_true h]; rfl
theorem for_any {α σ : Type} {kt : SG} {g : SS} (D : α → Dt) (E : σ → Evr) (S : σ → Sto) (I : σ → Prop) : ∀ (xs : List α) (s : σ), I s → (∀ s a, a ∈ xs → I s → ∃ r1 s', kt (D a) (E s) = some r1 ∧ g r1 (S s) = some (.nx (E s') (S s')) ∧ I s') → ∃ s', sForGo kt g (xs.map D) (E s) (S s) = some (.nx (E s') (S s')) ∧ I s'
  | [], s, h, _ => ⟨s, rfl, h⟩
  | a :: xs, s, h, hs => by
    obtain ⟨r1, s1, h1, h2, h3⟩ := hs s a (by simp) h
    obtain ⟨s', k1, k2⟩ := for_any D E S I xs s1 h3 fun s b hb => hs s b (by simp [hb])
    refine ⟨s', ?_, k2⟩
    rw [List.map_cons]
    exact for_cons h1 h2 k1
theorem for_ex {α σ : Type} {kt : SG} {g : SS} (D : α → Dt) (E : σ → Evr) (S : σ → Sto) (f : σ → α → σ) (I : σ → Prop) (xs : List α) (s : σ) (h : I s) (hs : ∀ s a, a ∈ xs → I s → ∃ r1, kt (D a) (E s) = some r1 ∧ g r1 (S s) = some (.nx (E (f s a)) (S (f s a))) ∧ I (f s a)) : ∃ s', sForGo kt g (xs.map D) (E s) (S s) = some (.nx (E s') (S s')) ∧ I s' := ⟨_, for_st D E S f I xs s h hs⟩
theorem zSlT {l : List Nat} {lo hi : Option Int} (h : l.length ≤ sizeLine) : gSl st (.str (tx l)) lo hi = some (.str (tx (cutL l lo hi))) := by
  rw [zSlS (by rw [tx_len]; exact h), cutS_tx]
end
end HB

set_option Elab.async false
set_option linter.all false
set_option maxRecDepth 100000
set_option maxHeartbeats 1000000
/-! equality of ints, lists of ints. -/
namespace HB
open PySem PySem.Spec PyProof.Rows L2
theorem eqPl_I {x y : Int} : eqPl (.int x) (.int y) = some (decide (x = y)) := by
  have sh : ∀ z : Int, SeqAt.shaped (.int z) = true := fun z => by
    unfold SeqAt.shaped PyData.canLay0 PyData.depth
    rfl
  show (if (SeqAt.shaped (.int x) && SeqAt.shaped (.int y)) = true then some (PyData.eqv (.int x) (.int y)) else none) = _
  rw [if_pos (by rw [sh x, sh y]; rfl)]
  unfold PyData.eqv
  by_cases h : x = y
  · subst h; simp
  · simp [h]
theorem okQ_I {x : Int} {n : Nat} : okQ (n + 1) (.int x) := by
  show eqPl (.int x) (.int x) = _
  rw [eqPl_I]; simp
variable {st : Sto}
theorem eqB_LI {l m : List Nat} : eqB st (.lst (l.map fun p : Nat => Dt.int p)) (.lst (m.map fun p : Nat => Dt.int p)) = some (decide (l = m)) := by
  have n1 : noRef (.lst (l.map fun p : Nat => Dt.int p)) = true := by rw [nrL]; exact noRefs_map fun _ _ => rfl
  have n2 : noRef (.lst (m.map fun p : Nat => Dt.int p)) = true := by rw [nrL]; exact noRefs_map fun _ _ => rfl
  unfold eqB
  rw [deref_no n1, deref_no n2]
  show (if alikeD (.lst (l.map fun p : Nat => Dt.int p)) (.lst (m.map fun p : Nat => Dt.int p)) = true then (if noRef (.lst (l.map fun p : Nat => Dt.int p)) = true ∧ noRef (.lst (m.map fun p : Nat => Dt.int p)) = true then eqQ 8 (.lst (l.map fun p : Nat => Dt.int p)) (.lst (m.map fun p : Nat => Dt.int p)) else none) else eqD st (.lst (l.map fun p : Nat => Dt.int p)) (.lst (m.map fun p : Nat => Dt.int p))) = _
  rw [if_pos (show alikeD (.lst (l.map fun p : Nat => Dt.int p)) (.lst (m.map fun p : Nat => Dt.int p)) = true from rfl), if_pos ⟨n1, n2⟩]
  refine eqQ_list l m fun a ha b hb => ?_
  show eqPl _ _ = _
  rw [eqPl_I]
  congr 1
  by_cases h : a = b
  · simp [h]
  · have : ¬ (a : Int) = b := by omega
    simp [h, this]
theorem zNeLI {l m : List Nat} : gNeB st (.lst (l.map fun p : Nat => Dt.int p)) (.lst (m.map fun p : Nat => Dt.int p)) = some (.bl (!decide (l = m)), st) := by unfold gNeB; rw [eqB_LI]; rfl
theorem zEqLI {l m : List Nat} : gEqB st (.lst (l.map fun p : Nat => Dt.int p)) (.lst (m.map fun p : Nat => Dt.int p)) = some (.bl (decide (l = m)), st) := by unfold gEqB; rw [eqB_LI]; rfl
theorem zNeLI0 {l : List Nat} : gNeB st (.lst (l.map fun p : Nat => Dt.int p)) (.lst []) = some (.bl (!decide (l = [])), st) := zNeLI (m := [])
theorem zEqLI0 {l : List Nat} : gEqB st (.lst (l.map fun p : Nat => Dt.int p)) (.lst []) = some (.bl (decide (l = [])), st) := zEqLI (m := [])
/-- a dict of places and signs -/
def sD (ps : List (Nat × Nat)) : Dt := .dic (ps.map fun p => Sum.inl (p.1 : Int)) (ps.map fun p => .str (sg p.2))
@[simp] theorem nr_sD {ps : List (Nat × Nat)} : noRef (sD ps) = true := by unfold sD; rw [nrD]; exact noRefs_map fun _ _ => rfl
theorem pGet_sD {p : Nat} : ∀ {ps : List (Nat × Nat)}, p ∈ ps.map (·.1) → ∃ c, pGet (Sum.inl (p : Int)) (ps.map fun p => (Sum.inl (p.1 : Int) : Key)) (ps.map fun p => Dt.str (sg p.2)) = some (.str (sg c))
  | [], h => by simp at h
  | q :: ps, h => by
    rw [List.map_cons, List.map_cons]
    unfold pGet
    by_cases hq : q.1 = p
    · rw [if_pos (by rw [hq])]; exact ⟨_, rfl⟩
    · have : ¬ ((Sum.inl (q.1 : Int) : Key) = Sum.inl (p : Int)) := fun z => hq (by injection z with z; omega)
      rw [if_neg this]
      refine pGet_sD ?_
      simp only [List.map_cons, List.mem_cons] at h
      rcases h with h | h
      · exact absurd h.symm hq
      · exact h
theorem pPut_sD {p c : Nat} {ps : List (Nat × Nat)} (h : p ∉ ps.map (·.1)) : pPut (Sum.inl (p : Int)) (Dt.str (sg c)) (ps.map fun p => (Sum.inl (p.1 : Int) : Key)) (ps.map fun p => Dt.str (sg p.2)) = ((ps ++ [(p, c)]).map fun p => (Sum.inl (p.1 : Int) : Key), (ps ++ [(p, c)]).map fun p => Dt.str (sg p.2)) := by
  unfold pPut
  rw [if_neg]
  · simp
  · rw [List.any_eq_true]
    rintro ⟨x, hx, e⟩
    obtain ⟨q, hq, rfl⟩ := List.mem_map.mp hx
    have e' := of_decide_eq_true e
    injection e' with e'
    exact h (List.mem_map.mpr ⟨q, hq, by omega⟩)
end HB

set_option Elab.async false
set_option linter.all false
set_option maxRecDepth 100000
set_option maxHeartbeats 1000000
namespace HB
open PySem PySem.Spec PyProof.Rows L2
theorem disp_one {s : Str} {f : SE} {r : Evr} {st st1 : Sto} {d : Dt} (h : f r st = some (d, st1)) : dToV (eDisp [(eC (.str s), f)]) r st = some (.dic [Sum.inr s] [d], st1) := by
  unfold dToV eDisp
  simp [ePairs, h, keyD, pMrg, pPut]
end HB

set_option Elab.async false
set_option linter.all false
set_option maxRecDepth 100000
set_option maxHeartbeats 1000000
namespace HB
open PySem PySem.Spec PyProof.Rows L2
theorem rb_I {n : Nat} (h : n < 10 ^ 9) : RB 0 72 (.int n) := by
  refine ⟨rfl, ?_, Nat.le_refl 0, ?_⟩
  · show decide (((n : Int)).natAbs.log2 < 1920) = true
    rw [decide_eq_true_eq]
    have e : ((n : Int)).natAbs = n := by omega
    rw [e]
    by_cases h0 : n = 0
    · subst h0; decide
    · exact (Nat.log2_lt h0).mpr (Nat.lt_trans h (by decide +kernel))
  · show (Str.ofString (toString (n : Int))).length ≤ 72
    exact Nat.le_trans (toString_length_le (k := 9) (by omega) (by omega) (by omega)) (by omega)
theorem rb_IL {l : List Nat} (h : ∀ n ∈ l, n < 10 ^ 9) (hl : l.length ≤ 1000) : RB 1 100000 (.lst (l.map fun n : Nat => .int n)) := (rb_L (m := 1000) (fun d hd => by
  obtain ⟨n, hn, rfl⟩ := List.mem_map.mp hd
  exact rb_I (h n hn)) (by rw [List.length_map]; exact hl)).mono (by omega) (by omega)
theorem pairs_map {f : Str → Dt} : ∀ ks : List Str, pairsD (ks.map fun s => .tup [.str s, f s]) = some (ks.map Sum.inr, ks.map f)
  | [] => rfl
  | k :: ks => by
    rw [List.map_cons]
    show (pairD (.tup [.str k, f k])).bind _ = _
    show ((pairsD (ks.map fun s => .tup [.str s, f s])).map _) = _
    rw [pairs_map ks]
    rfl
theorem mrg_map {f : Str → Dt} : ∀ (xs l : List Str), (l ++ xs).Nodup → pMrg (l.map (Sum.inr : Str → Key)) (l.map f) ((xs.map (Sum.inr : Str → Key)).zip (xs.map f)) = ((l ++ xs).map Sum.inr, (l ++ xs).map f)
  | [], l, _ => by simp [pMrg]
  | x :: xs, l, h => by
    have hn : x ∉ l := fun z => (List.nodup_append.mp h).2.2 x z x (by simp) rfl
    have ih := mrg_map (f := f) xs (l ++ [x]) (by simpa using h)
    rw [List.map_cons, List.map_cons, List.zip_cons_cons]
    show pMrg (pPut (Sum.inr x) (f x) (l.map Sum.inr) (l.map f)).1 (pPut (Sum.inr x) (f x) (l.map Sum.inr) (l.map f)).2 _ = _
    rw [put_new x _ l hn]
    simpa using ih
theorem dictP_map {f : Str → Dt} {ks : List Str} {st : Sto} (nd : ks.Nodup) : gDictP st [.lst (ks.map fun s => .tup [.str s, f s])] = some (.dic (ks.map Sum.inr) (ks.map f), st) := by
  show ((pairsD (ks.map fun s => .tup [.str s, f s])).map fun p => (Dt.dic (pMrg [] [] (p.1.zip p.2)).1 (pMrg [] [] (p.1.zip p.2)).2, st)) = _
  rw [pairs_map]
  have := mrg_map (f := f) ks [] (by simpa using nd)
  simp at this
  simp [this]
theorem dict_gD {st : Sto} {ks : List Str} {f : Str → Dt} (nd : ks.Nodup) : gDictA st [.lst (ks.map fun s => .tup [.str s, f s])] = some (.dic (ks.map Sum.inr) (ks.map f), st) := dictP_map nd
theorem items_map (ks : List Str) (f : Str → Dt) : itemsL (ks.map Sum.inr) (ks.map f) = ks.map fun s => .tup [.str s, f s] := by
  unfold itemsL
  induction ks with
  | nil => rfl
  | cons a l ih => rw [List.map_cons, List.map_cons, List.map_cons, List.zip_cons_cons, List.map_cons, ih]; rfl
theorem gFk_rev3 {F : List Dt → Sto → Option (Dt × Sto)} {st : Sto} {a b c : Dt} : gFk 3 [2, 1, 0] F st [c, b, a] = F [a, b, c] st := by
  unfold gFk; rw [if_pos ⟨rfl, rfl⟩]; rfl
theorem gFk_rev5 {F : List Dt → Sto → Option (Dt × Sto)} {st : Sto} {a b c d e : Dt} : gFk 5 [4, 3, 2, 1, 0] F st [e, d, c, b, a] = F [a, b, c, d, e] st := by
  unfold gFk; rw [if_pos ⟨rfl, rfl⟩]; rfl
end HB

set_option Elab.async false
set_option linter.all false
set_option maxRecDepth 100000
set_option maxHeartbeats 4000000
/-! printed by pr3.py: the defs of the row, their plain functions, their derivations. -/
namespace K84
open PySem PySem.Spec PyProof.Rows L2 HB
def top (i : Nat) : Stmt := PySem.Challenge.pw_halfback_k84_whole_from_the_left.main.body.getD i (.Pass ⟨0, 0, 0, 0⟩)
abbrev FnP (K : PySem.W.Frag) (x : Str) (st : Stmt) (f : Addr) (fd : FuncData) : Prop := FunD K x x (defArgs st) (defBody st) (defScope st) [] [] f fd
abbrev s_is_whole : Stmt := top 11
def N_is_whole : List Str := ["thing"]
theorem sc_is_whole : FnScope N_is_whole ["thing"] (defScope s_is_whole) := ⟨rfl, rfl, rfl, by decide +kernel, rfl, by decide +kernel, by decide +kernel⟩
abbrev s_is_letter : Stmt := top 12
def N_is_letter : List Str := ["sign"]
theorem sc_is_letter : FnScope N_is_letter ["sign"] (defScope s_is_letter) := ⟨rfl, rfl, rfl, by decide +kernel, rfl, by decide +kernel, by decide +kernel⟩
abbrev s_check_words : Stmt := top 13
def N_check_words : List Str := ["words", "index", "word", "sign"]
theorem sc_check_words : FnScope N_check_words ["words"] (defScope s_check_words) := ⟨rfl, rfl, rfl, by decide +kernel, rfl, by decide +kernel, by decide +kernel⟩
abbrev s_check_text : Stmt := top 14
def N_check_text : List Str := ["text", "place", "sign"]
theorem sc_check_text : FnScope N_check_text ["text"] (defScope s_check_text) := ⟨rfl, rfl, rfl, by decide +kernel, rfl, by decide +kernel, by decide +kernel⟩
abbrev s_check_letters : Stmt := top 15
def N_check_letters : List Str := ["letters", "words", "place", "sign", "word"]
theorem sc_check_letters : FnScope N_check_letters ["letters", "words"] (defScope s_check_letters) := ⟨rfl, rfl, rfl, by decide +kernel, rfl, by decide +kernel, by decide +kernel⟩
abbrev s_all_states : Stmt := top 16
def N_all_states : List Str := ["words", "some", "word", "many"]
theorem sc_all_states : FnScope N_all_states ["words"] (defScope s_all_states) := ⟨rfl, rfl, rfl, by decide +kernel, rfl, by decide +kernel, by decide +kernel⟩
abbrev s_letters_behind : Stmt := top 17
def N_letters_behind : List Str := ["words", "some", "state", "other"]
theorem sc_letters_behind : FnScope N_letters_behind ["words"] (defScope s_letters_behind) := ⟨rfl, rfl, rfl, by decide +kernel, rfl, by decide +kernel, by decide +kernel⟩
abbrev s_check_state : Stmt := top 18
def N_check_state : List Str := ["state", "words"]
theorem sc_check_state : FnScope N_check_state ["state", "words"] (defScope s_check_state) := ⟨rfl, rfl, rfl, by decide +kernel, rfl, by decide +kernel, by decide +kernel⟩
abbrev s_ends_in : Stmt := top 19
def N_ends_in : List Str := ["words", "state", "other"]
theorem sc_ends_in : FnScope N_ends_in ["words", "state"] (defScope s_ends_in) := ⟨rfl, rfl, rfl, by decide +kernel, rfl, by decide +kernel, by decide +kernel⟩
abbrev s_ends : Stmt := top 20
def N_ends : List Str := ["words", "state"]
theorem sc_ends : FnScope N_ends ["words", "state"] (defScope s_ends) := ⟨rfl, rfl, rfl, by decide +kernel, rfl, by decide +kernel, by decide +kernel⟩
abbrev s_check_table : Stmt := top 22
def N_check_table : List Str := ["table", "words", "some", "state", "entry"]
theorem sc_check_table : FnScope N_check_table ["table", "words"] (defScope s_check_table) := ⟨rfl, rfl, rfl, by decide +kernel, rfl, by decide +kernel, by decide +kernel⟩
abbrev s_check_search : Stmt := top 23
def N_check_search : List Str := ["words", "table"]
theorem sc_check_search : FnScope N_check_search ["words", "table"] (defScope s_check_search) := ⟨rfl, rfl, rfl, by decide +kernel, rfl, by decide +kernel, by decide +kernel⟩
abbrev s_true_in : Stmt := top 24
def N_true_in : List Str := ["words", "state"]
theorem sc_true_in : FnScope N_true_in ["words"] (defScope s_true_in) := ⟨rfl, rfl, rfl, by decide +kernel, rfl, by decide +kernel, by decide +kernel⟩
abbrev s_true_table : Stmt := top 25
def N_true_table : List Str := ["words"]
theorem sc_true_table : FnScope N_true_table ["words"] (defScope s_true_table) := ⟨rfl, rfl, rfl, by decide +kernel, rfl, by decide +kernel, by decide +kernel⟩
abbrev s_step_from : Stmt := top 27
def N_step_from : List Str := ["behind", "table", "state", "letter", "looks"]
theorem sc_step_from : FnScope N_step_from ["behind", "table", "state", "letter"] (defScope s_step_from) := ⟨rfl, rfl, rfl, by decide +kernel, rfl, by decide +kernel, by decide +kernel⟩
abbrev s_walk_in : Stmt := top 28
def N_walk_in : List Str := ["words", "table", "text", "behind", "state", "looks", "told", "letter", "more"]
theorem sc_walk_in : FnScope N_walk_in ["words", "table", "text"] (defScope s_walk_in) := ⟨rfl, rfl, rfl, by decide +kernel, rfl, by decide +kernel, by decide +kernel⟩
abbrev s_finds_in : Stmt := top 29
def N_finds_in : List Str := ["words", "walked", "place", "state"]
theorem sc_finds_in : FnScope N_finds_in ["words", "walked"] (defScope s_finds_in) := ⟨rfl, rfl, rfl, by decide +kernel, rfl, by decide +kernel, by decide +kernel⟩
abbrev s_walk : Stmt := top 30
def N_walk : List Str := ["words", "table", "text"]
theorem sc_walk : FnScope N_walk ["words", "table", "text"] (defScope s_walk) := ⟨rfl, rfl, rfl, by decide +kernel, rfl, by decide +kernel, by decide +kernel⟩
abbrev s_finds : Stmt := top 31
def N_finds : List Str := ["words", "table", "text"]
theorem sc_finds : FnScope N_finds ["words", "table", "text"] (defScope s_finds) := ⟨rfl, rfl, rfl, by decide +kernel, rfl, by decide +kernel, by decide +kernel⟩
abbrev s_check_order : Stmt := top 33
def N_check_order : List Str := ["order", "word", "index", "place"]
theorem sc_check_order : FnScope N_check_order ["order", "word"] (defScope s_check_order) := ⟨rfl, rfl, rfl, by decide +kernel, rfl, by decide +kernel, by decide +kernel⟩
abbrev s_check_window : Stmt := top 34
def N_check_window : List Str := ["word", "order", "letters"]
theorem sc_check_window : FnScope N_check_window ["word", "order", "letters"] (defScope s_check_window) := ⟨rfl, rfl, rfl, by decide +kernel, rfl, by decide +kernel, by decide +kernel⟩
abbrev s_is_skip : Stmt := top 35
def N_is_skip : List Str := ["thing", "word"]
theorem sc_is_skip : FnScope N_is_skip ["thing", "word"] (defScope s_is_skip) := ⟨rfl, rfl, rfl, by decide +kernel, rfl, by decide +kernel, by decide +kernel⟩
abbrev s_check_skips : Stmt := top 36
def N_check_skips : List Str := ["table", "word", "order", "letters", "look", "row", "others", "letter"]
theorem sc_check_skips : FnScope N_check_skips ["table", "word", "order", "letters"] (defScope s_check_skips) := ⟨rfl, rfl, rfl, by decide +kernel, rfl, by decide +kernel, by decide +kernel⟩
abbrev s_check_all : Stmt := top 37
def N_check_all : List Str := ["word", "order", "letters", "table"]
theorem sc_check_all : FnScope N_check_all ["word", "order", "letters", "table"] (defScope s_check_all) := ⟨rfl, rfl, rfl, by decide +kernel, rfl, by decide +kernel, by decide +kernel⟩
abbrev s_fits : Stmt := top 38
def N_fits : List Str := ["word", "seen", "far", "place", "letter"]
theorem sc_fits : FnScope N_fits ["word", "seen", "far"] (defScope s_fits) := ⟨rfl, rfl, rfl, by decide +kernel, rfl, by decide +kernel, by decide +kernel⟩
abbrev s_safe_skip : Stmt := top 39
def N_safe_skip : List Str := ["word", "seen", "far"]
theorem sc_safe_skip : FnScope N_safe_skip ["word", "seen"] (defScope s_safe_skip) := ⟨rfl, rfl, rfl, by decide +kernel, rfl, by decide +kernel, by decide +kernel⟩
abbrev s_safe_in : Stmt := top 40
def N_safe_in : List Str := ["word", "order", "letters", "seen", "told", "place", "others", "letter"]
theorem sc_safe_in : FnScope N_safe_in ["word", "order", "letters"] (defScope s_safe_in) := ⟨rfl, rfl, rfl, by decide +kernel, rfl, by decide +kernel, by decide +kernel⟩
abbrev s_window_at : Stmt := top 41
def N_window_at : List Str := ["word", "order", "table", "text", "begin", "look", "place", "letter"]
theorem sc_window_at : FnScope N_window_at ["word", "order", "table", "text", "begin"] (defScope s_window_at) := ⟨rfl, rfl, rfl, by decide +kernel, rfl, by decide +kernel, by decide +kernel⟩
abbrev s_search_in : Stmt := top 42
def N_search_in : List Str := ["word", "order", "table", "text", "begin", "told", "looks", "more", "skip", "found"]
theorem sc_search_in : FnScope N_search_in ["word", "order", "table", "text"] (defScope s_search_in) := ⟨rfl, rfl, rfl, by decide +kernel, rfl, by decide +kernel, by decide +kernel⟩
abbrev s_check_over : Stmt := top 43
def N_check_over : List Str := ["text", "letters", "place", "sign"]
theorem sc_check_over : FnScope N_check_over ["text", "letters"] (defScope s_check_over) := ⟨rfl, rfl, rfl, by decide +kernel, rfl, by decide +kernel, by decide +kernel⟩
abbrev s_safe_skips : Stmt := top 44
def N_safe_skips : List Str := ["word", "order", "letters"]
theorem sc_safe_skips : FnScope N_safe_skips ["word", "order", "letters"] (defScope s_safe_skips) := ⟨rfl, rfl, rfl, by decide +kernel, rfl, by decide +kernel, by decide +kernel⟩
abbrev s_finds_by_skips : Stmt := top 45
def N_finds_by_skips : List Str := ["word", "order", "letters", "table", "text"]
theorem sc_finds_by_skips : FnScope N_finds_by_skips ["word", "order", "letters", "table", "text"] (defScope s_finds_by_skips) := ⟨rfl, rfl, rfl, by decide +kernel, rfl, by decide +kernel, by decide +kernel⟩
abbrev s__law_draws : Stmt := top 47
def N__law_draws : List Str := ["_law_cell"]
theorem sc__law_draws : FnScope N__law_draws ["_law_cell"] (defScope s__law_draws) := ⟨rfl, rfl, rfl, by decide +kernel, rfl, by decide +kernel, by decide +kernel⟩
abbrev s__law_next : Stmt := top 48
def N__law_next : List Str := ["_law_draws_here", "_law_k", "_law_number"]
theorem sc__law_next : FnScope N__law_next ["_law_draws_here"] (defScope s__law_next) := ⟨rfl, rfl, rfl, by decide +kernel, rfl, by decide +kernel, by decide +kernel⟩
abbrev s__law_shuffled : Stmt := top 49
def N__law_shuffled : List Str := ["_law_draws_here", "_law_things", "_law_left", "_law_told"]
theorem sc__law_shuffled : FnScope N__law_shuffled ["_law_draws_here", "_law_things"] (defScope s__law_shuffled) := ⟨rfl, rfl, rfl, by decide +kernel, rfl, by decide +kernel, by decide +kernel⟩
abbrev s__law_window : Stmt := top 50
def N__law_window : List Str := ["_law_draws_here", "_law_most", "_law_signs", "_law_long", "_law_noun", "_law_around", "_law_sort", "_law_line", "_law_at"]
theorem sc__law_window : FnScope N__law_window ["_law_draws_here", "_law_most"] (defScope s__law_window) := ⟨rfl, rfl, rfl, by decide +kernel, rfl, by decide +kernel, by decide +kernel⟩
abbrev s__law_over : Stmt := top 55
def N__law_over : List Str := ["_law_draws_here", "_law_noun", "_law_around", "_law_most", "_law_told", "_law_k", "_law_pick", "_law_at"]
theorem sc__law_over : FnScope N__law_over ["_law_draws_here", "_law_noun", "_law_around", "_law_most"] (defScope s__law_over) := ⟨rfl, rfl, rfl, by decide +kernel, rfl, by decide +kernel, by decide +kernel⟩
abbrev s__law_left_right : Stmt := top 56
def N__law_left_right : List Str := ["_law_noun", "_law_around", "_law_rows_here", "_law_told", "_law_look", "_law_sign", "_law_after"]
theorem sc__law_left_right : FnScope N__law_left_right ["_law_noun", "_law_around"] (defScope s__law_left_right) := ⟨rfl, rfl, rfl, by decide +kernel, rfl, by decide +kernel, by decide +kernel⟩
abbrev s__law_back_right : Stmt := top 57
def N__law_back_right : List Str := ["_law_noun", "_law_around", "_law_told", "_law_look", "_law_place", "_law_sign", "_law_seen", "_law_good", "_law_far", "_law_ahead"]
theorem sc__law_back_right : FnScope N__law_back_right ["_law_noun", "_law_around"] (defScope s__law_back_right) := ⟨rfl, rfl, rfl, by decide +kernel, rfl, by decide +kernel, by decide +kernel⟩
abbrev s__law_same_right : Stmt := top 58
def N__law_same_right : List Str := ["_law_draws_here", "_law_noun", "_law_around", "_law_line", "_law_signs", "_law_due", "_law_at", "_law_here"]
theorem sc__law_same_right : FnScope N__law_same_right ["_law_draws_here", "_law_noun", "_law_around"] (defScope s__law_same_right) := ⟨rfl, rfl, rfl, by decide +kernel, rfl, by decide +kernel, by decide +kernel⟩
abbrev s_law : Stmt := top 59
def N_law : List Str := ["_law_script", "_law_draws_here", "_law_noun", "_law_line", "_law_around", "_law_cell"]
theorem sc_law : FnScope N_law ["_law_script"] (defScope s_law) := ⟨rfl, rfl, rfl, by decide +kernel, rfl, by decide +kernel, by decide +kernel⟩
def g_is_whole : SS :=
  (sRet (eAndV (eN (gIs "int") (aCons (eVar 0) aNil)) (eNotV (eN (gIs "bool") (aCons (eVar 0) aNil)))))
def F_is_whole : List Dt → Sto → Option (Dt × Sto) := bodyF g_is_whole 1
theorem ok_is_whole {T : List (Addr × Str)} {P : Program} {w : World} {K : PySem.W.Frag} {mg : Str → Option Value} {base : Heap} {f : Addr} {fd : FuncData} (F : FnP K "is_whole" s_is_whole f fd) (n_bool : mg "bool" = none) (n_int : mg "int" = none) (n_isinstance : mg "isinstance" = none) :
    GFn P w K mg base 1 f fd ["thing"] (SpF T 1 F_is_whole) := by
  refine gfnJ (k := 0) (N := N_is_whole) (ps := ["thing"]) F sc_is_whole fun A outer s H hr hg => ?_
  have sc := sc_is_whole
  have hu := hr.units
  have hu1 := hu_of hr
  exact (jsOne (jsRet (jAnd (jIsi (by rfl) n_isinstance (by rfl) n_int boot_int (jv 0)) (jOne (jNot (jIsi (by rfl) n_isinstance (by rfl) n_bool boot_bool (jv 0)))))))
def g_is_letter : SS :=
  (sRet (eChain gLe gLe (eC (.str "!")) (eVar 0) (eC (.str "~"))))
def F_is_letter : List Dt → Sto → Option (Dt × Sto) := bodyF g_is_letter 1
theorem ok_is_letter {T : List (Addr × Str)} {P : Program} {w : World} {K : PySem.W.Frag} {mg : Str → Option Value} {base : Heap} {f : Addr} {fd : FuncData} (F : FnP K "is_letter" s_is_letter f fd)  :
    GFn P w K mg base 1 f fd ["sign"] (SpF T 1 F_is_letter) := by
  refine gfnJ (k := 0) (N := N_is_letter) (ps := ["sign"]) F sc_is_letter fun A outer s H hr hg => ?_
  have sc := sc_is_letter
  have hu := hr.units
  have hu1 := hu_of hr
  exact (jsOne (jsRet (jChain op_LeA vo_Le op_LeA vo_Le jStr (jv 0) jStr)))
def e1_check_words : SE :=
  (eN (gF 1 (liftV (fV F_is_letter))) (aCons (eVar 3) aNil))
def b2_check_words : SS :=
  (sSeq (sIf (cOr (cNot (cB (eN (gIs "str") (aCons (eVar 2) aNil)))) (cNot (cB (eChain gLe gLe (eC (.int 1)) (eN gLen (aCons (eVar 2) aNil)) (eC (.int 7))))))
  sNo
  sNx)
  (sIf (cOr (cNot (cB (eN gAll (aCons (toV (lc (iE itS (eVar 2)) [3] (kName 3) cYes e1_check_words)) aNil)))) (cOr (cB (eOp2 gNeB (eN gLen (aCons (eVar 2) aNil)) (eN gLen (aCons (eOp2 gIx (eVar 0) (eC (.int 0))) aNil)))) (cB (eOp2 (gInZ false) (eVar 2) (eSl (eVar 0) oNo (oE (eVar 1)))))))
  sNo
  sNx))
def g_check_words : SS :=
  (sSeq (sIf (cOr (cNot (cB (eN (gIs "list") (aCons (eVar 0) aNil)))) (cNot (cB (eChain gLe gLe (eC (.int 1)) (eN gLen (aCons (eVar 0) aNil)) (eC (.int 5))))))
  sNo
  sNx)
  (sFor (iR en (aCons (eVar 0) aNil)) (kTup (ksCons (kName 1) (ksCons (kName 2) ksNil)))
  b2_check_words))
def F_check_words : List Dt → Sto → Option (Dt × Sto) := bodyF g_check_words 4
theorem ok_check_words {T : List (Addr × Str)} {P : Program} {w : World} {K : PySem.W.Frag} {mg : Str → Option Value} {base : Heap} {f : Addr} {fd : FuncData} (F : FnP K "check_words" s_check_words f fd) (cV_is_letter : GP P w K mg base 1 "is_letter" ["sign"] (SpF T 1 (liftV (fV F_is_letter)))) (n_all : mg "all" = none) (n_enumerate : mg "enumerate" = none) (n_isinstance : mg "isinstance" = none) (n_len : mg "len" = none) (n_list : mg "list" = none) (n_str : mg "str" = none) {t_MOST_LETTERS : Tok} (i_MOST_LETTERS : mg "MOST_LETTERS" = some (.int 7 t_MOST_LETTERS)) {t_MOST_WORDS : Tok} (i_MOST_WORDS : mg "MOST_WORDS" = some (.int 5 t_MOST_WORDS)) :
    GFn P w K mg base 2 f fd ["words"] (SpF T 1 F_check_words) := by
  refine gfnJ (k := 1) (N := N_check_words) (ps := ["words"]) F sc_check_words fun A outer s H hr hg => ?_
  have sc := sc_check_words
  have hu := hr.units
  have hu1 := hu_of hr
  exact (jsCons (jsIf (PW.pt (jwOr (jtNot (jtVal (jIsi (by rfl) n_isinstance (by rfl) n_list boot_list (jv 0)))) (jwOr1 (jtNot (jtChain op_LeA vo_Le op_LeA vo_Le jInt (jB call_lenA vo_len (by rfl) n_len boot_len (jCons (jv 0) jNil)) (jGI (by rfl) i_MOST_WORDS))))))
    jsNo
    jsNil)
    (jsOne (jsFor PassesOwn.never rfl sim_g2 (jiEn (by rfl) n_enumerate (jCons (jv 0) jNil)) (jg2 rfl (jg 1 sc.nd) (jg 2 sc.nd))
    (jsCons (jsIf (PW.pt (jwOr (jtNot (jtVal (jIsi (by rfl) n_isinstance (by rfl) n_str boot_str (jv 2)))) (jwOr1 (jtNot (jtChain op_LeA vo_Le op_LeA vo_Le jInt (jB call_lenA vo_len (by rfl) n_len boot_len (jCons (jv 2) jNil)) (jGI (by rfl) i_MOST_LETTERS))))))
    jsNo
    jsNil)
    (jsOne (jsIf (PW.pt (jwOr (jtNot (jtVal (jB (cr_all rfl) vo_all (by rfl) n_all boot_all (jCons (jLcV (own := [("sign", 3)]) rfl sc.nd sim_gname (jiS (jv 2)) (blkOk_by (by rfl)) (fun _ _ _ _ _ => (jg 3 sc.nd)) (fun _ _ _ _ _ => jtNil) (fun _ _ _ _ _ => (jCallP (k := 1) (x := "is_letter") (ps := ["sign"]) (F := (liftV (fV F_is_letter))) (by exact cV_is_letter) (by exact hr.mono (by decide)) (by exact hg) (by rfl) (jCons (jv 3) jNil))) (by decide)) jNil)))) (jwOr (jtCmp (op_NeZ (by exact hr)) vo_NeZ (jB call_lenA vo_len (by rfl) n_len boot_len (jCons (jv 2) jNil)) (jB call_lenA vo_len (by rfl) n_len boot_len (jCons (jIx (by exact hu) (jv 0) jInt) jNil))) (jwOr1 (jtCmp (op_InZ (by exact hu1)) vo_InZ (jv 2) (jSl (jv 0) joNone (joSome (jv 1))))))))
    jsNo
    jsNil))))))
def b1_check_text : SS :=
  (sIf (cNot (cB (eChain gLe gLe (eC (.str " ")) (eVar 2) (eC (.str "~")))))
  sNo
  sNx)
def g_check_text : SS :=
  (sSeq (sIf (cNot (cB (eN (gIs "str") (aCons (eVar 0) aNil))))
  sNo
  sNx)
  (sFor (iR enT (aCons (eVar 0) aNil)) (kTup (ksCons (kName 1) (ksCons (kName 2) ksNil)))
  b1_check_text))
def F_check_text : List Dt → Sto → Option (Dt × Sto) := bodyF g_check_text 3
theorem ok_check_text {T : List (Addr × Str)} {P : Program} {w : World} {K : PySem.W.Frag} {mg : Str → Option Value} {base : Heap} {f : Addr} {fd : FuncData} (F : FnP K "check_text" s_check_text f fd) (n_enumerate : mg "enumerate" = none) (n_isinstance : mg "isinstance" = none) (n_str : mg "str" = none) :
    GFn P w K mg base 1 f fd ["text"] (SpF T 1 F_check_text) := by
  refine gfnJ (k := 0) (N := N_check_text) (ps := ["text"]) F sc_check_text fun A outer s H hr hg => ?_
  have sc := sc_check_text
  have hu := hr.units
  have hu1 := hu_of hr
  exact (jsCons (jsIf (jtNot (jtVal (jIsi (by rfl) n_isinstance (by rfl) n_str boot_str (jv 0))))
    jsNo
    jsNil)
    (jsOne (jsFor PassesOwn.never rfl sim_g2 (jiEnT (by rfl) n_enumerate (jCons (jv 0) jNil)) (jg2 rfl (jg 1 sc.nd) (jg 2 sc.nd))
    (jsOne (jsIf (jtNot (jtChain op_LeA vo_Le op_LeA vo_Le jStr (jv 2) jStr))
    jsNo
    jsNil)))))
def b1_check_letters : SS :=
  (sIf (cOr (cNot (cB (eN (gF 1 (liftV (fV F_is_letter))) (aCons (eVar 3) aNil)))) (cB (eOp2 (gInZ false) (eVar 3) (eSl (eVar 0) oNo (oE (eVar 2))))))
  sNo
  sNx)
def e2_check_letters : SE :=
  (eOp2 (gInZ false) (eVar 3) (eVar 0))
def g_check_letters : SS :=
  (sSeq (sIf (cNot (cB (eN (gIs "str") (aCons (eVar 0) aNil))))
  sNo
  sNx)
  (sSeq (sFor (iR enT (aCons (eVar 0) aNil)) (kTup (ksCons (kName 2) (ksCons (kName 3) ksNil)))
  b1_check_letters)
  (sIf (cNot (cB (eN gAll (aCons (toV (lc2 (iE itL (eVar 1)) [4, 3] (kName 4) cYes (eVar 4) [3] (kName 3) cYes e2_check_letters)) aNil))))
  sNo
  sNx)))
def F_check_letters : List Dt → Sto → Option (Dt × Sto) := bodyF g_check_letters 5
theorem ok_check_letters {T : List (Addr × Str)} {P : Program} {w : World} {K : PySem.W.Frag} {mg : Str → Option Value} {base : Heap} {f : Addr} {fd : FuncData} (F : FnP K "check_letters" s_check_letters f fd) (cV_is_letter : GP P w K mg base 1 "is_letter" ["sign"] (SpF T 1 (liftV (fV F_is_letter)))) (n_all : mg "all" = none) (n_enumerate : mg "enumerate" = none) (n_isinstance : mg "isinstance" = none) (n_str : mg "str" = none) :
    GFn P w K mg base 2 f fd ["letters", "words"] (SpF T 2 F_check_letters) := by
  refine gfnJ (k := 1) (N := N_check_letters) (ps := ["letters", "words"]) F sc_check_letters fun A outer s H hr hg => ?_
  have sc := sc_check_letters
  have hu := hr.units
  have hu1 := hu_of hr
  exact (jsCons (jsIf (jtNot (jtVal (jIsi (by rfl) n_isinstance (by rfl) n_str boot_str (jv 0))))
    jsNo
    jsNil)
    (jsCons (jsFor PassesOwn.never rfl sim_g2 (jiEnT (by rfl) n_enumerate (jCons (jv 0) jNil)) (jg2 rfl (jg 2 sc.nd) (jg 3 sc.nd))
    (jsOne (jsIf (PW.pt (jwOr (jtNot (jtVal (jCallP (k := 1) (x := "is_letter") (ps := ["sign"]) (F := (liftV (fV F_is_letter))) (by exact cV_is_letter) (by exact hr.mono (by decide)) (by exact hg) (by rfl) (jCons (jv 3) jNil)))) (jwOr1 (jtCmp (op_InZ (by exact hu1)) vo_InZ (jv 3) (jSl (jv 0) joNone (joSome (jv 2)))))))
    jsNo
    jsNil)))
    (jsOne (jsIf (jtNot (jtVal (jB (cr_all rfl) vo_all (by rfl) n_all boot_all (jCons (jLc2V (own := [("word", 4), ("sign", 3)]) (vs1 := [3]) rfl sc.nd sim_gname sim_gname (jiL (jv 1)) (blkOk_by (by rfl)) (by decide) (fun _ _ _ _ _ => (jg 4 sc.nd)) (fun _ _ _ _ _ => jtNil) (fun _ _ _ _ _ => (jv 4)) (fun _ _ _ _ _ => (jg 3 sc.nd)) (fun _ _ _ _ _ => jtNil) (fun _ _ _ _ _ => (jCmp (op_InZ (by exact hu1)) vo_InZ (jv 3) (jv 0))) (by decide) (by decide)) jNil))))
    jsNo
    jsNil))))
def b1_all_states : SS :=
  (sDP (eVar 1) (eSl (eVar 2) oNo (oE (eVar 3))) (eC (.bl true)))
def b2_all_states : SS :=
  (sFor (iR rg1 (aCons (eOp2 gAdd (eN gLen (aCons (eVar 2) aNil)) (eC (.int 1))) aNil)) (kName 3)
  b1_all_states)
def g_all_states : SS :=
  (sSeq (sSet 1 eDR)
  (sSeq (sFor (iE itL (eVar 0)) (kName 2)
  b2_all_states)
  (sRet (eSortK (eVar 1)))))
def F_all_states : List Dt → Sto → Option (Dt × Sto) := bodyF g_all_states 4
theorem ok_all_states {T : List (Addr × Str)} {P : Program} {w : World} {K : PySem.W.Frag} {mg : Str → Option Value} {base : Heap} {f : Addr} {fd : FuncData} (F : FnP K "all_states" s_all_states f fd) {c R : Addr} (TB : LamX.TabB base mg c R) (hcode : fd.code = .ref c) (hmT : (R, ("all_states" : Str) ++ ".<locals>." ++ "<lambda>") ∈ T) (huT : ∀ p ∈ T, p.1 = R → p.2 = ("all_states" : Str) ++ ".<locals>." ++ "<lambda>") (n_len : mg "len" = none) (n_range : mg "range" = none) (n_sorted : mg "sorted" = none) :
    GFn P w K mg base 3 f fd ["words"] (SpF T 1 F_all_states) := by
  refine gfnJ (k := 2) (N := N_all_states) (ps := ["words"]) F sc_all_states fun A outer s H hr hg => ?_
  have sc := sc_all_states
  have hu := hr.units
  have hu1 := hu_of hr
  exact (jsCons (jsSet (i := 1) sc.nd jDR)
    (jsCons (jsFor PassesOwn.never rfl sim_gname (jiL (jv 0)) (jg 2 sc.nd)
    (jsOne (jsFor PassesOwn.never rfl sim_gname (jiR1 (by rfl) n_range (jCons (jAdd (jB call_lenA vo_len (by rfl) n_len boot_len (jCons (jv 2) jNil)) jInt) jNil)) (jg 3 sc.nd)
    (jsOne (jsDP (by exact hu) (jv 1) (jSl (jv 2) joNone (joSome (jv 3))) jBl)))))
    (jsOne (jsRet (jSortK (k := 0) (by exact TB) (by exact hcode) (by exact hmT) (by exact huT) (by exact hr.mono (by decide)) (by rfl) n_sorted n_len (jv 1))))))
def e1_letters_behind : SE :=
  (eOp2 gIx (eVar 3) (eNeg (eC (.int 1))))
def c1_letters_behind : ST :=
  (cAnd (cB (eOp2 gNeB (eVar 3) (eC (.str "")))) (cB (eOp2 gEqB (eSl (eVar 3) oNo (oE (eNeg (eC (.int 1))))) (eVar 2))))
def v2_letters_behind : SE :=
  (toV (lc (iE itL (eVar 1)) [3] (kName 3) c1_letters_behind e1_letters_behind))
def g_letters_behind : SS :=
  (sSeq (sSet 1 (eN (gF 1 (liftV (fV F_all_states))) (aCons (eVar 0) aNil)))
  (sRet (dToR (dc (iE itL (eVar 1)) [2] (kName 2) cYes (eVar 2) v2_letters_behind))))
def F_letters_behind : List Dt → Sto → Option (Dt × Sto) := bodyF g_letters_behind 4
theorem ok_letters_behind {T : List (Addr × Str)} {P : Program} {w : World} {K : PySem.W.Frag} {mg : Str → Option Value} {base : Heap} {f : Addr} {fd : FuncData} (F : FnP K "letters_behind" s_letters_behind f fd) (cV_all_states : GP P w K mg base 3 "all_states" ["words"] (SpF T 1 (liftV (fV F_all_states)))) :
    GFn P w K mg base 4 f fd ["words"] (SpF T 1 F_letters_behind) := by
  refine gfnJ (k := 3) (N := N_letters_behind) (ps := ["words"]) F sc_letters_behind fun A outer s H hr hg => ?_
  have sc := sc_letters_behind
  have hu := hr.units
  have hu1 := hu_of hr
  exact (jsCons (jsSet (i := 1) sc.nd (jCallP (k := 3) (x := "all_states") (ps := ["words"]) (F := (liftV (fV F_all_states))) (by exact cV_all_states) (by exact hr.mono (by decide)) (by exact hg) (by rfl) (jCons (jv 0) jNil)))
    (jsOne (jsRet (jDcR (own := [("state", 2)]) rfl sc.nd sim_gname (jiL (jv 1)) (blkOk_by (by rfl)) (fun _ _ _ _ _ => (jg 2 sc.nd)) (fun _ _ _ _ _ => jtNil) (fun _ _ _ _ _ => (jv 2)) (fun _ _ _ _ _ => (jLcV (own := [("other", 3)]) rfl sc.nd sim_gname (jiL (jv 1)) (blkOk_by (by rfl)) (fun _ _ _ _ _ => (jg 3 sc.nd)) (fun _ _ _ _ _ => (jtOne (PW.pt (jwAnd (jtCmp (op_NeZ (by exact hr)) vo_NeZ (jv 3) jStr) (jwAnd1 (jtCmp (op_EqZ (by exact hr)) vo_EqZ (jSl (jv 3) joNone (joSome (jNeg jInt))) (jv 2))))))) (fun _ _ _ _ _ => (jIx (by exact hu) (jv 3) (jNeg jInt))) (by decide))) (by decide)))))
def g_check_state : SS :=
  (sIf (cOr (cNot (cB (eN (gIs "str") (aCons (eVar 0) aNil)))) (cB (eOp2 (gInZ true) (eVar 0) (eN (gF 1 (liftV (fV F_all_states))) (aCons (eVar 1) aNil)))))
  sNo
  sNx)
def F_check_state : List Dt → Sto → Option (Dt × Sto) := bodyF g_check_state 2
theorem ok_check_state {T : List (Addr × Str)} {P : Program} {w : World} {K : PySem.W.Frag} {mg : Str → Option Value} {base : Heap} {f : Addr} {fd : FuncData} (F : FnP K "check_state" s_check_state f fd) (cV_all_states : GP P w K mg base 3 "all_states" ["words"] (SpF T 1 (liftV (fV F_all_states)))) (n_isinstance : mg "isinstance" = none) (n_str : mg "str" = none) :
    GFn P w K mg base 4 f fd ["state", "words"] (SpF T 2 F_check_state) := by
  refine gfnJ (k := 3) (N := N_check_state) (ps := ["state", "words"]) F sc_check_state fun A outer s H hr hg => ?_
  have sc := sc_check_state
  have hu := hr.units
  have hu1 := hu_of hr
  exact (jsOne (jsIf (PW.pt (jwOr (jtNot (jtVal (jIsi (by rfl) n_isinstance (by rfl) n_str boot_str (jv 0)))) (jwOr1 (jtCmp (op_NotInZ (by exact hu1)) vo_InZ (jv 0) (jCallP (k := 3) (x := "all_states") (ps := ["words"]) (F := (liftV (fV F_all_states))) (by exact cV_all_states) (by exact hr.mono (by decide)) (by exact hg) (by rfl) (jCons (jv 1) jNil))))))
    jsNo
    jsNil))
def e1_ends_in : SE :=
  (eVar 2)
def c1_ends_in : ST :=
  (cAnd (cB (eOp2 gLt (eN gLen (aCons (eVar 2) aNil)) (eN gLen (aCons (eVar 1) aNil)))) (cB (eM isS gEnds (eVar 1) (aCons (eVar 2) aNil))))
def g_ends_in : SS :=
  (sRet (toR (lc (iE itL (eN (gF 1 (liftV (fV F_all_states))) (aCons (eVar 0) aNil))) [2] (kName 2) c1_ends_in e1_ends_in)))
def F_ends_in : List Dt → Sto → Option (Dt × Sto) := bodyF g_ends_in 3
theorem ok_ends_in {T : List (Addr × Str)} {P : Program} {w : World} {K : PySem.W.Frag} {mg : Str → Option Value} {base : Heap} {f : Addr} {fd : FuncData} (F : FnP K "ends_in" s_ends_in f fd) (cV_all_states : GP P w K mg base 3 "all_states" ["words"] (SpF T 1 (liftV (fV F_all_states)))) (n_len : mg "len" = none) :
    GFn P w K mg base 4 f fd ["words", "state"] (SpF T 2 F_ends_in) := by
  refine gfnJ (k := 3) (N := N_ends_in) (ps := ["words", "state"]) F sc_ends_in fun A outer s H hr hg => ?_
  have sc := sc_ends_in
  have hu := hr.units
  have hu1 := hu_of hr
  exact (jsOne (jsRet (jLcR (own := [("other", 2)]) rfl sc.nd sim_gname (jiL (jCallP (k := 3) (x := "all_states") (ps := ["words"]) (F := (liftV (fV F_all_states))) (by exact cV_all_states) (by exact hr.mono (by decide)) (by exact hg) (by rfl) (jCons (jv 0) jNil))) (blkOk_by (by rfl)) (fun _ _ _ _ _ => (jg 2 sc.nd)) (fun _ _ _ _ _ => (jtOne (PW.pt (jwAnd (jtCmp op_lt vLt (jB call_lenA vo_len (by rfl) n_len boot_len (jCons (jv 2) jNil)) (jB call_lenA vo_len (by rfl) n_len boot_len (jCons (jv 1) jNil))) (jwAnd1 (jtVal (jEnds (jv 1) (jCons (jv 2) jNil)))))))) (fun _ _ _ _ _ => (jv 2)) (by decide))))
def g_ends : SS :=
  (sSeq (sEx (eN (gF 1 (liftV (fV F_check_words))) (aCons (eVar 0) aNil)))
  (sSeq (sEx (eN (gF 2 (liftV (fV F_check_state))) (aCons (eVar 1) (aCons (eVar 0) aNil))))
  (sRet (eN (gF 2 (liftV (fV F_ends_in))) (aCons (eVar 0) (aCons (eVar 1) aNil))))))
def F_ends : List Dt → Sto → Option (Dt × Sto) := bodyF g_ends 2
theorem ok_ends {T : List (Addr × Str)} {P : Program} {w : World} {K : PySem.W.Frag} {mg : Str → Option Value} {base : Heap} {f : Addr} {fd : FuncData} (F : FnP K "ends" s_ends f fd) (cV_check_words : GP P w K mg base 2 "check_words" ["words"] (SpF T 1 (liftV (fV F_check_words)))) (cV_check_state : GP P w K mg base 4 "check_state" ["state", "words"] (SpF T 2 (liftV (fV F_check_state)))) (cV_ends_in : GP P w K mg base 4 "ends_in" ["words", "state"] (SpF T 2 (liftV (fV F_ends_in)))) :
    GFn P w K mg base 5 f fd ["words", "state"] (SpF T 2 F_ends) := by
  refine gfnJ (k := 4) (N := N_ends) (ps := ["words", "state"]) F sc_ends fun A outer s H hr hg => ?_
  have sc := sc_ends
  have hu := hr.units
  have hu1 := hu_of hr
  exact (jsCons (jsEx (jCallP (k := 2) (x := "check_words") (ps := ["words"]) (F := (liftV (fV F_check_words))) (by exact cV_check_words) (by exact hr.mono (by decide)) (by exact hg) (by rfl) (jCons (jv 0) jNil)))
    (jsCons (jsEx (jCallP (k := 4) (x := "check_state") (ps := ["state", "words"]) (F := (liftV (fV F_check_state))) (by exact cV_check_state) (by exact hr.mono (by decide)) (by exact hg) (by rfl) (jCons (jv 1) (jCons (jv 0) jNil))))
    (jsOne (jsRet (jCallP (k := 4) (x := "ends_in") (ps := ["words", "state"]) (F := (liftV (fV F_ends_in))) (by exact cV_ends_in) (by exact hr.mono (by decide)) (by exact hg) (by rfl) (jCons (jv 0) (jCons (jv 1) jNil)))))))
def e1_check_table : SE :=
  (eOp2 (gInZ false) (eVar 3) (eVar 0))
def b2_check_table : SS :=
  (sSeq (sSet 4 (eOp2 gIx (eVar 0) (eVar 3)))
  (sIf (cOr (cNot (cB (eN (gIs "str") (aCons (eVar 4) aNil)))) (cOr (cB (eOp2 (gInZ true) (eVar 4) (eVar 2))) (cB (eOp2 gGe (eN gLen (aCons (eVar 4) aNil)) (eN gLen (aCons (eVar 3) aNil))))))
  sNo
  sNx))
def g_check_table : SS :=
  (sSeq (sSet 2 (eN (gF 1 (liftV (fV F_all_states))) (aCons (eVar 1) aNil)))
  (sSeq (sIf (cOr (cNot (cB (eN (gIs "dict") (aCons (eVar 0) aNil)))) (cOr (cB (eOp2 gNeB (eN gLen (aCons (eVar 0) aNil)) (eOp2 gMin (eN gLen (aCons (eVar 2) aNil)) (eC (.int 1))))) (cNot (cB (eN gAll (aCons (toV (lc (iE itL (eSl (eVar 2) (oE (eC (.int 1))) oNo)) [3] (kName 3) cYes e1_check_table)) aNil))))))
  sNo
  sNx)
  (sFor (iE itL (eSl (eVar 2) (oE (eC (.int 1))) oNo)) (kName 3)
  b2_check_table)))
def F_check_table : List Dt → Sto → Option (Dt × Sto) := bodyF g_check_table 5
theorem ok_check_table {T : List (Addr × Str)} {P : Program} {w : World} {K : PySem.W.Frag} {mg : Str → Option Value} {base : Heap} {f : Addr} {fd : FuncData} (F : FnP K "check_table" s_check_table f fd) (cV_all_states : GP P w K mg base 3 "all_states" ["words"] (SpF T 1 (liftV (fV F_all_states)))) (n_all : mg "all" = none) (n_dict : mg "dict" = none) (n_isinstance : mg "isinstance" = none) (n_len : mg "len" = none) (n_str : mg "str" = none) :
    GFn P w K mg base 4 f fd ["table", "words"] (SpF T 2 F_check_table) := by
  refine gfnJ (k := 3) (N := N_check_table) (ps := ["table", "words"]) F sc_check_table fun A outer s H hr hg => ?_
  have sc := sc_check_table
  have hu := hr.units
  have hu1 := hu_of hr
  exact (jsCons (jsSet (i := 2) sc.nd (jCallP (k := 3) (x := "all_states") (ps := ["words"]) (F := (liftV (fV F_all_states))) (by exact cV_all_states) (by exact hr.mono (by decide)) (by exact hg) (by rfl) (jCons (jv 1) jNil)))
    (jsCons (jsIf (PW.pt (jwOr (jtNot (jtVal (jIsi (by rfl) n_isinstance (by rfl) n_dict boot_dict (jv 0)))) (jwOr (jtCmp (op_NeZ (by exact hr)) vo_NeZ (jB call_lenA vo_len (by rfl) n_len boot_len (jCons (jv 0) jNil)) (jMin (jB call_lenA vo_len (by rfl) n_len boot_len (jCons (jv 2) jNil)) jInt)) (jwOr1 (jtNot (jtVal (jB (cr_all rfl) vo_all (by rfl) n_all boot_all (jCons (jLcV (own := [("state", 3)]) rfl sc.nd sim_gname (jiL (jSl (jv 2) (joSome jInt) joNone)) (blkOk_by (by rfl)) (fun _ _ _ _ _ => (jg 3 sc.nd)) (fun _ _ _ _ _ => jtNil) (fun _ _ _ _ _ => (jCmp (op_InZ (by exact hu1)) vo_InZ (jv 3) (jv 0))) (by decide)) jNil))))))))
    jsNo
    jsNil)
    (jsOne (jsFor PassesOwn.never rfl sim_gname (jiL (jSl (jv 2) (joSome jInt) joNone)) (jg 3 sc.nd)
    (jsCons (jsSet (i := 4) sc.nd (jIx (by exact hu) (jv 0) (jv 3)))
    (jsOne (jsIf (PW.pt (jwOr (jtNot (jtVal (jIsi (by rfl) n_isinstance (by rfl) n_str boot_str (jv 4)))) (jwOr (jtCmp (op_NotInZ (by exact hu1)) vo_InZ (jv 4) (jv 2)) (jwOr1 (jtCmp op_ge vGe (jB call_lenA vo_len (by rfl) n_len boot_len (jCons (jv 4) jNil)) (jB call_lenA vo_len (by rfl) n_len boot_len (jCons (jv 3) jNil)))))))
    jsNo
    jsNil)))))))
def g_check_search : SS :=
  (sSeq (sEx (eN (gF 1 (liftV (fV F_check_words))) (aCons (eVar 0) aNil)))
  (sEx (eN (gF 2 (liftV (fV F_check_table))) (aCons (eVar 1) (aCons (eVar 0) aNil)))))
def F_check_search : List Dt → Sto → Option (Dt × Sto) := bodyF g_check_search 2
theorem ok_check_search {T : List (Addr × Str)} {P : Program} {w : World} {K : PySem.W.Frag} {mg : Str → Option Value} {base : Heap} {f : Addr} {fd : FuncData} (F : FnP K "check_search" s_check_search f fd) (cV_check_words : GP P w K mg base 2 "check_words" ["words"] (SpF T 1 (liftV (fV F_check_words)))) (cV_check_table : GP P w K mg base 4 "check_table" ["table", "words"] (SpF T 2 (liftV (fV F_check_table)))) :
    GFn P w K mg base 5 f fd ["words", "table"] (SpF T 2 F_check_search) := by
  refine gfnJ (k := 4) (N := N_check_search) (ps := ["words", "table"]) F sc_check_search fun A outer s H hr hg => ?_
  have sc := sc_check_search
  have hu := hr.units
  have hu1 := hu_of hr
  exact (jsCons (jsEx (jCallP (k := 2) (x := "check_words") (ps := ["words"]) (F := (liftV (fV F_check_words))) (by exact cV_check_words) (by exact hr.mono (by decide)) (by exact hg) (by rfl) (jCons (jv 0) jNil)))
    (jsOne (jsEx (jCallP (k := 4) (x := "check_table") (ps := ["table", "words"]) (F := (liftV (fV F_check_table))) (by exact cV_check_table) (by exact hr.mono (by decide)) (by exact hg) (by rfl) (jCons (jv 1) (jCons (jv 0) jNil))))))
def v1_true_in : SE :=
  (eOp2 gIx (eN (gF 2 (liftV (fV F_ends_in))) (aCons (eVar 0) (aCons (eVar 1) aNil))) (eNeg (eC (.int 1))))
def g_true_in : SS :=
  (sRet (dToR (dc (iE itL (eSl (eN (gF 1 (liftV (fV F_all_states))) (aCons (eVar 0) aNil)) (oE (eC (.int 1))) oNo)) [1] (kName 1) cYes (eVar 1) v1_true_in)))
def F_true_in : List Dt → Sto → Option (Dt × Sto) := bodyF g_true_in 2
theorem ok_true_in {T : List (Addr × Str)} {P : Program} {w : World} {K : PySem.W.Frag} {mg : Str → Option Value} {base : Heap} {f : Addr} {fd : FuncData} (F : FnP K "true_in" s_true_in f fd) (cV_all_states : GP P w K mg base 3 "all_states" ["words"] (SpF T 1 (liftV (fV F_all_states)))) (cV_ends_in : GP P w K mg base 4 "ends_in" ["words", "state"] (SpF T 2 (liftV (fV F_ends_in)))) :
    GFn P w K mg base 5 f fd ["words"] (SpF T 1 F_true_in) := by
  refine gfnJ (k := 4) (N := N_true_in) (ps := ["words"]) F sc_true_in fun A outer s H hr hg => ?_
  have sc := sc_true_in
  have hu := hr.units
  have hu1 := hu_of hr
  exact (jsOne (jsRet (jDcR (own := [("state", 1)]) rfl sc.nd sim_gname (jiL (jSl (jCallP (k := 3) (x := "all_states") (ps := ["words"]) (F := (liftV (fV F_all_states))) (by exact cV_all_states) (by exact hr.mono (by decide)) (by exact hg) (by rfl) (jCons (jv 0) jNil)) (joSome jInt) joNone)) (blkOk_by (by rfl)) (fun _ _ _ _ _ => (jg 1 sc.nd)) (fun _ _ _ _ _ => jtNil) (fun _ _ _ _ _ => (jv 1)) (fun _ _ _ _ _ => (jIx (by exact hu) (jCallP (k := 4) (x := "ends_in") (ps := ["words", "state"]) (F := (liftV (fV F_ends_in))) (by exact cV_ends_in) (by exact hr.mono (by decide)) (by exact hg) (by rfl) (jCons (jv 0) (jCons (jv 1) jNil))) (jNeg jInt))) (by decide))))
def g_true_table : SS :=
  (sSeq (sEx (eN (gF 1 (liftV (fV F_check_words))) (aCons (eVar 0) aNil)))
  (sRet (eN (gF 1 (liftR (fR F_true_in))) (aCons (eVar 0) aNil))))
def F_true_table : List Dt → Sto → Option (Dt × Sto) := bodyF g_true_table 1
theorem ok_true_table {T : List (Addr × Str)} {P : Program} {w : World} {K : PySem.W.Frag} {mg : Str → Option Value} {base : Heap} {f : Addr} {fd : FuncData} (F : FnP K "true_table" s_true_table f fd) (cV_check_words : GP P w K mg base 2 "check_words" ["words"] (SpF T 1 (liftV (fV F_check_words)))) (cR_true_in : GP P w K mg base 5 "true_in" ["words"] (SpF T 1 (liftR (fR F_true_in)))) :
    GFn P w K mg base 6 f fd ["words"] (SpF T 1 F_true_table) := by
  refine gfnJ (k := 5) (N := N_true_table) (ps := ["words"]) F sc_true_table fun A outer s H hr hg => ?_
  have sc := sc_true_table
  have hu := hr.units
  have hu1 := hu_of hr
  exact (jsCons (jsEx (jCallP (k := 2) (x := "check_words") (ps := ["words"]) (F := (liftV (fV F_check_words))) (by exact cV_check_words) (by exact hr.mono (by decide)) (by exact hg) (by rfl) (jCons (jv 0) jNil)))
    (jsOne (jsRet (jCallP (k := 5) (x := "true_in") (ps := ["words"]) (F := (liftR (fR F_true_in))) (by exact cR_true_in) (by exact hr.mono (by decide)) (by exact hg) (by rfl) (jCons (jv 0) jNil)))))
def b1_step_from : SS :=
  (sSeq (sIf (cB (eOp2 gEqB (eVar 2) (eC (.str ""))))
  (sRet (toT (aCons (eC (.str "")) (aCons (eVar 4) aNil))))
  sNx)
  (sPar [2, 4] (aCons (eOp2 gIx (eVar 1) (eVar 2)) (aCons (eOp2 gAdd (eVar 4) (eC (.int 1))) aNil))))
def w1_step_from : ST :=
  (cB (eOp2 (gInZ true) (eVar 3) (eOp2 gIx (eVar 0) (eVar 2))))
def g_step_from : SS :=
  (sSeq (sIf (cB (eOp2 gEqB (eOp2 gIx (eVar 0) (eVar 2)) (toV (small aNil))))
  (sSet 2 (eOp2 gIx (eVar 1) (eVar 2)))
  sNx)
  (sSeq (sSet 4 (eC (.int 1)))
  (sSeq (sWh w1_step_from b1_step_from 1000)
  (sRet (toT (aCons (eOp2 gAdd (eVar 2) (eVar 3)) (aCons (eVar 4) aNil)))))))
def F_step_from : List Dt → Sto → Option (Dt × Sto) := bodyF g_step_from 5
theorem ok_step_from {T : List (Addr × Str)} {P : Program} {w : World} {K : PySem.W.Frag} {mg : Str → Option Value} {base : Heap} {f : Addr} {fd : FuncData} (F : FnP K "step_from" s_step_from f fd)  :
    GFn P w K mg base 1 f fd ["behind", "table", "state", "letter"] (SpF T 4 F_step_from) := by
  refine gfnJ (k := 0) (N := N_step_from) (ps := ["behind", "table", "state", "letter"]) F sc_step_from fun A outer s H hr hg => ?_
  have sc := sc_step_from
  have hu := hr.units
  have hu1 := hu_of hr
  exact (jsCons (jsIf (jtCmp (op_EqZ (by exact hr)) vo_EqZ (jIx (by exact hu) (jv 0) (jv 2)) (jLstV jNil))
    (jsOne (jsSet (i := 2) sc.nd (jIx (by exact hu) (jv 1) (jv 2))))
    jsNil)
    (jsCons (jsSet (i := 4) sc.nd jInt)
    (jsCons (jsWh 1000 (jtCmp (op_NotInZ (by exact hu1)) vo_InZ (jv 3) (jIx (by exact hu) (jv 0) (jv 2)))
    (jsCons (jsIf (jtCmp (op_EqZ (by exact hr)) vo_EqZ (jv 2) jStr)
    (jsOne (jsRet (jTup (jCons jStr (jCons (jv 4) jNil)))))
    jsNil)
    (jsOne (jsPar2 (i := 2) (j := 4) rfl sc.nd (jCons (jIx (by exact hu) (jv 1) (jv 2)) (jCons (jAdd (jv 4) jInt) jNil))))))
    (jsOne (jsRet (jTup (jCons (jAdd (jv 2) (jv 3)) (jCons (jv 4) jNil))))))))
def b1_walk_in : SS :=
  (sSeq (sAsg (kTup (ksCons (kName 4) (ksCons (kName 8) ksNil))) (eN (gF 4 (liftV (fV F_step_from))) (aCons (eVar 3) (aCons (eVar 1) (aCons (eVar 4) (aCons (eVar 7) aNil))))))
  (sSeq (sAug 5 gAugA (eVar 8))
  (sEx (eM isL gApp (eVar 6) (aCons (eVar 4) aNil)))))
def g_walk_in : SS :=
  (sSeq (sAsg (kTup (ksCons (kName 3) (ksCons (kName 4) (ksCons (kName 5) (ksCons (kName 6) ksNil))))) (toT (aCons (eN (gF 1 (liftV (fV F_letters_behind))) (aCons (eVar 0) aNil)) (aCons (eC (.str "")) (aCons (eC (.int 0)) (aCons (toR (small aNil)) aNil))))))
  (sSeq (sFor (iE itS (eVar 2)) (kName 7)
  b1_walk_in)
  (sRet (toT (aCons (eVar 6) (aCons (eVar 5) aNil))))))
def F_walk_in : List Dt → Sto → Option (Dt × Sto) := bodyF g_walk_in 9
theorem ok_walk_in {T : List (Addr × Str)} {P : Program} {w : World} {K : PySem.W.Frag} {mg : Str → Option Value} {base : Heap} {f : Addr} {fd : FuncData} (F : FnP K "walk_in" s_walk_in f fd) (cV_letters_behind : GP P w K mg base 4 "letters_behind" ["words"] (SpF T 1 (liftV (fV F_letters_behind)))) (cV_step_from : GP P w K mg base 1 "step_from" ["behind", "table", "state", "letter"] (SpF T 4 (liftV (fV F_step_from)))) :
    GFn P w K mg base 5 f fd ["words", "table", "text"] (SpF T 3 F_walk_in) := by
  refine gfnJ (k := 4) (N := N_walk_in) (ps := ["words", "table", "text"]) F sc_walk_in fun A outer s H hr hg => ?_
  have sc := sc_walk_in
  have hu := hr.units
  have hu1 := hu_of hr
  exact (jsCons (jsAsg sim_g4 (jTup (jCons (jCallP (k := 4) (x := "letters_behind") (ps := ["words"]) (F := (liftV (fV F_letters_behind))) (by exact cV_letters_behind) (by exact hr.mono (by decide)) (by exact hg) (by rfl) (jCons (jv 0) jNil)) (jCons jStr (jCons jInt (jCons (jLstR jNil) jNil))))) (jg4 rfl (jg 3 sc.nd) (jg 4 sc.nd) (jg 5 sc.nd) (jg 6 sc.nd)))
    (jsCons (jsFor PassesOwn.never rfl sim_gname (jiS (jv 2)) (jg 7 sc.nd)
    (jsCons (jsAsg sim_g2 (jCallP (k := 1) (x := "step_from") (ps := ["behind", "table", "state", "letter"]) (F := (liftV (fV F_step_from))) (by exact cV_step_from) (by exact hr.mono (by decide)) (by exact hg) (by rfl) (jCons (jv 3) (jCons (jv 1) (jCons (jv 4) (jCons (jv 7) jNil))))) (jg2 rfl (jg 4 sc.nd) (jg 8 sc.nd)))
    (jsCons (jsAugZ (i := 5) sc.nd (jv 8))
    (jsOne (jsEx (jApp (jv 6) (jCons (jv 4) jNil)))))))
    (jsOne (jsRet (jTup (jCons (jv 6) (jCons (jv 5) jNil)))))))
def e1_finds_in : SE :=
  (toT (aCons (eOp2 gAdd (eVar 2) (eC (.int 1))) (aCons (eVar 3) aNil)))
def c1_finds_in : ST :=
  (cB (eOp2 (gInZ false) (eVar 3) (eVar 0)))
def g_finds_in : SS :=
  (sRet (toR (lc (iR en (aCons (eVar 1) aNil)) [2, 3] (kTup (ksCons (kName 2) (ksCons (kName 3) ksNil))) c1_finds_in e1_finds_in)))
def F_finds_in : List Dt → Sto → Option (Dt × Sto) := bodyF g_finds_in 4
theorem ok_finds_in {T : List (Addr × Str)} {P : Program} {w : World} {K : PySem.W.Frag} {mg : Str → Option Value} {base : Heap} {f : Addr} {fd : FuncData} (F : FnP K "finds_in" s_finds_in f fd) (n_enumerate : mg "enumerate" = none) :
    GFn P w K mg base 1 f fd ["words", "walked"] (SpF T 2 F_finds_in) := by
  refine gfnJ (k := 0) (N := N_finds_in) (ps := ["words", "walked"]) F sc_finds_in fun A outer s H hr hg => ?_
  have sc := sc_finds_in
  have hu := hr.units
  have hu1 := hu_of hr
  exact (jsOne (jsRet (jLcR (own := [("place", 2), ("state", 3)]) rfl sc.nd sim_g2 (jiEn (by rfl) n_enumerate (jCons (jv 1) jNil)) (blkOk_by (by rfl)) (fun _ _ _ _ _ => (jg2 rfl (jg 2 sc.nd) (jg 3 sc.nd))) (fun _ _ _ _ _ => (jtOne (jtCmp (op_InZ (by exact hu1)) vo_InZ (jv 3) (jv 0)))) (fun _ _ _ _ _ => (jTup (jCons (jAdd (jv 2) jInt) (jCons (jv 3) jNil)))) (by decide))))
def g_walk : SS :=
  (sSeq (sEx (eN (gF 2 (liftV (fV F_check_search))) (aCons (eVar 0) (aCons (eVar 1) aNil))))
  (sSeq (sEx (eN (gF 1 (liftV (fV F_check_text))) (aCons (eVar 2) aNil)))
  (sRet (eOp2 gIx (eN (gF 3 (liftV (fV F_walk_in))) (aCons (eVar 0) (aCons (eVar 1) (aCons (eVar 2) aNil)))) (eC (.int 0))))))
def F_walk : List Dt → Sto → Option (Dt × Sto) := bodyF g_walk 3
theorem ok_walk {T : List (Addr × Str)} {P : Program} {w : World} {K : PySem.W.Frag} {mg : Str → Option Value} {base : Heap} {f : Addr} {fd : FuncData} (F : FnP K "walk" s_walk f fd) (cV_check_search : GP P w K mg base 5 "check_search" ["words", "table"] (SpF T 2 (liftV (fV F_check_search)))) (cV_check_text : GP P w K mg base 1 "check_text" ["text"] (SpF T 1 (liftV (fV F_check_text)))) (cV_walk_in : GP P w K mg base 5 "walk_in" ["words", "table", "text"] (SpF T 3 (liftV (fV F_walk_in)))) :
    GFn P w K mg base 6 f fd ["words", "table", "text"] (SpF T 3 F_walk) := by
  refine gfnJ (k := 5) (N := N_walk) (ps := ["words", "table", "text"]) F sc_walk fun A outer s H hr hg => ?_
  have sc := sc_walk
  have hu := hr.units
  have hu1 := hu_of hr
  exact (jsCons (jsEx (jCallP (k := 5) (x := "check_search") (ps := ["words", "table"]) (F := (liftV (fV F_check_search))) (by exact cV_check_search) (by exact hr.mono (by decide)) (by exact hg) (by rfl) (jCons (jv 0) (jCons (jv 1) jNil))))
    (jsCons (jsEx (jCallP (k := 1) (x := "check_text") (ps := ["text"]) (F := (liftV (fV F_check_text))) (by exact cV_check_text) (by exact hr.mono (by decide)) (by exact hg) (by rfl) (jCons (jv 2) jNil)))
    (jsOne (jsRet (jIx (by exact hu) (jCallP (k := 5) (x := "walk_in") (ps := ["words", "table", "text"]) (F := (liftV (fV F_walk_in))) (by exact cV_walk_in) (by exact hr.mono (by decide)) (by exact hg) (by rfl) (jCons (jv 0) (jCons (jv 1) (jCons (jv 2) jNil)))) jInt)))))
def g_finds : SS :=
  (sSeq (sEx (eN (gF 2 (liftV (fV F_check_search))) (aCons (eVar 0) (aCons (eVar 1) aNil))))
  (sSeq (sEx (eN (gF 1 (liftV (fV F_check_text))) (aCons (eVar 2) aNil)))
  (sRet (eN (gF 2 (liftV (fV F_finds_in))) (aCons (eVar 0) (aCons (eOp2 gIx (eN (gF 3 (liftV (fV F_walk_in))) (aCons (eVar 0) (aCons (eVar 1) (aCons (eVar 2) aNil)))) (eC (.int 0))) aNil))))))
def F_finds : List Dt → Sto → Option (Dt × Sto) := bodyF g_finds 3
theorem ok_finds {T : List (Addr × Str)} {P : Program} {w : World} {K : PySem.W.Frag} {mg : Str → Option Value} {base : Heap} {f : Addr} {fd : FuncData} (F : FnP K "finds" s_finds f fd) (cV_check_search : GP P w K mg base 5 "check_search" ["words", "table"] (SpF T 2 (liftV (fV F_check_search)))) (cV_check_text : GP P w K mg base 1 "check_text" ["text"] (SpF T 1 (liftV (fV F_check_text)))) (cV_finds_in : GP P w K mg base 1 "finds_in" ["words", "walked"] (SpF T 2 (liftV (fV F_finds_in)))) (cV_walk_in : GP P w K mg base 5 "walk_in" ["words", "table", "text"] (SpF T 3 (liftV (fV F_walk_in)))) :
    GFn P w K mg base 6 f fd ["words", "table", "text"] (SpF T 3 F_finds) := by
  refine gfnJ (k := 5) (N := N_finds) (ps := ["words", "table", "text"]) F sc_finds fun A outer s H hr hg => ?_
  have sc := sc_finds
  have hu := hr.units
  have hu1 := hu_of hr
  exact (jsCons (jsEx (jCallP (k := 5) (x := "check_search") (ps := ["words", "table"]) (F := (liftV (fV F_check_search))) (by exact cV_check_search) (by exact hr.mono (by decide)) (by exact hg) (by rfl) (jCons (jv 0) (jCons (jv 1) jNil))))
    (jsCons (jsEx (jCallP (k := 1) (x := "check_text") (ps := ["text"]) (F := (liftV (fV F_check_text))) (by exact cV_check_text) (by exact hr.mono (by decide)) (by exact hg) (by rfl) (jCons (jv 2) jNil)))
    (jsOne (jsRet (jCallP (k := 1) (x := "finds_in") (ps := ["words", "walked"]) (F := (liftV (fV F_finds_in))) (by exact cV_finds_in) (by exact hr.mono (by decide)) (by exact hg) (by rfl) (jCons (jv 0) (jCons (jIx (by exact hu) (jCallP (k := 5) (x := "walk_in") (ps := ["words", "table", "text"]) (F := (liftV (fV F_walk_in))) (by exact cV_walk_in) (by exact hr.mono (by decide)) (by exact hg) (by rfl) (jCons (jv 0) (jCons (jv 1) (jCons (jv 2) jNil)))) jInt) jNil)))))))
def b1_check_order : SS :=
  (sIf (cOr (cNot (cB (eN (gF 1 (liftV (fV F_is_whole))) (aCons (eVar 3) aNil)))) (cOr (cNot (cB (eChain gLe gLe (eC (.int 1)) (eVar 3) (eN gLen (aCons (eVar 1) aNil))))) (cB (eOp2 (gInZ false) (eVar 3) (eSl (eVar 0) oNo (oE (eVar 2)))))))
  sNo
  sNx)
def g_check_order : SS :=
  (sSeq (sIf (cOr (cNot (cB (eN (gIs "list") (aCons (eVar 0) aNil)))) (cB (eOp2 gNeB (eN gLen (aCons (eVar 0) aNil)) (eN gLen (aCons (eVar 1) aNil)))))
  sNo
  sNx)
  (sFor (iR en (aCons (eVar 0) aNil)) (kTup (ksCons (kName 2) (ksCons (kName 3) ksNil)))
  b1_check_order))
def F_check_order : List Dt → Sto → Option (Dt × Sto) := bodyF g_check_order 4
theorem ok_check_order {T : List (Addr × Str)} {P : Program} {w : World} {K : PySem.W.Frag} {mg : Str → Option Value} {base : Heap} {f : Addr} {fd : FuncData} (F : FnP K "check_order" s_check_order f fd) (cV_is_whole : GP P w K mg base 1 "is_whole" ["thing"] (SpF T 1 (liftV (fV F_is_whole)))) (n_enumerate : mg "enumerate" = none) (n_isinstance : mg "isinstance" = none) (n_len : mg "len" = none) (n_list : mg "list" = none) :
    GFn P w K mg base 2 f fd ["order", "word"] (SpF T 2 F_check_order) := by
  refine gfnJ (k := 1) (N := N_check_order) (ps := ["order", "word"]) F sc_check_order fun A outer s H hr hg => ?_
  have sc := sc_check_order
  have hu := hr.units
  have hu1 := hu_of hr
  exact (jsCons (jsIf (PW.pt (jwOr (jtNot (jtVal (jIsi (by rfl) n_isinstance (by rfl) n_list boot_list (jv 0)))) (jwOr1 (jtCmp (op_NeZ (by exact hr)) vo_NeZ (jB call_lenA vo_len (by rfl) n_len boot_len (jCons (jv 0) jNil)) (jB call_lenA vo_len (by rfl) n_len boot_len (jCons (jv 1) jNil))))))
    jsNo
    jsNil)
    (jsOne (jsFor PassesOwn.never rfl sim_g2 (jiEn (by rfl) n_enumerate (jCons (jv 0) jNil)) (jg2 rfl (jg 2 sc.nd) (jg 3 sc.nd))
    (jsOne (jsIf (PW.pt (jwOr (jtNot (jtVal (jCallP (k := 1) (x := "is_whole") (ps := ["thing"]) (F := (liftV (fV F_is_whole))) (by exact cV_is_whole) (by exact hr.mono (by decide)) (by exact hg) (by rfl) (jCons (jv 3) jNil)))) (jwOr (jtNot (jtChain op_LeA vo_Le op_LeA vo_Le jInt (jv 3) (jB call_lenA vo_len (by rfl) n_len boot_len (jCons (jv 1) jNil)))) (jwOr1 (jtCmp (op_InZ (by exact hu1)) vo_InZ (jv 3) (jSl (jv 0) joNone (joSome (jv 2))))))))
    jsNo
    jsNil)))))
def g_check_window : SS :=
  (sSeq (sEx (eN (gF 1 (liftV (fV F_check_words))) (aCons (toV (small (aCons (eVar 0) aNil))) aNil)))
  (sSeq (sEx (eN (gF 2 (liftV (fV F_check_order))) (aCons (eVar 1) (aCons (eVar 0) aNil))))
  (sEx (eN (gF 2 (liftV (fV F_check_letters))) (aCons (eVar 2) (aCons (toV (small (aCons (eVar 0) aNil))) aNil))))))
def F_check_window : List Dt → Sto → Option (Dt × Sto) := bodyF g_check_window 3
theorem ok_check_window {T : List (Addr × Str)} {P : Program} {w : World} {K : PySem.W.Frag} {mg : Str → Option Value} {base : Heap} {f : Addr} {fd : FuncData} (F : FnP K "check_window" s_check_window f fd) (cV_check_words : GP P w K mg base 2 "check_words" ["words"] (SpF T 1 (liftV (fV F_check_words)))) (cV_check_order : GP P w K mg base 2 "check_order" ["order", "word"] (SpF T 2 (liftV (fV F_check_order)))) (cV_check_letters : GP P w K mg base 2 "check_letters" ["letters", "words"] (SpF T 2 (liftV (fV F_check_letters)))) :
    GFn P w K mg base 3 f fd ["word", "order", "letters"] (SpF T 3 F_check_window) := by
  refine gfnJ (k := 2) (N := N_check_window) (ps := ["word", "order", "letters"]) F sc_check_window fun A outer s H hr hg => ?_
  have sc := sc_check_window
  have hu := hr.units
  have hu1 := hu_of hr
  exact (jsCons (jsEx (jCallP (k := 2) (x := "check_words") (ps := ["words"]) (F := (liftV (fV F_check_words))) (by exact cV_check_words) (by exact hr.mono (by decide)) (by exact hg) (by rfl) (jCons (jLstV (jCons (jv 0) jNil)) jNil)))
    (jsCons (jsEx (jCallP (k := 2) (x := "check_order") (ps := ["order", "word"]) (F := (liftV (fV F_check_order))) (by exact cV_check_order) (by exact hr.mono (by decide)) (by exact hg) (by rfl) (jCons (jv 1) (jCons (jv 0) jNil))))
    (jsOne (jsEx (jCallP (k := 2) (x := "check_letters") (ps := ["letters", "words"]) (F := (liftV (fV F_check_letters))) (by exact cV_check_letters) (by exact hr.mono (by decide)) (by exact hg) (by rfl) (jCons (jv 2) (jCons (jLstV (jCons (jv 0) jNil)) jNil)))))))
def g_is_skip : SS :=
  (sRet (eAndV (eN (gF 1 (liftV (fV F_is_whole))) (aCons (eVar 0) aNil)) (eChain gLe gLe (eC (.int 1)) (eVar 0) (eN gLen (aCons (eVar 1) aNil)))))
def F_is_skip : List Dt → Sto → Option (Dt × Sto) := bodyF g_is_skip 2
theorem ok_is_skip {T : List (Addr × Str)} {P : Program} {w : World} {K : PySem.W.Frag} {mg : Str → Option Value} {base : Heap} {f : Addr} {fd : FuncData} (F : FnP K "is_skip" s_is_skip f fd) (cV_is_whole : GP P w K mg base 1 "is_whole" ["thing"] (SpF T 1 (liftV (fV F_is_whole)))) (n_len : mg "len" = none) :
    GFn P w K mg base 2 f fd ["thing", "word"] (SpF T 2 F_is_skip) := by
  refine gfnJ (k := 1) (N := N_is_skip) (ps := ["thing", "word"]) F sc_is_skip fun A outer s H hr hg => ?_
  have sc := sc_is_skip
  have hu := hr.units
  have hu1 := hu_of hr
  exact (jsOne (jsRet (jAnd (jCallP (k := 1) (x := "is_whole") (ps := ["thing"]) (F := (liftV (fV F_is_whole))) (by exact cV_is_whole) (by exact hr.mono (by decide)) (by exact hg) (by rfl) (jCons (jv 0) jNil)) (jOne (jChain op_LeA vo_Le op_LeA vo_Le jInt (jv 0) (jB call_lenA vo_len (by rfl) n_len boot_len (jCons (jv 1) jNil)))))))
def e1_check_skips : SE :=
  (eVar 7)
def c1_check_skips : ST :=
  (cB (eOp2 gNeB (eVar 7) (eOp2 gIx (eVar 1) (eOp2 gMin (eOp2 gIx (eVar 2) (eOp2 gMin (eVar 4) (eC (.int 1)))) (eC (.int 1))))))
def e2_check_skips : SE :=
  (eOp2 (gInZ false) (eVar 7) (eVar 5))
def b3_check_skips : SS :=
  (sIf (cNot (cB (eN (gF 2 (liftV (fV F_is_skip))) (aCons (eOp2 gIx (eVar 5) (eVar 7)) (aCons (eVar 1) aNil)))))
  sNo
  sNx)
def b4_check_skips : SS :=
  (sSeq (sAsg (kTup (ksCons (kName 5) (ksCons (kName 6) ksNil))) (toT (aCons (eOp2 gIx (eVar 0) (eVar 4)) (aCons (toV (lc (iE itL (eN gSortZ (aCons (eVar 3) aNil))) [7] (kName 7) c1_check_skips e1_check_skips)) aNil))))
  (sSeq (sIf (cOr (cNot (cB (eN (gIs "dict") (aCons (eVar 5) aNil)))) (cOr (cB (eOp2 gNeB (eN gLen (aCons (eVar 5) aNil)) (eN gLen (aCons (eVar 6) aNil)))) (cNot (cB (eN gAll (aCons (toV (lc (iE itL (eVar 6)) [7] (kName 7) cYes e2_check_skips)) aNil))))))
  sNo
  sNx)
  (sFor (iE itL (eVar 6)) (kName 7)
  b3_check_skips)))
def g_check_skips : SS :=
  (sSeq (sIf (cOr (cNot (cB (eN (gIs "list") (aCons (eVar 0) aNil)))) (cB (eOp2 gNeB (eN gLen (aCons (eVar 0) aNil)) (eOp2 gAdd (eN gLen (aCons (eVar 1) aNil)) (eC (.int 1))))))
  sNo
  sNx)
  (sSeq (sIf (cNot (cB (eN (gF 2 (liftV (fV F_is_skip))) (aCons (eOp2 gIx (eVar 0) (eC (.int 0))) (aCons (eVar 1) aNil)))))
  sNo
  sNx)
  (sFor (iR rg2 (aCons (eC (.int 1)) (aCons (eOp2 gAdd (eN gLen (aCons (eVar 1) aNil)) (eC (.int 1))) aNil))) (kName 4)
  b4_check_skips)))
def F_check_skips : List Dt → Sto → Option (Dt × Sto) := bodyF g_check_skips 8
theorem ok_check_skips {T : List (Addr × Str)} {P : Program} {w : World} {K : PySem.W.Frag} {mg : Str → Option Value} {base : Heap} {f : Addr} {fd : FuncData} (F : FnP K "check_skips" s_check_skips f fd) (cV_is_skip : GP P w K mg base 2 "is_skip" ["thing", "word"] (SpF T 2 (liftV (fV F_is_skip)))) (n_all : mg "all" = none) (n_dict : mg "dict" = none) (n_isinstance : mg "isinstance" = none) (n_len : mg "len" = none) (n_list : mg "list" = none) (n_range : mg "range" = none) (n_sorted : mg "sorted" = none) :
    GFn P w K mg base 3 f fd ["table", "word", "order", "letters"] (SpF T 4 F_check_skips) := by
  refine gfnJ (k := 2) (N := N_check_skips) (ps := ["table", "word", "order", "letters"]) F sc_check_skips fun A outer s H hr hg => ?_
  have sc := sc_check_skips
  have hu := hr.units
  have hu1 := hu_of hr
  exact (jsCons (jsIf (PW.pt (jwOr (jtNot (jtVal (jIsi (by rfl) n_isinstance (by rfl) n_list boot_list (jv 0)))) (jwOr1 (jtCmp (op_NeZ (by exact hr)) vo_NeZ (jB call_lenA vo_len (by rfl) n_len boot_len (jCons (jv 0) jNil)) (jAdd (jB call_lenA vo_len (by rfl) n_len boot_len (jCons (jv 1) jNil)) jInt)))))
    jsNo
    jsNil)
    (jsCons (jsIf (jtNot (jtVal (jCallP (k := 2) (x := "is_skip") (ps := ["thing", "word"]) (F := (liftV (fV F_is_skip))) (by exact cV_is_skip) (by exact hr.mono (by decide)) (by exact hg) (by rfl) (jCons (jIx (by exact hu) (jv 0) jInt) (jCons (jv 1) jNil)))))
    jsNo
    jsNil)
    (jsOne (jsFor PassesOwn.never rfl sim_gname (jiR2 (by rfl) n_range (jCons jInt (jCons (jAdd (jB call_lenA vo_len (by rfl) n_len boot_len (jCons (jv 1) jNil)) jInt) jNil))) (jg 4 sc.nd)
    (jsCons (jsAsg sim_g2 (jTup (jCons (jIx (by exact hu) (jv 0) (jv 4)) (jCons (jLcV (own := [("letter", 7)]) rfl sc.nd sim_gname (jiL (jB (cr_sortZ rfl (by exact hu)) vo_sortZ (by rfl) n_sorted boot_sorted (jCons (jv 3) jNil))) (blkOk_by (by rfl)) (fun _ _ _ _ _ => (jg 7 sc.nd)) (fun _ _ _ _ _ => (jtOne (jtCmp (op_NeZ (by exact hr)) vo_NeZ (jv 7) (jIx (by exact hu) (jv 1) (jMin (jIx (by exact hu) (jv 2) (jMin (jv 4) jInt)) jInt))))) (fun _ _ _ _ _ => (jv 7)) (by decide)) jNil))) (jg2 rfl (jg 5 sc.nd) (jg 6 sc.nd)))
    (jsCons (jsIf (PW.pt (jwOr (jtNot (jtVal (jIsi (by rfl) n_isinstance (by rfl) n_dict boot_dict (jv 5)))) (jwOr (jtCmp (op_NeZ (by exact hr)) vo_NeZ (jB call_lenA vo_len (by rfl) n_len boot_len (jCons (jv 5) jNil)) (jB call_lenA vo_len (by rfl) n_len boot_len (jCons (jv 6) jNil))) (jwOr1 (jtNot (jtVal (jB (cr_all rfl) vo_all (by rfl) n_all boot_all (jCons (jLcV (own := [("letter", 7)]) rfl sc.nd sim_gname (jiL (jv 6)) (blkOk_by (by rfl)) (fun _ _ _ _ _ => (jg 7 sc.nd)) (fun _ _ _ _ _ => jtNil) (fun _ _ _ _ _ => (jCmp (op_InZ (by exact hu1)) vo_InZ (jv 7) (jv 5))) (by decide)) jNil))))))))
    jsNo
    jsNil)
    (jsOne (jsFor PassesOwn.never rfl sim_gname (jiL (jv 6)) (jg 7 sc.nd)
    (jsOne (jsIf (jtNot (jtVal (jCallP (k := 2) (x := "is_skip") (ps := ["thing", "word"]) (F := (liftV (fV F_is_skip))) (by exact cV_is_skip) (by exact hr.mono (by decide)) (by exact hg) (by rfl) (jCons (jIx (by exact hu) (jv 5) (jv 7)) (jCons (jv 1) jNil)))))
    jsNo
    jsNil))))))))))
def g_check_all : SS :=
  (sSeq (sEx (eN (gF 3 (liftV (fV F_check_window))) (aCons (eVar 0) (aCons (eVar 1) (aCons (eVar 2) aNil)))))
  (sEx (eN (gF 4 (liftV (fV F_check_skips))) (aCons (eVar 3) (aCons (eVar 0) (aCons (eVar 1) (aCons (eVar 2) aNil)))))))
def F_check_all : List Dt → Sto → Option (Dt × Sto) := bodyF g_check_all 4
theorem ok_check_all {T : List (Addr × Str)} {P : Program} {w : World} {K : PySem.W.Frag} {mg : Str → Option Value} {base : Heap} {f : Addr} {fd : FuncData} (F : FnP K "check_all" s_check_all f fd) (cV_check_window : GP P w K mg base 3 "check_window" ["word", "order", "letters"] (SpF T 3 (liftV (fV F_check_window)))) (cV_check_skips : GP P w K mg base 3 "check_skips" ["table", "word", "order", "letters"] (SpF T 4 (liftV (fV F_check_skips)))) :
    GFn P w K mg base 4 f fd ["word", "order", "letters", "table"] (SpF T 4 F_check_all) := by
  refine gfnJ (k := 3) (N := N_check_all) (ps := ["word", "order", "letters", "table"]) F sc_check_all fun A outer s H hr hg => ?_
  have sc := sc_check_all
  have hu := hr.units
  have hu1 := hu_of hr
  exact (jsCons (jsEx (jCallP (k := 3) (x := "check_window") (ps := ["word", "order", "letters"]) (F := (liftV (fV F_check_window))) (by exact cV_check_window) (by exact hr.mono (by decide)) (by exact hg) (by rfl) (jCons (jv 0) (jCons (jv 1) (jCons (jv 2) jNil)))))
    (jsOne (jsEx (jCallP (k := 3) (x := "check_skips") (ps := ["table", "word", "order", "letters"]) (F := (liftV (fV F_check_skips))) (by exact cV_check_skips) (by exact hr.mono (by decide)) (by exact hg) (by rfl) (jCons (jv 3) (jCons (jv 0) (jCons (jv 1) (jCons (jv 2) jNil))))))))
def e1_fits : SE :=
  (eOrV (eOp2 gLe (eVar 3) (eVar 2)) (eOp2 gEqB (eOp2 gIx (eVar 0) (eOp2 gMin (eOp2 gMin (eVar 3) (eVar 2)) (eC (.int 1)))) (eVar 4)))
def g_fits : SS :=
  (sRet (eN gAll (aCons (toV (lc (iE itI (eVar 1)) [3, 4] (kTup (ksCons (kName 3) (ksCons (kName 4) ksNil))) cYes e1_fits)) aNil)))
def F_fits : List Dt → Sto → Option (Dt × Sto) := bodyF g_fits 5
theorem ok_fits {T : List (Addr × Str)} {P : Program} {w : World} {K : PySem.W.Frag} {mg : Str → Option Value} {base : Heap} {f : Addr} {fd : FuncData} (F : FnP K "fits" s_fits f fd) (n_all : mg "all" = none) :
    GFn P w K mg base 1 f fd ["word", "seen", "far"] (SpF T 3 F_fits) := by
  refine gfnJ (k := 0) (N := N_fits) (ps := ["word", "seen", "far"]) F sc_fits fun A outer s H hr hg => ?_
  have sc := sc_fits
  have hu := hr.units
  have hu1 := hu_of hr
  exact (jsOne (jsRet (jB (cr_all rfl) vo_all (by rfl) n_all boot_all (jCons (jLcD (own := [("place", 3), ("letter", 4)]) rfl sc.nd sim_g2 (jdI 1) (blkOk_by (by rfl)) (fun _ _ _ _ _ => (jg2 rfl (jg 3 sc.nd) (jg 4 sc.nd))) (fun _ _ _ _ _ => jtNil) (fun _ _ _ _ _ => (jOr (jCmp op_LeA vo_Le (jv 3) (jv 2)) (jOne (jCmp (op_EqZ (by exact hr)) vo_EqZ (jIx (by exact hu) (jv 0) (jMin (jMin (jv 3) (jv 2)) jInt)) (jv 4))))) (by decide)) jNil))))
def e1_safe_skip : SE :=
  (eVar 2)
def c1_safe_skip : ST :=
  (cB (eN (gF 3 (liftV (fV F_fits))) (aCons (eVar 0) (aCons (eVar 1) (aCons (eVar 2) aNil)))))
def g_safe_skip : SS :=
  (sRet (eOp2 gIx (toV (lc (iR rg2 (aCons (eC (.int 1)) (aCons (eOp2 gAdd (eN gLen (aCons (eVar 0) aNil)) (eC (.int 1))) aNil))) [2] (kName 2) c1_safe_skip e1_safe_skip)) (eC (.int 0))))
def F_safe_skip : List Dt → Sto → Option (Dt × Sto) := bodyF g_safe_skip 3
theorem ok_safe_skip {T : List (Addr × Str)} {P : Program} {w : World} {K : PySem.W.Frag} {mg : Str → Option Value} {base : Heap} {f : Addr} {fd : FuncData} (F : FnP K "safe_skip" s_safe_skip f fd) (cV_fits : GP P w K mg base 1 "fits" ["word", "seen", "far"] (SpF T 3 (liftV (fV F_fits)))) (n_len : mg "len" = none) (n_range : mg "range" = none) :
    GFn P w K mg base 2 f fd ["word", "seen"] (SpF T 2 F_safe_skip) := by
  refine gfnJ (k := 1) (N := N_safe_skip) (ps := ["word", "seen"]) F sc_safe_skip fun A outer s H hr hg => ?_
  have sc := sc_safe_skip
  have hu := hr.units
  have hu1 := hu_of hr
  exact (jsOne (jsRet (jIx (by exact hu) (jLcV (own := [("far", 2)]) rfl sc.nd sim_gname (jiR2 (by rfl) n_range (jCons jInt (jCons (jAdd (jB call_lenA vo_len (by rfl) n_len boot_len (jCons (jv 0) jNil)) jInt) jNil))) (blkOk_by (by rfl)) (fun _ _ _ _ _ => (jg 2 sc.nd)) (fun _ _ _ _ _ => (jtOne (jtVal (jCallP (k := 1) (x := "fits") (ps := ["word", "seen", "far"]) (F := (liftV (fV F_fits))) (by exact cV_fits) (by exact hr.mono (by decide)) (by exact hg) (by rfl) (jCons (jv 0) (jCons (jv 1) (jCons (jv 2) jNil))))))) (fun _ _ _ _ _ => (jv 2)) (by decide)) jInt)))
def e1_safe_in : SE :=
  (eVar 7)
def c1_safe_in : ST :=
  (cB (eOp2 gNeB (eVar 7) (eOp2 gIx (eVar 0) (eOp2 gMin (eVar 5) (eC (.int 1))))))
def v2_safe_in : SE :=
  (eN (gF 2 (liftV (fV F_safe_skip))) (aCons (eVar 0) (aCons (dToV (eStar (eVar 3) (eVar 5) (eVar 7))) aNil)))
def b3_safe_in : SS :=
  (sSeq (sSet 6 (toV (lc (iE itL (eN gSortZ (aCons (eVar 2) aNil))) [7] (kName 7) c1_safe_in e1_safe_in)))
  (sSeq (sEx (eM isL gApp (eVar 4) (aCons (dToV (dc (iE itL (eVar 6)) [7] (kName 7) cYes (eVar 7) v2_safe_in)) aNil)))
  (sDP (eVar 3) (eVar 5) (eOp2 gIx (eVar 0) (eOp2 gMin (eVar 5) (eC (.int 1)))))))
def g_safe_in : SS :=
  (sSeq (sAsg (kTup (ksCons (kName 3) (ksCons (kName 4) ksNil))) (toT (aCons eDR (aCons (toR (small aNil)) aNil))))
  (sSeq (sFor (iE itL (eVar 1)) (kName 5)
  b3_safe_in)
  (sRet (eOp2 gAdd (toV (small (aCons (eN (gF 2 (liftV (fV F_safe_skip))) (aCons (eVar 0) (aCons (eFrz (eVar 3)) aNil))) aNil))) (eVar 4)))))
def F_safe_in : List Dt → Sto → Option (Dt × Sto) := bodyF g_safe_in 8
theorem ok_safe_in {T : List (Addr × Str)} {P : Program} {w : World} {K : PySem.W.Frag} {mg : Str → Option Value} {base : Heap} {f : Addr} {fd : FuncData} (F : FnP K "safe_in" s_safe_in f fd) (cV_safe_skip : GP P w K mg base 2 "safe_skip" ["word", "seen"] (SpF T 2 (liftV (fV F_safe_skip)))) (n_sorted : mg "sorted" = none) :
    GFn P w K mg base 3 f fd ["word", "order", "letters"] (SpF T 3 F_safe_in) := by
  refine gfnJ (k := 2) (N := N_safe_in) (ps := ["word", "order", "letters"]) F sc_safe_in fun A outer s H hr hg => ?_
  have sc := sc_safe_in
  have hu := hr.units
  have hu1 := hu_of hr
  exact (jsCons (jsAsg sim_g2 (jTup (jCons jDR (jCons (jLstR jNil) jNil))) (jg2 rfl (jg 3 sc.nd) (jg 4 sc.nd)))
    (jsCons (jsFor PassesOwn.never rfl sim_gname (jiL (jv 1)) (jg 5 sc.nd)
    (jsCons (jsSetLc (i := 6) (own := [("letter", 7)]) rfl sc.nd sim_gname (sw_true rfl rfl rfl rfl) (jiL (jB (cr_sortZ rfl (by exact hu)) vo_sortZ (by rfl) n_sorted boot_sorted (jCons (jv 2) jNil))) (blkOk_by (by rfl)) (fun _ _ _ _ _ => (jg 7 sc.nd)) (fun _ _ _ _ _ => (jtOne (jtCmp (op_NeZ (by exact hr)) vo_NeZ (jv 7) (jIx (by exact hu) (jv 0) (jMin (jv 5) jInt))))) (fun _ _ _ _ _ => (jv 7)) (by decide))
    (jsCons (jsEx (jApp (jv 4) (jCons (jDcV (own := [("letter", 7)]) rfl sc.nd sim_gname (jiL (jv 6)) (blkOk_by (by rfl)) (fun _ _ _ _ _ => (jg 7 sc.nd)) (fun _ _ _ _ _ => jtNil) (fun _ _ _ _ _ => (jv 7)) (fun _ _ _ _ _ => (jCallP (k := 2) (x := "safe_skip") (ps := ["word", "seen"]) (F := (liftV (fV F_safe_skip))) (by exact cV_safe_skip) (by exact hr.mono (by decide)) (by exact hg) (by rfl) (jCons (jv 0) (jCons (jStarV (jv 3) (jv 5) (jv 7)) jNil)))) (by decide)) jNil)))
    (jsOne (jsDP (by exact hu) (jv 3) (jv 5) (jIx (by exact hu) (jv 0) (jMin (jv 5) jInt)))))))
    (jsOne (jsRet (jAdd (jLstV (jCons (jCallP (k := 2) (x := "safe_skip") (ps := ["word", "seen"]) (F := (liftV (fV F_safe_skip))) (by exact cV_safe_skip) (by exact hr.mono (by decide)) (by exact hg) (by rfl) (jCons (jv 0) (jCons (jFrz (jv 3)) jNil))) jNil)) (jv 4))))))
def b1_window_at : SS :=
  (sSeq (sSet 7 (eOp2 gIx (eVar 3) (eOp2 gMin (eOp2 gAdd (eVar 4) (eVar 6)) (eC (.int 1)))))
  (sIf (cB (eOp2 gNeB (eVar 7) (eOp2 gIx (eVar 0) (eOp2 gMin (eVar 6) (eC (.int 1))))))
  (sRet (toT (aCons (eOp2 gAdd (eVar 5) (eC (.int 1))) (aCons (eOp2 gIx (eOp2 gIx (eVar 2) (eOp2 gAdd (eVar 5) (eC (.int 1)))) (eVar 7)) (aCons (eC (.bl false)) aNil)))))
  sNx))
def g_window_at : SS :=
  (sSeq (sFor (iR en (aCons (eVar 1) aNil)) (kTup (ksCons (kName 5) (ksCons (kName 6) ksNil)))
  b1_window_at)
  (sRet (toT (aCons (eN gLen (aCons (eVar 0) aNil)) (aCons (eOp2 gIx (eVar 2) (eC (.int 0))) (aCons (eC (.bl true)) aNil))))))
def F_window_at : List Dt → Sto → Option (Dt × Sto) := bodyF g_window_at 8
theorem ok_window_at {T : List (Addr × Str)} {P : Program} {w : World} {K : PySem.W.Frag} {mg : Str → Option Value} {base : Heap} {f : Addr} {fd : FuncData} (F : FnP K "window_at" s_window_at f fd) (n_enumerate : mg "enumerate" = none) (n_len : mg "len" = none) :
    GFn P w K mg base 1 f fd ["word", "order", "table", "text", "begin"] (SpF T 5 F_window_at) := by
  refine gfnJ (k := 0) (N := N_window_at) (ps := ["word", "order", "table", "text", "begin"]) F sc_window_at fun A outer s H hr hg => ?_
  have sc := sc_window_at
  have hu := hr.units
  have hu1 := hu_of hr
  exact (jsCons (jsFor PassesOwn.never rfl sim_g2 (jiEn (by rfl) n_enumerate (jCons (jv 1) jNil)) (jg2 rfl (jg 5 sc.nd) (jg 6 sc.nd))
    (jsCons (jsSet (i := 7) sc.nd (jIx (by exact hu) (jv 3) (jMin (jAdd (jv 4) (jv 6)) jInt)))
    (jsOne (jsIf (jtCmp (op_NeZ (by exact hr)) vo_NeZ (jv 7) (jIx (by exact hu) (jv 0) (jMin (jv 6) jInt)))
    (jsOne (jsRet (jTup (jCons (jAdd (jv 5) jInt) (jCons (jIx (by exact hu) (jIx (by exact hu) (jv 2) (jAdd (jv 5) jInt)) (jv 7)) (jCons jBl jNil))))))
    jsNil))))
    (jsOne (jsRet (jTup (jCons (jB call_lenA vo_len (by rfl) n_len boot_len (jCons (jv 0) jNil)) (jCons (jIx (by exact hu) (jv 2) jInt) (jCons jBl jNil)))))))
def b1_search_in : SS :=
  (sSeq (sAsg (kTup (ksCons (kName 7) (ksCons (kName 8) (ksCons (kName 9) ksNil)))) (eN (gF 5 (liftV (fV F_window_at))) (aCons (eVar 0) (aCons (eVar 1) (aCons (eVar 2) (aCons (eVar 3) (aCons (eVar 4) aNil)))))))
  (sSeq (sAug 5 gAugA (eIf (cB (eVar 9)) (toV (small (aCons (eOp2 gAdd (eVar 4) (eN gLen (aCons (eVar 0) aNil))) aNil))) (toV (small aNil))))
  (sPar [4, 6] (aCons (eOp2 gAdd (eVar 4) (eVar 8)) (aCons (eOp2 gAdd (eVar 6) (eVar 7)) aNil)))))
def w1_search_in : ST :=
  (cB (eOp2 gLe (eOp2 gAdd (eVar 4) (eN gLen (aCons (eVar 0) aNil))) (eN gLen (aCons (eVar 3) aNil))))
def g_search_in : SS :=
  (sSeq (sPar [4, 5, 6] (aCons (eC (.int 0)) (aCons (toR (small aNil)) (aCons (eC (.int 0)) aNil))))
  (sSeq (sWh w1_search_in b1_search_in 1000)
  (sRet (toT (aCons (eVar 5) (aCons (eVar 6) aNil))))))
def F_search_in : List Dt → Sto → Option (Dt × Sto) := bodyF g_search_in 10
theorem ok_search_in {T : List (Addr × Str)} {P : Program} {w : World} {K : PySem.W.Frag} {mg : Str → Option Value} {base : Heap} {f : Addr} {fd : FuncData} (F : FnP K "search_in" s_search_in f fd) (cV_window_at : GP P w K mg base 1 "window_at" ["word", "order", "table", "text", "begin"] (SpF T 5 (liftV (fV F_window_at)))) (n_len : mg "len" = none) :
    GFn P w K mg base 2 f fd ["word", "order", "table", "text"] (SpF T 4 F_search_in) := by
  refine gfnJ (k := 1) (N := N_search_in) (ps := ["word", "order", "table", "text"]) F sc_search_in fun A outer s H hr hg => ?_
  have sc := sc_search_in
  have hu := hr.units
  have hu1 := hu_of hr
  exact (jsCons (jsPar3 (i := 4) (j := 5) (l := 6) rfl sc.nd (jCons jInt (jCons (jLstR jNil) (jCons jInt jNil))))
    (jsCons (jsWh 1000 (jtCmp op_LeA vo_Le (jAdd (jv 4) (jB call_lenA vo_len (by rfl) n_len boot_len (jCons (jv 0) jNil))) (jB call_lenA vo_len (by rfl) n_len boot_len (jCons (jv 3) jNil)))
    (jsCons (jsAsg sim_g3 (jCallP (k := 1) (x := "window_at") (ps := ["word", "order", "table", "text", "begin"]) (F := (liftV (fV F_window_at))) (by exact cV_window_at) (by exact hr.mono (by decide)) (by exact hg) (by rfl) (jCons (jv 0) (jCons (jv 1) (jCons (jv 2) (jCons (jv 3) (jCons (jv 4) jNil)))))) (jg3 rfl (jg 7 sc.nd) (jg 8 sc.nd) (jg 9 sc.nd)))
    (jsCons (jsAugZ (i := 5) sc.nd (jIf (jtVal (jv 9)) (jLstV (jCons (jAdd (jv 4) (jB call_lenA vo_len (by rfl) n_len boot_len (jCons (jv 0) jNil))) jNil)) (jLstV jNil)))
    (jsOne (jsPar2 (i := 4) (j := 6) rfl sc.nd (jCons (jAdd (jv 4) (jv 8)) (jCons (jAdd (jv 6) (jv 7)) jNil)))))))
    (jsOne (jsRet (jTup (jCons (jv 5) (jCons (jv 6) jNil)))))))
def b1_check_over : SS :=
  (sIf (cB (eOp2 (gInZ true) (eVar 3) (eVar 1)))
  sNo
  sNx)
def g_check_over : SS :=
  (sSeq (sIf (cNot (cB (eN (gIs "str") (aCons (eVar 0) aNil))))
  sNo
  sNx)
  (sFor (iR enT (aCons (eVar 0) aNil)) (kTup (ksCons (kName 2) (ksCons (kName 3) ksNil)))
  b1_check_over))
def F_check_over : List Dt → Sto → Option (Dt × Sto) := bodyF g_check_over 4
theorem ok_check_over {T : List (Addr × Str)} {P : Program} {w : World} {K : PySem.W.Frag} {mg : Str → Option Value} {base : Heap} {f : Addr} {fd : FuncData} (F : FnP K "check_over" s_check_over f fd) (n_enumerate : mg "enumerate" = none) (n_isinstance : mg "isinstance" = none) (n_str : mg "str" = none) :
    GFn P w K mg base 1 f fd ["text", "letters"] (SpF T 2 F_check_over) := by
  refine gfnJ (k := 0) (N := N_check_over) (ps := ["text", "letters"]) F sc_check_over fun A outer s H hr hg => ?_
  have sc := sc_check_over
  have hu := hr.units
  have hu1 := hu_of hr
  exact (jsCons (jsIf (jtNot (jtVal (jIsi (by rfl) n_isinstance (by rfl) n_str boot_str (jv 0))))
    jsNo
    jsNil)
    (jsOne (jsFor PassesOwn.never rfl sim_g2 (jiEnT (by rfl) n_enumerate (jCons (jv 0) jNil)) (jg2 rfl (jg 2 sc.nd) (jg 3 sc.nd))
    (jsOne (jsIf (jtCmp (op_NotInZ (by exact hu1)) vo_InZ (jv 3) (jv 1))
    jsNo
    jsNil)))))
def g_safe_skips : SS :=
  (sSeq (sEx (eN (gF 3 (liftV (fV F_check_window))) (aCons (eVar 0) (aCons (eVar 1) (aCons (eVar 2) aNil)))))
  (sRet (eN (gF 3 (liftV (fV F_safe_in))) (aCons (eVar 0) (aCons (eVar 1) (aCons (eVar 2) aNil))))))
def F_safe_skips : List Dt → Sto → Option (Dt × Sto) := bodyF g_safe_skips 3
theorem ok_safe_skips {T : List (Addr × Str)} {P : Program} {w : World} {K : PySem.W.Frag} {mg : Str → Option Value} {base : Heap} {f : Addr} {fd : FuncData} (F : FnP K "safe_skips" s_safe_skips f fd) (cV_check_window : GP P w K mg base 3 "check_window" ["word", "order", "letters"] (SpF T 3 (liftV (fV F_check_window)))) (cV_safe_in : GP P w K mg base 3 "safe_in" ["word", "order", "letters"] (SpF T 3 (liftV (fV F_safe_in)))) :
    GFn P w K mg base 4 f fd ["word", "order", "letters"] (SpF T 3 F_safe_skips) := by
  refine gfnJ (k := 3) (N := N_safe_skips) (ps := ["word", "order", "letters"]) F sc_safe_skips fun A outer s H hr hg => ?_
  have sc := sc_safe_skips
  have hu := hr.units
  have hu1 := hu_of hr
  exact (jsCons (jsEx (jCallP (k := 3) (x := "check_window") (ps := ["word", "order", "letters"]) (F := (liftV (fV F_check_window))) (by exact cV_check_window) (by exact hr.mono (by decide)) (by exact hg) (by rfl) (jCons (jv 0) (jCons (jv 1) (jCons (jv 2) jNil)))))
    (jsOne (jsRet (jCallP (k := 3) (x := "safe_in") (ps := ["word", "order", "letters"]) (F := (liftV (fV F_safe_in))) (by exact cV_safe_in) (by exact hr.mono (by decide)) (by exact hg) (by rfl) (jCons (jv 0) (jCons (jv 1) (jCons (jv 2) jNil)))))))
def g_finds_by_skips : SS :=
  (sSeq (sEx (eN (gF 4 (liftV (fV F_check_all))) (aCons (eVar 0) (aCons (eVar 1) (aCons (eVar 2) (aCons (eVar 3) aNil))))))
  (sSeq (sEx (eN (gF 2 (liftV (fV F_check_over))) (aCons (eVar 4) (aCons (eVar 2) aNil))))
  (sRet (eOp2 gIx (eN (gF 4 F_search_in) (aCons (eVar 0) (aCons (eVar 1) (aCons (eVar 3) (aCons (eVar 4) aNil))))) (eC (.int 0))))))
def F_finds_by_skips : List Dt → Sto → Option (Dt × Sto) := bodyF g_finds_by_skips 5
theorem ok_finds_by_skips {T : List (Addr × Str)} {P : Program} {w : World} {K : PySem.W.Frag} {mg : Str → Option Value} {base : Heap} {f : Addr} {fd : FuncData} (F : FnP K "finds_by_skips" s_finds_by_skips f fd) (cV_check_all : GP P w K mg base 4 "check_all" ["word", "order", "letters", "table"] (SpF T 4 (liftV (fV F_check_all)))) (cV_check_over : GP P w K mg base 1 "check_over" ["text", "letters"] (SpF T 2 (liftV (fV F_check_over)))) (craw_search_in : GP P w K mg base 2 "search_in" ["word", "order", "table", "text"] (SpF T 4 F_search_in)) :
    GFn P w K mg base 5 f fd ["word", "order", "letters", "table", "text"] (SpF T 5 F_finds_by_skips) := by
  refine gfnJ (k := 4) (N := N_finds_by_skips) (ps := ["word", "order", "letters", "table", "text"]) F sc_finds_by_skips fun A outer s H hr hg => ?_
  have sc := sc_finds_by_skips
  have hu := hr.units
  have hu1 := hu_of hr
  exact (jsCons (jsEx (jCallP (k := 4) (x := "check_all") (ps := ["word", "order", "letters", "table"]) (F := (liftV (fV F_check_all))) (by exact cV_check_all) (by exact hr.mono (by decide)) (by exact hg) (by rfl) (jCons (jv 0) (jCons (jv 1) (jCons (jv 2) (jCons (jv 3) jNil))))))
    (jsCons (jsEx (jCallP (k := 1) (x := "check_over") (ps := ["text", "letters"]) (F := (liftV (fV F_check_over))) (by exact cV_check_over) (by exact hr.mono (by decide)) (by exact hg) (by rfl) (jCons (jv 4) (jCons (jv 2) jNil))))
    (jsOne (jsRet (jIx (by exact hu) (jCallP (k := 2) (x := "search_in") (ps := ["word", "order", "table", "text"]) (F := F_search_in) (by exact craw_search_in) (by exact hr.mono (by decide)) (by exact hg) (by rfl) (jCons (jv 0) (jCons (jv 1) (jCons (jv 3) (jCons (jv 4) jNil))))) jInt)))))
def g__law_draws : SS :=
  (sRet (toR (small (aCons (eOp2 gMod (eN gInt (aCons (eVar 0) aNil)) (eOp2 gPow (eOp2 gPow (eOp2 gPow (eC (.int 10)) (eC (.int 60))) (eC (.int 60))) (eC (.int 4)))) (aCons (eC (.int 0)) (aCons (eOp2 gGe (eVar 0) (eOp2 gPow (eC (.int 10)) (eC (.int 18)))) aNil))))))
def F__law_draws : List Dt → Sto → Option (Dt × Sto) := bodyF g__law_draws 1
theorem ok__law_draws {T : List (Addr × Str)} {P : Program} {w : World} {K : PySem.W.Frag} {mg : Str → Option Value} {base : Heap} {f : Addr} {fd : FuncData} (F : FnP K "_law_draws" s__law_draws f fd) (n_int : mg "int" = none) :
    GFn P w K mg base 1 f fd ["_law_cell"] (SpF T 1 F__law_draws) := by
  refine gfnJ (k := 0) (N := N__law_draws) (ps := ["_law_cell"]) F sc__law_draws fun A outer s H hr hg => ?_
  have sc := sc__law_draws
  have hu := hr.units
  have hu1 := hu_of hr
  exact (jsOne (jsRet (jLstR (jCons (jMod (jTy call_int1 vo_int (by rfl) n_int boot_int (jCons (jv 0) jNil)) (jPow (jPow (jPow jInt jInt) jInt) jInt)) (jCons jInt (jCons (jCmp op_ge vGe (jv 0) (jPow jInt jInt)) jNil))))))
def g__law_next : SS :=
  (sSeq (sLP (eVar 0) (eC (.int 1)) (eOp2 gAdd (eOp2 gIx (eVar 0) (eC (.int 1))) (eC (.int 1))))
  (sSeq (sSet 1 (eOp2 gIx (eVar 0) (eC (.int 1))))
  (sSeq (sIf (cB (eOp2 gIx (eVar 0) (eC (.int 2))))
  (sSeq (sSet 2 (eOp2 gMod (eN gInt (aCons (eOp2 gIx (eVar 0) (eC (.int 0))) aNil)) (eOp2 gPow (eC (.int 10)) (eC (.int 6)))))
  (sSeq (sLP (eVar 0) (eC (.int 0)) (eOp2 gDiv (eOp2 gIx (eVar 0) (eC (.int 0))) (eOp2 gPow (eC (.int 10)) (eC (.int 6)))))
  (sRet (eVar 2))))
  sNx)
  (sSeq (sSet 2 (eOp2 gMod (eN gInt (aCons (eOp2 gMulZ (eOp2 gAdd (eOp2 gAdd (eOp2 gMod (eN gInt (aCons (eOp2 gIx (eVar 0) (eC (.int 0))) aNil)) (eC (.int 1000003))) (eOp2 gMulZ (eOp2 gMulZ (eVar 1) (eVar 1)) (eC (.int 7919)))) (eVar 1)) (eC (.int 48271))) aNil)) (eC (.int 2147483629))))
  (sSeq (sSet 2 (eOp2 gMod (eN gInt (aCons (eOp2 gMulZ (eVar 2) (eVar 2)) aNil)) (eC (.int 2147483587))))
  (sRet (eOp2 gDiv (eOp2 gMod (eN gInt (aCons (eOp2 gMulZ (eVar 2) (eOp2 gAdd (eVar 2) (eC (.int 2)))) aNil)) (eC (.int 2147483579))) (eC (.int 7)))))))))
def F__law_next : List Dt → Sto → Option (Dt × Sto) := bodyF g__law_next 3
theorem ok__law_next {T : List (Addr × Str)} {P : Program} {w : World} {K : PySem.W.Frag} {mg : Str → Option Value} {base : Heap} {f : Addr} {fd : FuncData} (F : FnP K "_law_next" s__law_next f fd) (n_int : mg "int" = none) :
    GFn P w K mg base 1 f fd ["_law_draws_here"] (SpF T 1 F__law_next) := by
  refine gfnJ (k := 0) (N := N__law_next) (ps := ["_law_draws_here"]) F sc__law_next fun A outer s H hr hg => ?_
  have sc := sc__law_next
  have hu := hr.units
  have hu1 := hu_of hr
  exact (jsCons (jsLP (jv 0) jInt (jAdd (jIx (by exact hu) (jv 0) jInt) jInt))
    (jsCons (jsSet (i := 1) sc.nd (jIx (by exact hu) (jv 0) jInt))
    (jsCons (jsIf (jtVal (jIx (by exact hu) (jv 0) jInt))
    (jsCons (jsSet (i := 2) sc.nd (jMod (jTy call_int1 vo_int (by rfl) n_int boot_int (jCons (jIx (by exact hu) (jv 0) jInt) jNil)) (jPow jInt jInt)))
    (jsCons (jsLP (jv 0) jInt (jDiv (jIx (by exact hu) (jv 0) jInt) (jPow jInt jInt)))
    (jsOne (jsRet (jv 2)))))
    jsNil)
    (jsCons (jsSet (i := 2) sc.nd (jMod (jTy call_int1 vo_int (by rfl) n_int boot_int (jCons (jMulZ (jAdd (jAdd (jMod (jTy call_int1 vo_int (by rfl) n_int boot_int (jCons (jIx (by exact hu) (jv 0) jInt) jNil)) jInt) (jMulZ (jMulZ (jv 1) (jv 1)) jInt)) (jv 1)) jInt) jNil)) jInt))
    (jsCons (jsSet (i := 2) sc.nd (jMod (jTy call_int1 vo_int (by rfl) n_int boot_int (jCons (jMulZ (jv 2) (jv 2)) jNil)) jInt))
    (jsOne (jsRet (jDiv (jMod (jTy call_int1 vo_int (by rfl) n_int boot_int (jCons (jMulZ (jv 2) (jAdd (jv 2) jInt)) jNil)) jInt) jInt))))))))
def b1__law_shuffled : SS :=
  (sEx (eM isL gApp (eVar 3) (aCons (eM isL gPop (eVar 2) (aCons (eOp2 gMod (eN gInt (aCons (eN (gF 1 (liftE (fE F__law_next))) (aCons (eVar 0) aNil)) aNil)) (eN gLen (aCons (eVar 2) aNil))) aNil)) aNil)))
def w1__law_shuffled : ST :=
  (cB (eOp2 gNeB (eVar 2) (toV (small aNil))))
def g__law_shuffled : SS :=
  (sSeq (sSet 2 (eN gListBR (aCons (eVar 1) aNil)))
  (sSeq (sSet 3 (toR (small aNil)))
  (sSeq (sWh w1__law_shuffled b1__law_shuffled 1000)
  (sRet (eVar 3)))))
def F__law_shuffled : List Dt → Sto → Option (Dt × Sto) := bodyF g__law_shuffled 4
theorem ok__law_shuffled {T : List (Addr × Str)} {P : Program} {w : World} {K : PySem.W.Frag} {mg : Str → Option Value} {base : Heap} {f : Addr} {fd : FuncData} (F : FnP K "_law_shuffled" s__law_shuffled f fd) (cE__law_next : GP P w K mg base 1 "_law_next" ["_law_draws_here"] (SpF T 1 (liftE (fE F__law_next)))) (n_int : mg "int" = none) (n_len : mg "len" = none) (n_list : mg "list" = none) :
    GFn P w K mg base 2 f fd ["_law_draws_here", "_law_things"] (SpF T 2 F__law_shuffled) := by
  refine gfnJ (k := 1) (N := N__law_shuffled) (ps := ["_law_draws_here", "_law_things"]) F sc__law_shuffled fun A outer s H hr hg => ?_
  have sc := sc__law_shuffled
  have hu := hr.units
  have hu1 := hu_of hr
  exact (jsCons (jsSet (i := 2) sc.nd (jTy (call_listB rfl) vo_listBR (by rfl) n_list boot_list (jCons (jv 1) jNil)))
    (jsCons (jsSet (i := 3) sc.nd (jLstR jNil))
    (jsCons (jsWh 1000 (jtCmp (op_NeZ (by exact hr)) vo_NeZ (jv 2) (jLstV jNil))
    (jsOne (jsEx (jApp (jv 3) (jCons (jPop (jv 2) (jCons (jMod (jTy call_int1 vo_int (by rfl) n_int boot_int (jCons (jCallP (k := 1) (x := "_law_next") (ps := ["_law_draws_here"]) (F := (liftE (fE F__law_next))) (by exact cE__law_next) (by exact hr.mono (by decide)) (by exact hg) (by rfl) (jCons (jv 0) jNil)) jNil)) (jB call_lenA vo_len (by rfl) n_len boot_len (jCons (jv 2) jNil))) jNil)) jNil)))))
    (jsOne (jsRet (jv 3))))))
def e1__law_window : SE :=
  (eOp2 gIx (eVar 2) (eOp2 gMod (eN gInt (aCons (eN (gF 1 (liftE (fE F__law_next))) (aCons (eVar 0) aNil)) aNil)) (eN gLen (aCons (eVar 2) aNil))))
def g__law_window : SS :=
  (sSeq (sSet 2 (eOp2 gIx (toV (small (aCons (eC (.str "ab")) (aCons (eC (.str "aB")) (aCons (eC (.str "abc")) (aCons (eC (.str "!~z")) (aCons (eC (.str "a")) aNil))))))) (eOp2 gMod (eN gInt (aCons (eN (gF 1 (liftE (fE F__law_next))) (aCons (eVar 0) aNil)) aNil)) (eC (.int 5)))))
  (sSeq (sSet 3 (eOp2 gAdd (eC (.int 1)) (eOp2 gMod (eN gInt (aCons (eN (gF 1 (liftE (fE F__law_next))) (aCons (eVar 0) aNil)) aNil)) (eVar 1))))
  (sSeq (sSet 4 (eM1 gJoin (eC (.str "")) (toV (lc (iR rg1 (aCons (eVar 3) aNil)) [8] (kName 8) cYes e1__law_window))))
  (sSeq (sSet 5 (eM1 gJoin (eC (.str "")) (eN (gF 2 (liftE (fE F__law_shuffled))) (aCons (eVar 0) (aCons (eOp2 gAdd (eVar 2) (eOp2 gIx (toV (small (aCons (eC (.str "")) (aCons (eC (.str "?Z")) (aCons (eC (.str "*.")) (aCons (eC (.str "_-")) aNil)))))) (eOp2 gMod (eN gInt (aCons (eN (gF 1 (liftE (fE F__law_next))) (aCons (eVar 0) aNil)) aNil)) (eC (.int 4))))) aNil)))))
  (sSeq (sSet 6 (eOp2 gMod (eN gInt (aCons (eN (gF 1 (liftE (fE F__law_next))) (aCons (eVar 0) aNil)) aNil)) (eC (.int 3))))
  (sSeq (sSet 7 (eOp2 gIx (toV (small (aCons (eLR2 (eC (.int 1)) (eOp2 gAdd (eVar 3) (eC (.int 1)))) (aCons (eLDn (eVar 3) (eC (.int 0)) (eNeg (eC (.int 1)))) (aCons (eN (gF 2 (liftE (fE F__law_shuffled))) (aCons (eVar 0) (aCons (eLR2 (eC (.int 1)) (eOp2 gAdd (eVar 3) (eC (.int 1)))) aNil))) aNil))))) (eVar 6)))
  (sRet (toT (aCons (eVar 4) (aCons (eVar 7) (aCons (eVar 5) aNil)))))))))))
def F__law_window : List Dt → Sto → Option (Dt × Sto) := bodyF g__law_window 9
theorem ok__law_window {T : List (Addr × Str)} {P : Program} {w : World} {K : PySem.W.Frag} {mg : Str → Option Value} {base : Heap} {f : Addr} {fd : FuncData} (F : FnP K "_law_window" s__law_window f fd) (cE__law_next : GP P w K mg base 1 "_law_next" ["_law_draws_here"] (SpF T 1 (liftE (fE F__law_next)))) (cE__law_shuffled : GP P w K mg base 2 "_law_shuffled" ["_law_draws_here", "_law_things"] (SpF T 2 (liftE (fE F__law_shuffled)))) (n_int : mg "int" = none) (n_len : mg "len" = none) (n_list : mg "list" = none) (n_range : mg "range" = none) :
    GFn P w K mg base 3 f fd ["_law_draws_here", "_law_most"] (SpF T 2 F__law_window) := by
  refine gfnJ (k := 2) (N := N__law_window) (ps := ["_law_draws_here", "_law_most"]) F sc__law_window fun A outer s H hr hg => ?_
  have sc := sc__law_window
  have hu := hr.units
  have hu1 := hu_of hr
  exact (jsCons (jsSet (i := 2) sc.nd (jIx (by exact hu) (jLstV (jCons jStr (jCons jStr (jCons jStr (jCons jStr (jCons jStr jNil)))))) (jMod (jTy call_int1 vo_int (by rfl) n_int boot_int (jCons (jCallP (k := 1) (x := "_law_next") (ps := ["_law_draws_here"]) (F := (liftE (fE F__law_next))) (by exact cE__law_next) (by exact hr.mono (by decide)) (by exact hg) (by rfl) (jCons (jv 0) jNil)) jNil)) jInt)))
    (jsCons (jsSet (i := 3) sc.nd (jAdd jInt (jMod (jTy call_int1 vo_int (by rfl) n_int boot_int (jCons (jCallP (k := 1) (x := "_law_next") (ps := ["_law_draws_here"]) (F := (liftE (fE F__law_next))) (by exact cE__law_next) (by exact hr.mono (by decide)) (by exact hg) (by rfl) (jCons (jv 0) jNil)) jNil)) (jv 1))))
    (jsCons (jsSet (i := 4) sc.nd (jJoin jStr (jLcV (own := [("_law_at", 8)]) rfl sc.nd sim_gname (jiR1 (by rfl) n_range (jCons (jv 3) jNil)) (blkOk_by (by rfl)) (fun _ _ _ _ _ => (jg 8 sc.nd)) (fun _ _ _ _ _ => jtNil) (fun _ _ _ _ _ => (jIx (by exact hu) (jv 2) (jMod (jTy call_int1 vo_int (by rfl) n_int boot_int (jCons (jCallP (k := 1) (x := "_law_next") (ps := ["_law_draws_here"]) (F := (liftE (fE F__law_next))) (by exact cE__law_next) (by exact hr.mono (by decide)) (by exact hg) (by rfl) (jCons (jv 0) jNil)) jNil)) (jB call_lenA vo_len (by rfl) n_len boot_len (jCons (jv 2) jNil))))) (by decide))))
    (jsCons (jsSet (i := 5) sc.nd (jJoin jStr (jCallP (k := 2) (x := "_law_shuffled") (ps := ["_law_draws_here", "_law_things"]) (F := (liftE (fE F__law_shuffled))) (by exact cE__law_shuffled) (by exact hr.mono (by decide)) (by exact hg) (by rfl) (jCons (jv 0) (jCons (jAdd (jv 2) (jIx (by exact hu) (jLstV (jCons jStr (jCons jStr (jCons jStr (jCons jStr jNil))))) (jMod (jTy call_int1 vo_int (by rfl) n_int boot_int (jCons (jCallP (k := 1) (x := "_law_next") (ps := ["_law_draws_here"]) (F := (liftE (fE F__law_next))) (by exact cE__law_next) (by exact hr.mono (by decide)) (by exact hg) (by rfl) (jCons (jv 0) jNil)) jNil)) jInt))) jNil)))))
    (jsCons (jsSet (i := 6) sc.nd (jMod (jTy call_int1 vo_int (by rfl) n_int boot_int (jCons (jCallP (k := 1) (x := "_law_next") (ps := ["_law_draws_here"]) (F := (liftE (fE F__law_next))) (by exact cE__law_next) (by exact hr.mono (by decide)) (by exact hg) (by rfl) (jCons (jv 0) jNil)) jNil)) jInt))
    (jsCons (jsSet (i := 7) sc.nd (jIx (by exact hu) (jLstV (jCons (jLR2 rfl (by rfl) n_list (by rfl) n_range jInt (jAdd (jv 3) jInt)) (jCons (jLDn rfl (by rfl) n_list (by rfl) n_range (jv 3) jInt (jNeg jInt)) (jCons (jCallP (k := 2) (x := "_law_shuffled") (ps := ["_law_draws_here", "_law_things"]) (F := (liftE (fE F__law_shuffled))) (by exact cE__law_shuffled) (by exact hr.mono (by decide)) (by exact hg) (by rfl) (jCons (jv 0) (jCons (jLR2 rfl (by rfl) n_list (by rfl) n_range jInt (jAdd (jv 3) jInt)) jNil))) jNil)))) (jv 6)))
    (jsOne (jsRet (jTup (jCons (jv 4) (jCons (jv 7) (jCons (jv 5) jNil))))))))))))
def b1__law_over : SS :=
  (sSeq (sSet 6 (eN gInt (aCons (eN (gF 1 (liftE (fE F__law_next))) (aCons (eVar 0) aNil)) aNil)))
  (sSeq (sSet 7 (eOp2 gMod (eOp2 gDiv (eVar 6) (eC (.int 4))) (eN gLen (aCons (eVar 1) aNil))))
  (sSet 4 (eOp2 gAdd (eVar 4) (eOp2 gIx (toV (small (aCons (eOp2 gIx (eVar 2) (eOp2 gMod (eOp2 gDiv (eVar 6) (eC (.int 4))) (eN gLen (aCons (eVar 2) aNil)))) (aCons (eSl (eVar 1) oNo (oE (eOp2 gAdd (eC (.int 1)) (eVar 7)))) (aCons (eVar 1) (aCons (eSl (eVar 1) (oE (eVar 7)) oNo) aNil)))))) (eOp2 gMod (eVar 6) (eC (.int 4))))))))
def g__law_over : SS :=
  (sSeq (sSet 4 (eC (.str "")))
  (sSeq (sFor (iR rg1 (aCons (eOp2 gMod (eN gInt (aCons (eN (gF 1 (liftE (fE F__law_next))) (aCons (eVar 0) aNil)) aNil)) (eOp2 gAdd (eVar 3) (eC (.int 1)))) aNil)) (kName 5)
  b1__law_over)
  (sRet (eVar 4))))
def F__law_over : List Dt → Sto → Option (Dt × Sto) := bodyF g__law_over 8
theorem ok__law_over {T : List (Addr × Str)} {P : Program} {w : World} {K : PySem.W.Frag} {mg : Str → Option Value} {base : Heap} {f : Addr} {fd : FuncData} (F : FnP K "_law_over" s__law_over f fd) (cE__law_next : GP P w K mg base 1 "_law_next" ["_law_draws_here"] (SpF T 1 (liftE (fE F__law_next)))) (n_int : mg "int" = none) (n_len : mg "len" = none) (n_range : mg "range" = none) :
    GFn P w K mg base 2 f fd ["_law_draws_here", "_law_noun", "_law_around", "_law_most"] (SpF T 4 F__law_over) := by
  refine gfnJ (k := 1) (N := N__law_over) (ps := ["_law_draws_here", "_law_noun", "_law_around", "_law_most"]) F sc__law_over fun A outer s H hr hg => ?_
  have sc := sc__law_over
  have hu := hr.units
  have hu1 := hu_of hr
  exact (jsCons (jsSet (i := 4) sc.nd jStr)
    (jsCons (jsFor PassesOwn.never rfl sim_gname (jiR1 (by rfl) n_range (jCons (jMod (jTy call_int1 vo_int (by rfl) n_int boot_int (jCons (jCallP (k := 1) (x := "_law_next") (ps := ["_law_draws_here"]) (F := (liftE (fE F__law_next))) (by exact cE__law_next) (by exact hr.mono (by decide)) (by exact hg) (by rfl) (jCons (jv 0) jNil)) jNil)) (jAdd (jv 3) jInt)) jNil)) (jg 5 sc.nd)
    (jsCons (jsSet (i := 6) sc.nd (jTy call_int1 vo_int (by rfl) n_int boot_int (jCons (jCallP (k := 1) (x := "_law_next") (ps := ["_law_draws_here"]) (F := (liftE (fE F__law_next))) (by exact cE__law_next) (by exact hr.mono (by decide)) (by exact hg) (by rfl) (jCons (jv 0) jNil)) jNil)))
    (jsCons (jsSet (i := 7) sc.nd (jMod (jDiv (jv 6) jInt) (jB call_lenA vo_len (by rfl) n_len boot_len (jCons (jv 1) jNil))))
    (jsOne (jsSet (i := 4) sc.nd (jAdd (jv 4) (jIx (by exact hu) (jLstV (jCons (jIx (by exact hu) (jv 2) (jMod (jDiv (jv 6) jInt) (jB call_lenA vo_len (by rfl) n_len boot_len (jCons (jv 2) jNil)))) (jCons (jSl (jv 1) joNone (joSome (jAdd jInt (jv 7)))) (jCons (jv 1) (jCons (jSl (jv 1) (joSome (jv 7)) joNone) jNil))))) (jMod (jv 6) jInt))))))))
    (jsOne (jsRet (jv 4)))))
def b1__law_left_right : SS :=
  (sIf (cB (eOp2 gNeB (eVar 5) (eOp2 gIx (eVar 0) (eOp2 gMin (eVar 4) (eC (.int 1))))))
  (sSeq (sSet 6 (eOp2 gIx (eN (gF 3 (liftV (fV F_walk))) (aCons (toV (small (aCons (eVar 0) aNil))) (aCons (eVar 2) (aCons (eOp2 gAdd (eSl (eVar 0) oNo (oE (eOp2 gMin (eVar 4) (eC (.int 1))))) (eVar 5)) aNil)))) (eNeg (eC (.int 1)))))
  (sIf (cB (eOp2 gNeB (eOp2 gIx (eOp2 gIx (eVar 3) (eVar 4)) (eVar 5)) (eOp2 gMin (eVar 4) (eN gLen (aCons (eVar 6) aNil)))))
  (sRet (eC (.bl false)))
  sNx))
  sNx)
def b2__law_left_right : SS :=
  (sFor (iE itS (eVar 1)) (kName 5)
  b1__law_left_right)
def g__law_left_right : SS :=
  (sSeq (sSet 2 (eN (gF 1 (liftV (fV F_true_table))) (aCons (toV (small (aCons (eVar 0) aNil))) aNil)))
  (sSeq (sSet 3 (eN (gF 3 (liftV (fV F_safe_skips))) (aCons (eVar 0) (aCons (eLR2 (eC (.int 1)) (eOp2 gAdd (eN gLen (aCons (eVar 0) aNil)) (eC (.int 1)))) (aCons (eVar 1) aNil)))))
  (sSeq (sFor (iR rg2 (aCons (eC (.int 1)) (aCons (eOp2 gAdd (eN gLen (aCons (eVar 0) aNil)) (eC (.int 1))) aNil))) (kName 4)
  b2__law_left_right)
  (sRet (eOp2 gEqB (eOp2 gIx (eVar 3) (eC (.int 0))) (eOp2 gMin (eN gLen (aCons (eVar 0) aNil)) (eN gLen (aCons (eOp2 gIx (eN (gF 2 (liftV (fV F_ends))) (aCons (toV (small (aCons (eVar 0) aNil))) (aCons (eVar 0) aNil))) (eNeg (eC (.int 1)))) aNil))))))))
def F__law_left_right : List Dt → Sto → Option (Dt × Sto) := bodyF g__law_left_right 7
theorem ok__law_left_right {T : List (Addr × Str)} {P : Program} {w : World} {K : PySem.W.Frag} {mg : Str → Option Value} {base : Heap} {f : Addr} {fd : FuncData} (F : FnP K "_law_left_right" s__law_left_right f fd) (cV_true_table : GP P w K mg base 6 "true_table" ["words"] (SpF T 1 (liftV (fV F_true_table)))) (cV_safe_skips : GP P w K mg base 4 "safe_skips" ["word", "order", "letters"] (SpF T 3 (liftV (fV F_safe_skips)))) (cV_walk : GP P w K mg base 6 "walk" ["words", "table", "text"] (SpF T 3 (liftV (fV F_walk)))) (cV_ends : GP P w K mg base 5 "ends" ["words", "state"] (SpF T 2 (liftV (fV F_ends)))) (n_len : mg "len" = none) (n_list : mg "list" = none) (n_range : mg "range" = none) :
    GFn P w K mg base 7 f fd ["_law_noun", "_law_around"] (SpF T 2 F__law_left_right) := by
  refine gfnJ (k := 6) (N := N__law_left_right) (ps := ["_law_noun", "_law_around"]) F sc__law_left_right fun A outer s H hr hg => ?_
  have sc := sc__law_left_right
  have hu := hr.units
  have hu1 := hu_of hr
  exact (jsCons (jsSet (i := 2) sc.nd (jCallP (k := 6) (x := "true_table") (ps := ["words"]) (F := (liftV (fV F_true_table))) (by exact cV_true_table) (by exact hr.mono (by decide)) (by exact hg) (by rfl) (jCons (jLstV (jCons (jv 0) jNil)) jNil)))
    (jsCons (jsSet (i := 3) sc.nd (jCallP (k := 4) (x := "safe_skips") (ps := ["word", "order", "letters"]) (F := (liftV (fV F_safe_skips))) (by exact cV_safe_skips) (by exact hr.mono (by decide)) (by exact hg) (by rfl) (jCons (jv 0) (jCons (jLR2 rfl (by rfl) n_list (by rfl) n_range jInt (jAdd (jB call_lenA vo_len (by rfl) n_len boot_len (jCons (jv 0) jNil)) jInt)) (jCons (jv 1) jNil)))))
    (jsCons (jsFor PassesOwn.never rfl sim_gname (jiR2 (by rfl) n_range (jCons jInt (jCons (jAdd (jB call_lenA vo_len (by rfl) n_len boot_len (jCons (jv 0) jNil)) jInt) jNil))) (jg 4 sc.nd)
    (jsOne (jsFor PassesOwn.never rfl sim_gname (jiS (jv 1)) (jg 5 sc.nd)
    (jsOne (jsIf (jtCmp (op_NeZ (by exact hr)) vo_NeZ (jv 5) (jIx (by exact hu) (jv 0) (jMin (jv 4) jInt)))
    (jsCons (jsSet (i := 6) sc.nd (jIx (by exact hu) (jCallP (k := 6) (x := "walk") (ps := ["words", "table", "text"]) (F := (liftV (fV F_walk))) (by exact cV_walk) (by exact hr.mono (by decide)) (by exact hg) (by rfl) (jCons (jLstV (jCons (jv 0) jNil)) (jCons (jv 2) (jCons (jAdd (jSl (jv 0) joNone (joSome (jMin (jv 4) jInt))) (jv 5)) jNil)))) (jNeg jInt)))
    (jsOne (jsIf (jtCmp (op_NeZ (by exact hr)) vo_NeZ (jIx (by exact hu) (jIx (by exact hu) (jv 3) (jv 4)) (jv 5)) (jMin (jv 4) (jB call_lenA vo_len (by rfl) n_len boot_len (jCons (jv 6) jNil))))
    (jsOne (jsRet jBl))
    jsNil)))
    jsNil)))))
    (jsOne (jsRet (jCmp (op_EqZ (by exact hr)) vo_EqZ (jIx (by exact hu) (jv 3) jInt) (jMin (jB call_lenA vo_len (by rfl) n_len boot_len (jCons (jv 0) jNil)) (jB call_lenA vo_len (by rfl) n_len boot_len (jCons (jIx (by exact hu) (jCallP (k := 5) (x := "ends") (ps := ["words", "state"]) (F := (liftV (fV F_ends))) (by exact cV_ends) (by exact hr.mono (by decide)) (by exact hg) (by rfl) (jCons (jLstV (jCons (jv 0) jNil)) (jCons (jv 0) jNil))) (jNeg jInt)) jNil)))))))))
def b1__law_back_right : SS :=
  (sSeq (sSet 9 (eSl (eVar 0) (oE (eN gMax (aCons (eC (.int 0)) (aCons (eOp2 gMin (eOp2 gMin (eVar 4) (eC (.int 1))) (eVar 8)) aNil)))) (oE (eOp2 gMin (eN gLen (aCons (eVar 0) aNil)) (eVar 8)))))
  (sSet 7 (eOp2 gAdd (eVar 7) (eOp2 gMulZ (toV (small (aCons (eVar 8) aNil))) (eN gIntB (aCons (eOp2 gEqB (eSl (eVar 6) (oE (eOp2 gMin (eN gLen (aCons (eVar 6) aNil)) (eN gLen (aCons (eVar 9) aNil)))) oNo) (eVar 9)) aNil))))))
def b2__law_back_right : SS :=
  (sIf (cB (eOp2 gNeB (eVar 5) (eOp2 gIx (eVar 0) (eOp2 gMin (eVar 4) (eC (.int 1))))))
  (sSeq (sSet 6 (eOp2 gAdd (eVar 5) (eSl (eVar 0) (oE (eVar 4)) oNo)))
  (sSeq (sSet 7 (toV (small aNil)))
  (sSeq (sFor (iR rg2 (aCons (eC (.int 1)) (aCons (eOp2 gAdd (eN gLen (aCons (eVar 0) aNil)) (eC (.int 1))) aNil))) (kName 8)
  b1__law_back_right)
  (sIf (cB (eOp2 gNeB (eOp2 gIx (eOp2 gIx (eVar 2) (eVar 3)) (eVar 5)) (eOp2 gIx (eVar 7) (eC (.int 0)))))
  (sRet (eC (.bl false)))
  sNx))))
  sNx)
def b3__law_back_right : SS :=
  (sSeq (sSet 4 (eOp2 gMin (eOp2 gAdd (eN gLen (aCons (eVar 0) aNil)) (eC (.int 1))) (eVar 3)))
  (sFor (iE itS (eVar 1)) (kName 5)
  b2__law_back_right))
def g__law_back_right : SS :=
  (sSeq (sSet 2 (eN (gF 3 (liftV (fV F_safe_skips))) (aCons (eVar 0) (aCons (eLDn (eN gLen (aCons (eVar 0) aNil)) (eC (.int 0)) (eNeg (eC (.int 1)))) (aCons (eVar 1) aNil)))))
  (sSeq (sFor (iR rg2 (aCons (eC (.int 1)) (aCons (eOp2 gAdd (eN gLen (aCons (eVar 0) aNil)) (eC (.int 1))) aNil))) (kName 3)
  b3__law_back_right)
  (sRet (eC (.bl true)))))
def F__law_back_right : List Dt → Sto → Option (Dt × Sto) := bodyF g__law_back_right 10
theorem ok__law_back_right {T : List (Addr × Str)} {P : Program} {w : World} {K : PySem.W.Frag} {mg : Str → Option Value} {base : Heap} {f : Addr} {fd : FuncData} (F : FnP K "_law_back_right" s__law_back_right f fd) (cV_safe_skips : GP P w K mg base 4 "safe_skips" ["word", "order", "letters"] (SpF T 3 (liftV (fV F_safe_skips)))) (n_int : mg "int" = none) (n_len : mg "len" = none) (n_list : mg "list" = none) (n_max : mg "max" = none) (n_range : mg "range" = none) :
    GFn P w K mg base 5 f fd ["_law_noun", "_law_around"] (SpF T 2 F__law_back_right) := by
  refine gfnJ (k := 4) (N := N__law_back_right) (ps := ["_law_noun", "_law_around"]) F sc__law_back_right fun A outer s H hr hg => ?_
  have sc := sc__law_back_right
  have hu := hr.units
  have hu1 := hu_of hr
  exact (jsCons (jsSet (i := 2) sc.nd (jCallP (k := 4) (x := "safe_skips") (ps := ["word", "order", "letters"]) (F := (liftV (fV F_safe_skips))) (by exact cV_safe_skips) (by exact hr.mono (by decide)) (by exact hg) (by rfl) (jCons (jv 0) (jCons (jLDn rfl (by rfl) n_list (by rfl) n_range (jB call_lenA vo_len (by rfl) n_len boot_len (jCons (jv 0) jNil)) jInt (jNeg jInt)) (jCons (jv 1) jNil)))))
    (jsCons (jsFor PassesOwn.never rfl sim_gname (jiR2 (by rfl) n_range (jCons jInt (jCons (jAdd (jB call_lenA vo_len (by rfl) n_len boot_len (jCons (jv 0) jNil)) jInt) jNil))) (jg 3 sc.nd)
    (jsCons (jsSet (i := 4) sc.nd (jMin (jAdd (jB call_lenA vo_len (by rfl) n_len boot_len (jCons (jv 0) jNil)) jInt) (jv 3)))
    (jsOne (jsFor PassesOwn.never rfl sim_gname (jiS (jv 1)) (jg 5 sc.nd)
    (jsOne (jsIf (jtCmp (op_NeZ (by exact hr)) vo_NeZ (jv 5) (jIx (by exact hu) (jv 0) (jMin (jv 4) jInt)))
    (jsCons (jsSet (i := 6) sc.nd (jAdd (jv 5) (jSl (jv 0) (joSome (jv 4)) joNone)))
    (jsCons (jsSet (i := 7) sc.nd (jLstV jNil))
    (jsCons (jsFor PassesOwn.never rfl sim_gname (jiR2 (by rfl) n_range (jCons jInt (jCons (jAdd (jB call_lenA vo_len (by rfl) n_len boot_len (jCons (jv 0) jNil)) jInt) jNil))) (jg 8 sc.nd)
    (jsCons (jsSet (i := 9) sc.nd (jSl (jv 0) (joSome (jB (call_max2 rfl) vo_max (by rfl) n_max boot_max' (jCons jInt (jCons (jMin (jMin (jv 4) jInt) (jv 8)) jNil)))) (joSome (jMin (jB call_lenA vo_len (by rfl) n_len boot_len (jCons (jv 0) jNil)) (jv 8)))))
    (jsOne (jsSet (i := 7) sc.nd (jAdd (jv 7) (jMulZ (jLstV (jCons (jv 8) jNil)) (jTy call_int1 vo_intB (by rfl) n_int boot_int (jCons (jCmp (op_EqZ (by exact hr)) vo_EqZ (jSl (jv 6) (joSome (jMin (jB call_lenA vo_len (by rfl) n_len boot_len (jCons (jv 6) jNil)) (jB call_lenA vo_len (by rfl) n_len boot_len (jCons (jv 9) jNil)))) joNone) (jv 9)) jNil))))))))
    (jsOne (jsIf (jtCmp (op_NeZ (by exact hr)) vo_NeZ (jIx (by exact hu) (jIx (by exact hu) (jv 2) (jv 3)) (jv 5)) (jIx (by exact hu) (jv 7) jInt))
    (jsOne (jsRet jBl))
    jsNil)))))
    jsNil))))))
    (jsOne (jsRet jBl))))
def e1__law_same_right : SE :=
  (eVar 6)
def g__law_same_right : SS :=
  (sSeq (sSet 3 (eN (gF 2 (liftE (fE F__law_shuffled))) (aCons (eVar 0) (aCons (eLR2 (eC (.int 1)) (eOp2 gAdd (eN gLen (aCons (eVar 1) aNil)) (eC (.int 1)))) aNil))))
  (sSeq (sSet 4 (eN (gF 4 (liftE (fE F__law_over))) (aCons (eVar 0) (aCons (eVar 1) (aCons (eVar 2) (aCons (eC (.int 30)) aNil))))))
  (sSeq (sSet 5 (toV (lc (iE itL (eN (gF 3 (liftV (fV F_finds))) (aCons (toV (small (aCons (eVar 1) aNil))) (aCons (eN (gF 1 (liftV (fV F_true_table))) (aCons (toV (small (aCons (eVar 1) aNil))) aNil)) (aCons (eVar 4) aNil))))) [6, 7] (kTup (ksCons (kName 6) (ksCons (kName 7) ksNil))) cYes e1__law_same_right)))
  (sRet (eOp2 gEqB (eN (gF 5 (liftV (fV F_finds_by_skips))) (aCons (eVar 1) (aCons (eVar 3) (aCons (eVar 2) (aCons (eN (gF 3 (liftV (fV F_safe_skips))) (aCons (eVar 1) (aCons (eVar 3) (aCons (eVar 2) aNil)))) (aCons (eVar 4) aNil)))))) (eVar 5))))))
def F__law_same_right : List Dt → Sto → Option (Dt × Sto) := bodyF g__law_same_right 8
theorem ok__law_same_right {T : List (Addr × Str)} {P : Program} {w : World} {K : PySem.W.Frag} {mg : Str → Option Value} {base : Heap} {f : Addr} {fd : FuncData} (F : FnP K "_law_same_right" s__law_same_right f fd) (cE__law_shuffled : GP P w K mg base 2 "_law_shuffled" ["_law_draws_here", "_law_things"] (SpF T 2 (liftE (fE F__law_shuffled)))) (cE__law_over : GP P w K mg base 2 "_law_over" ["_law_draws_here", "_law_noun", "_law_around", "_law_most"] (SpF T 4 (liftE (fE F__law_over)))) (cV_finds : GP P w K mg base 6 "finds" ["words", "table", "text"] (SpF T 3 (liftV (fV F_finds)))) (cV_true_table : GP P w K mg base 6 "true_table" ["words"] (SpF T 1 (liftV (fV F_true_table)))) (cV_finds_by_skips : GP P w K mg base 5 "finds_by_skips" ["word", "order", "letters", "table", "text"] (SpF T 5 (liftV (fV F_finds_by_skips)))) (cV_safe_skips : GP P w K mg base 4 "safe_skips" ["word", "order", "letters"] (SpF T 3 (liftV (fV F_safe_skips)))) (n_len : mg "len" = none) (n_list : mg "list" = none) (n_range : mg "range" = none) :
    GFn P w K mg base 7 f fd ["_law_draws_here", "_law_noun", "_law_around"] (SpF T 3 F__law_same_right) := by
  refine gfnJ (k := 6) (N := N__law_same_right) (ps := ["_law_draws_here", "_law_noun", "_law_around"]) F sc__law_same_right fun A outer s H hr hg => ?_
  have sc := sc__law_same_right
  have hu := hr.units
  have hu1 := hu_of hr
  exact (jsCons (jsSet (i := 3) sc.nd (jCallP (k := 2) (x := "_law_shuffled") (ps := ["_law_draws_here", "_law_things"]) (F := (liftE (fE F__law_shuffled))) (by exact cE__law_shuffled) (by exact hr.mono (by decide)) (by exact hg) (by rfl) (jCons (jv 0) (jCons (jLR2 rfl (by rfl) n_list (by rfl) n_range jInt (jAdd (jB call_lenA vo_len (by rfl) n_len boot_len (jCons (jv 1) jNil)) jInt)) jNil))))
    (jsCons (jsSet (i := 4) sc.nd (jCallP (k := 2) (x := "_law_over") (ps := ["_law_draws_here", "_law_noun", "_law_around", "_law_most"]) (F := (liftE (fE F__law_over))) (by exact cE__law_over) (by exact hr.mono (by decide)) (by exact hg) (by rfl) (jCons (jv 0) (jCons (jv 1) (jCons (jv 2) (jCons jInt jNil))))))
    (jsCons (jsSetLc (i := 5) (own := [("_law_at", 6), ("_law_here", 7)]) rfl sc.nd sim_g2 (sw_true rfl rfl rfl rfl) (jiL (jCallP (k := 6) (x := "finds") (ps := ["words", "table", "text"]) (F := (liftV (fV F_finds))) (by exact cV_finds) (by exact hr.mono (by decide)) (by exact hg) (by rfl) (jCons (jLstV (jCons (jv 1) jNil)) (jCons (jCallP (k := 6) (x := "true_table") (ps := ["words"]) (F := (liftV (fV F_true_table))) (by exact cV_true_table) (by exact hr.mono (by decide)) (by exact hg) (by rfl) (jCons (jLstV (jCons (jv 1) jNil)) jNil)) (jCons (jv 4) jNil))))) (blkOk_by (by rfl)) (fun _ _ _ _ _ => (jg2 rfl (jg 6 sc.nd) (jg 7 sc.nd))) (fun _ _ _ _ _ => jtNil) (fun _ _ _ _ _ => (jv 6)) (by decide))
    (jsOne (jsRet (jCmp (op_EqZ (by exact hr)) vo_EqZ (jCallP (k := 5) (x := "finds_by_skips") (ps := ["word", "order", "letters", "table", "text"]) (F := (liftV (fV F_finds_by_skips))) (by exact cV_finds_by_skips) (by exact hr.mono (by decide)) (by exact hg) (by rfl) (jCons (jv 1) (jCons (jv 3) (jCons (jv 2) (jCons (jCallP (k := 4) (x := "safe_skips") (ps := ["word", "order", "letters"]) (F := (liftV (fV F_safe_skips))) (by exact cV_safe_skips) (by exact hr.mono (by decide)) (by exact hg) (by rfl) (jCons (jv 1) (jCons (jv 3) (jCons (jv 2) jNil)))) (jCons (jv 4) jNil)))))) (jv 5)))))))
def fz_law : SE := (toV (small (aCons (eC (.int 0)) aNil)))
def fd_law : SE := (eN (gF 1 (liftR (fR F__law_draws))) (aCons (eVar 5) aNil))
def gb_law : SS :=
  (sSeq (sAsg (kTup (ksCons (kName 2) (ksCons (kName 3) (ksCons (kName 4) ksNil)))) (eN (gF 2 (liftE (fE F__law_window))) (aCons (eVar 1) (aCons (eC (.int 7)) aNil))))
  (sSeq (sIf (cOr (cNot (cB (eN (gF 2 (liftV (fV F__law_left_right))) (aCons (eVar 2) (aCons (eVar 4) aNil))))) (cNot (cB (eN (gF 2 (liftV (fV F__law_back_right))) (aCons (eVar 2) (aCons (eVar 4) aNil))))))
  (sRet (eC (.bl false)))
  sNx)
  (sIf (cNot (cB (eN (gF 3 (liftE (fE F__law_same_right))) (aCons (eVar 1) (aCons (eVar 2) (aCons (eVar 4) aNil))))))
  (sRet (eC (.bl false)))
  sNx)))
def gr_law : SS :=
  (sRet (eAndV (eN (gF 2 (liftV (fV F__law_left_right))) (aCons (eC (.str "abaab")) (aCons (eC (.str "abc")) aNil))) (eAndV (eN (gF 2 (liftV (fV F__law_left_right))) (aCons (eC (.str "aaaaaaa")) (aCons (eC (.str "ab")) aNil))) (eN (gF 2 (liftV (fV F__law_back_right))) (aCons (eC (.str "aabaaba")) (aCons (eC (.str "ab")) aNil))))))
theorem ok_law {T : List (Addr × Str)} {P : Program} {w : World} {K : PySem.W.Frag} {mg : Str → Option Value} {base : Heap} {f : Addr} {fd : FuncData} (F : FnP K "law" s_law f fd) (cR__law_draws : GP P w K mg base 1 "_law_draws" ["_law_cell"] (SpF T 1 (liftR (fR F__law_draws)))) (cE__law_window : GP P w K mg base 3 "_law_window" ["_law_draws_here", "_law_most"] (SpF T 2 (liftE (fE F__law_window)))) (cV__law_back_right : GP P w K mg base 5 "_law_back_right" ["_law_noun", "_law_around"] (SpF T 2 (liftV (fV F__law_back_right)))) (cV__law_left_right : GP P w K mg base 7 "_law_left_right" ["_law_noun", "_law_around"] (SpF T 2 (liftV (fV F__law_left_right)))) (cE__law_same_right : GP P w K mg base 7 "_law_same_right" ["_law_draws_here", "_law_noun", "_law_around"] (SpF T 3 (liftE (fE F__law_same_right)))) {ok : List Int → Prop}
    (hok : ∀ ns, ok ns → ∃ st', gLaw 1 5 6 fz_law fd_law gb_law gr_law ns (List.replicate 6 none) [] = some (.rt (.bl true) st')) :
    GFn P w K mg base 8 f fd ["_law_script"] (SpL T K ok) := by
  refine gfnL (k := 7) (n := 6) (t := tLaw T K 1 5 fz_law fd_law gb_law gr_law) F sc_law (fun A outer s H hr hg => ?_) law_first hok
  have sc := sc_law
  have hu := hr.units
  have hu1 := hu_of hr
  refine pss_cons (ps_for PassesOwn.never rfl (pi_list (pe_lc (own := [("_law_cell", 5)]) rfl sc.nd (pi_list (pe_op op_Add (pe_slice sl_any (pv 0) po_none (po_some pe_int)) ?_)) (blkOk_by (by rfl)) (fun _ _ _ _ _ => jg 5 sc.nd) (fun _ _ _ _ _ => pts_nil) (fun _ _ _ _ _ => ?_))) (jg 1 sc.nd) ?_) ?_
  · exact (jLstV (jCons jInt jNil))
  · exact (jCallP (k := 1) (x := "_law_draws") (ps := ["_law_cell"]) (F := (liftR (fR F__law_draws))) (by exact cR__law_draws) (by exact hr.mono (by decide)) (by exact hg) (by rfl) (jCons (jv 5) jNil))
  · exact (jsCons (jsAsg sim_g3 (jCallP (k := 3) (x := "_law_window") (ps := ["_law_draws_here", "_law_most"]) (F := (liftE (fE F__law_window))) (by exact cE__law_window) (by exact hr.mono (by decide)) (by exact hg) (by rfl) (jCons (jv 1) (jCons jInt jNil))) (jg3 rfl (jg 2 sc.nd) (jg 3 sc.nd) (jg 4 sc.nd)))
    (jsCons (jsIf (PW.pt (jwOr (jtNot (jtVal (jCallP (k := 7) (x := "_law_left_right") (ps := ["_law_noun", "_law_around"]) (F := (liftV (fV F__law_left_right))) (by exact cV__law_left_right) (by exact hr.mono (by decide)) (by exact hg) (by rfl) (jCons (jv 2) (jCons (jv 4) jNil))))) (jwOr1 (jtNot (jtVal (jCallP (k := 5) (x := "_law_back_right") (ps := ["_law_noun", "_law_around"]) (F := (liftV (fV F__law_back_right))) (by exact cV__law_back_right) (by exact hr.mono (by decide)) (by exact hg) (by rfl) (jCons (jv 2) (jCons (jv 4) jNil))))))))
    (jsOne (jsRet jBl))
    jsNil)
    (jsOne (jsIf (jtNot (jtVal (jCallP (k := 7) (x := "_law_same_right") (ps := ["_law_draws_here", "_law_noun", "_law_around"]) (F := (liftE (fE F__law_same_right))) (by exact cE__law_same_right) (by exact hr.mono (by decide)) (by exact hg) (by rfl) (jCons (jv 1) (jCons (jv 2) (jCons (jv 4) jNil))))))
    (jsOne (jsRet jBl))
    jsNil))))
  · exact (jsOne (jsRet (jAnd (jCallP (k := 7) (x := "_law_left_right") (ps := ["_law_noun", "_law_around"]) (F := (liftV (fV F__law_left_right))) (by exact cV__law_left_right) (by exact hr.mono (by decide)) (by exact hg) (by rfl) (jCons jStr (jCons jStr jNil))) (jAnd (jCallP (k := 7) (x := "_law_left_right") (ps := ["_law_noun", "_law_around"]) (F := (liftV (fV F__law_left_right))) (by exact cV__law_left_right) (by exact hr.mono (by decide)) (by exact hg) (by rfl) (jCons jStr (jCons jStr jNil))) (jOne (jCallP (k := 5) (x := "_law_back_right") (ps := ["_law_noun", "_law_around"]) (F := (liftV (fV F__law_back_right))) (by exact cV__law_back_right) (by exact hr.mono (by decide)) (by exact hg) (by rfl) (jCons jStr (jCons jStr jNil))))))))
end K84

set_option Elab.async false
set_option linter.all false
set_option maxRecDepth 100000
set_option maxHeartbeats 1000000
namespace K84
open PySem PySem.Spec PyProof.Rows L2 HB
theorem run_letter (z : Str) : fV F_is_letter [.str z] = some (.bl (letB z)) := by
  have e : g_is_letter (startD 1 [.str z]) [] = some (.rt (.bl (letB z)) []) := by
    refine s_ret ?_
    unfold letB
    cases h1 : decide (z.cps.toList < ("!" : Str).cps.toList) with
    | true => exact v_chain0 rfl (v_var rfl) (by rw [v_leS, h1]; rfl)
    | false => exact v_chain rfl (v_var rfl) (by rw [v_leS, h1]; rfl) rfl rfl
  exact fV_of (b_rt e) (deref_no rfl)
theorem run_draws (c : Int) : fR F__law_draws [.int c] = some (drw0 c).dt := by
  have p1 : ∀ r st, eOp2 gPow (eC (.int 10)) (eC (.int 60)) r st = some (.int (10 ^ 60), st) := fun r st => v_op rfl rfl (v_gI (by decide +kernel))
  have p2 : ∀ r st, eOp2 gPow (eOp2 gPow (eC (.int 10)) (eC (.int 60))) (eC (.int 60)) r st = some (.int ((10 ^ 60) ^ 60), st) := fun r st => v_op (p1 r st) rfl (v_gI (by decide +kernel))
  have p3 : ∀ r st, eOp2 gPow (eOp2 gPow (eOp2 gPow (eC (.int 10)) (eC (.int 60))) (eC (.int 60))) (eC (.int 4)) r st = some (.int bigM, st) := fun r st => v_op (p2 r st) rfl (v_gI (by decide +kernel))
  have hM : 0 < bigM := by unfold bigM; decide +kernel
  have e : g__law_draws (startD 1 [.int c]) [] = some (.rt (.ref 0) [some (.lst [.int (c % bigM), .int 0, .bl (decide (10 ^ 18 ≤ c))])]) := by
    refine s_ret (v_toR0 (v_small (v_cons (v_op (v_N (v_one (v_var rfl)) rfl) (p3 _ _) (v_gI (decide_eq_true hM))) (v_cons rfl (v_one (v_op (v_var rfl) (v_op rfl rfl (v_gI (by decide +kernel))) rfl)))) (by show 3 ≤ sizeLine; decide)))
  exact fR_lst (b_rt e) rfl rfl
theorem run_next (x : Drw) (hk : x.k < 1000000) : fE F__law_next x.dt [] = some (.int (nextN x).1, (nextN x).2.dt) := by
  obtain ⟨a, k, b⟩ := x
  dsimp only at hk
  have s1 : ∀ {r : Evr} {st st1 st2 st3 : Sto} {fd fk fv : SE} {v : Dt} {i : Nat} {z : Int} {es : List Dt} {j : Nat}, fv r st = some (v, st1) → fd r st1 = some (.ref i, st2) → fk r st2 = some (.int z, st3) → st3[i]? = some (some (.lst es)) → ixN es.length z = some j → sLP fd fk fv r st = some (.nx r (st3.set i (some (.lst (es.set j v))))) := by
    intro r st st1 st2 st3 fd fk fv v i z es j h1 h2 h3 h4 h5
    unfold sLP
    rw [h1]
    show (fd r st1).bind _ = _
    rw [h2]
    show (fk r st2).bind _ = _
    rw [h3]
    show (match st3[i]? with
      | some (some (.lst ds)) => (ixN ds.length z).map fun j => Ou.nx r (st3.set i (some (.lst (ds.set j v))))
      | _ => none) = _
    rw [h4]
    show (ixN es.length z).map _ = _
    rw [h5]
    rfl
  cases b with
  | true =>
    have e : g__law_next (startD 3 [.ref 0]) [some (.lst [.int a, .int (k : Nat), .bl true])] = some (.rt (.int (a % 1000000)) [some (.lst [.int (a / 1000000), .int ((k : Nat) + 1), .bl true])]) := by
      refine s_seq (s1 (v_op (v_op (v_var rfl) rfl rfl) rfl rfl) (v_var rfl) rfl rfl rfl) ?_
      refine s_seq (s_set (v_op (v_var rfl) rfl rfl)) ?_
      refine s_seqRt (s_ifT (t_B (v_op (v_var rfl) rfl rfl)) ?_)
      refine s_seq (s_set (v_op (v_N (v_one (v_op (v_var rfl) rfl rfl)) rfl) (v_op rfl rfl (v_gI (by decide +kernel))) (v_gI (hMd _ _ (by decide +kernel))))) ?_
      refine s_seq (s1 (v_op (v_op (v_var rfl) rfl rfl) (v_op rfl rfl (v_gI (by decide +kernel))) (v_gI (hDv _ _ (by decide +kernel)))) (v_var rfl) rfl rfl rfl) ?_
      exact s_ret (v_var rfl)
    refine fE_of (c' := .lst [.int (a / 1000000), .int ((k : Nat) + 1), .bl true]) (x := .int (a % 1000000)) (b_rt0 e) rfl rfl (deref_no rfl)
  | false =>
    have hk1 : cMul ((k : Int) + 1) ((k : Int) + 1) = true := by unfold cMul; simp only [decide_eq_true_eq]; left; constructor <;> omega
    have hR : ∀ (i j : Int), (-(2 ^ 64) < j ∧ j < 2 ^ 64) → cMul i j = true := fun i j h => by unfold cMul; simp only [decide_eq_true_eq]; exact .inr h
    have n1 : ∀ z : Int, -(2 ^ 64) < z % 2147483629 ∧ z % 2147483629 < 2 ^ 64 := fun z => by
      have a1 := Int.emod_nonneg z (show (2147483629 : Int) ≠ 0 by decide)
      have a2 := Int.emod_lt_of_pos z (show (0 : Int) < 2147483629 by decide)
      omega
    have n2 : ∀ z : Int, -(2 ^ 64) < z % 2147483587 + 2 ∧ z % 2147483587 + 2 < 2 ^ 64 := fun z => by
      have a1 := Int.emod_nonneg z (show (2147483587 : Int) ≠ 0 by decide)
      have a2 := Int.emod_lt_of_pos z (show (0 : Int) < 2147483587 by decide)
      omega
    have e : g__law_next (startD 3 [.ref 0]) [some (.lst [.int a, .int (k : Nat), .bl false])] = some (.rt (.int (mixN a ((k : Nat) + 1))) [some (.lst [.int a, .int ((k : Nat) + 1), .bl false])]) := by
      refine s_seq (s1 (v_op (v_op (v_var rfl) rfl rfl) rfl rfl) (v_var rfl) rfl rfl rfl) ?_
      refine s_seq (s_set (v_op (v_var rfl) rfl rfl)) ?_
      refine s_seq (s_ifF (t_B (v_op (v_var rfl) rfl rfl)) rfl) ?_
      refine s_seq (s_set (v_op (v_N (v_one (v_op (v_op (v_op (v_op (v_N (v_one (v_op (v_var rfl) rfl rfl)) rfl) rfl (v_gI (hMd _ _ (by decide)))) (v_op (v_op (v_var rfl) (v_var rfl) (zMulZ hk1)) rfl (zMulZ (hR _ _ (by decide)))) rfl) (v_var rfl) rfl) rfl (zMulZ (hR _ _ (by decide))))) rfl) rfl (v_gI (hMd _ _ (by decide))))) ?_
      refine s_seq (s_set (v_op (v_N (v_one (v_op (v_var rfl) (v_var rfl) (zMulZ (hR _ _ (n1 _))))) rfl) rfl (v_gI (hMd _ _ (by decide))))) ?_
      exact s_ret (v_op (v_op (v_N (v_one (v_op (v_var rfl) (v_op (v_var rfl) rfl rfl) (zMulZ (hR _ _ (n2 _))))) rfl) rfl (v_gI (hMd _ _ (by decide)))) rfl (v_gI (hDv _ _ (by decide))))
    refine fE_of (c' := .lst [.int a, .int ((k : Nat) + 1), .bl false]) (x := .int (mixN a ((k : Nat) + 1))) (b_rt0 e) rfl rfl (deref_no rfl)
section
variable {ws : List Str} {n : Nat}
theorem run_check_words (hg : Good ws n) : fV F_check_words [WL ws] = some .non := by
  have h1 := hg.l1
  have h5 := hg.l5
  have hn1 := hg.n1
  have hn7 := hg.n7
  obtain ⟨w0, ws', ew⟩ : ∃ w0 ws', ws = w0 :: ws' := by
    cases ws with
    | nil => simp at h1
    | cons x y => exact ⟨x, y, rfl⟩
  have hw0 : w0 ∈ ws := by rw [ew]; simp
  have hx0 : atI (ws.map Dt.str) 0 = some (.str w0) := by rw [ew]; exact atI_zero _ _
  have hl := (for_st (kt := kTup (ksCons (kName 1) (ksCons (kName 2) ksNil))) (g := b2_check_words) (fun p : Str × Nat => Dt.tup [.int p.2, .str p.1]) (fun s : Option Dt × Option Dt => [some (WL ws), s.1, s.2, none]) (fun _ => []) (fun _ p => (some (.int p.2), some (.str p.1))) (fun _ => True) ws.zipIdx (none, none) trivial ?_).1
  · have e : enumL (ws.map Dt.str) = ws.zipIdx.map fun p : Str × Nat => Dt.tup [.int p.2, .str p.1] := by
      unfold enumL
      rw [List.zipIdx_map, List.map_map]
      rfl
    have e2 : g_check_words (startD 4 [WL ws]) [] = some (.nx [some (WL ws), (ws.zipIdx.foldl (fun (_ : Option Dt × Option Dt) (p : Str × Nat) => (some (Dt.int p.2), some (.str p.1))) (none, none)).1, (ws.zipIdx.foldl (fun (_ : Option Dt × Option Dt) (p : Str × Nat) => (some (Dt.int p.2), some (.str p.1))) (none, none)).2, none] []) := by
      have c1 : (1 : Int) ≤ ws.length := by omega
      have c2 : (ws.length : Int) ≤ 5 := by omega
      simp [g_check_words, startD, c1, c2, en]
      rw [e]
      exact hl
    exact fV_of (b_nx e2) (deref_no rfl)
  · rintro ⟨s1, s2⟩ ⟨w, i⟩ hm _
    refine ⟨_, rfl, ?_, trivial⟩
    have hi := List.mem_zipIdx_iff_getElem?.mp hm
    dsimp only at hi
    have hw : w ∈ ws := List.mem_of_getElem? hi
    have hln := hg.len w hw
    have hz := good_len hg hw
    have hlc : lcGo (kName 3) cYes e1_check_words [some (WL ws), some (.int i), some (.str w), none] (w.cps.toList.map fun c => .str ⟨#[c]⟩) [] = some (((w.cps.toList.filter fun _ => true)).map fun c => .bl (letB ⟨#[c]⟩), []) :=
      lcGo_pure _ _ _ _ fun c hc => ⟨_, rfl, rfl, fun _ => by simp [e1_check_words, run_letter]⟩
    rw [List.filter_eq_self.mpr (by simp)] at hlc
    have hall := bools_all w.cps.toList (hg.let_ w hw)
    have hz' : w.cps.size ≤ sizeLine := hz
    have nin : w ∉ ws.take i := by
      intro z
      obtain ⟨j, hj, e⟩ := List.mem_take_iff_getElem.mp z
      have hj' : j < i := by omega
      have := (List.getElem?_inj (i := i) (j := j) (by have := (List.getElem?_eq_some_iff.mp hi).1; omega) hg.nd).mp (by rw [hi, List.getElem?_eq_getElem (by omega), e])
      omega
    have hin : gInZ false [] (.str w) (.lst (cutL (ws.map Dt.str) none (some (i : Int)))) = some (.bl false, []) := v_inF (l := ws.take i) (by rw [cutL_map]; rfl) nin
    have k0 := zLenS (st := []) (good_len hg hw0)
    have k1 := zLenS (st := []) hz
    have c1 : (1 : Int) ≤ n := by omega
    have c2 : (n : Int) ≤ 7 := by omega
    simp [b2_check_words, k1, hln, c1, c2]
    rw [hlc]
    simp [hz', hall, hin]
    simp [zIx hx0, k1, k0, hln, hg.len w0 hw0, hall, hin]
end
theorem run_whole (i : Int) : fV F_is_whole [.int i] = some (.bl true) := fV_of (b_rt (d := .bl true) (st1 := []) rfl) (deref_no rfl)

/-- the window: word, order of looks, letters -/
structure Win (w al ord : List Nat) : Prop where
  n1 : 1 ≤ w.length
  n7 : w.length ≤ 7
  la : ∀ c ∈ al, letB (sg c) = true
  na : al.Nodup
  a5 : al.length ≤ 1000
  sub : ∀ c ∈ w, c ∈ al
  ol : ord.length = w.length
  on : ord.Nodup
  ob : ∀ p ∈ ord, 1 ≤ p ∧ p ≤ w.length
  cov : ∀ q, 1 ≤ q → q ≤ w.length → q ∈ ord
def OD (ord : List Nat) : Dt := .lst (ord.map fun p : Nat => .int p)
theorem nr_ints {l : List Nat} : noRefs (l.map fun p : Nat => Dt.int p) = true := noRefs_map fun _ _ => rfl
@[simp] theorem nrOD {ord : List Nat} : noRef (OD ord) = true := by unfold OD; rw [nrL]; exact nr_ints
section
variable {w al ord : List Nat}
theorem Win.good (h : Win w al ord) : Good [tx w] w.length := ⟨h.n1, h.n7, by simp, by simp, fun v hv => by
  simp at hv; subst hv; simp, fun v hv c hc => by
  simp at hv; subst hv; rw [tx_cps] at hc; exact h.la c (h.sub c hc), by simp⟩
theorem Win.wz (h : Win w al ord) : w.length ≤ sizeLine := by have := h.n7; have := line_ge; omega
theorem Win.az (h : Win w al ord) : al.length ≤ sizeLine := by have := h.a5; have := line_ge; omega
theorem not_mem_take {α : Type} {l : List α} {x : α} {i : Nat} (nd : l.Nodup) (hi : l[i]? = some x) : x ∉ l.take i := by
  intro z
  obtain ⟨j, hj, e⟩ := List.mem_take_iff_getElem.mp z
  have hj' : j < i := by omega
  have := (List.getElem?_inj (i := i) (j := j) (by have := (List.getElem?_eq_some_iff.mp hi).1; omega) nd).mp (by rw [hi, List.getElem?_eq_getElem (by omega), e])
  omega
theorem run_check_order (h : Win w al ord) : fV F_check_order [OD ord, .str (tx w)] = some .non := by
  have k1 := zLenT (st := []) h.wz
  have h1 : enumL (ord.map fun p : Nat => Dt.int p) = ord.zipIdx.map fun p : Nat × Nat => Dt.tup [.int p.2, .int p.1] := by
    unfold enumL; rw [List.zipIdx_map, List.map_map]; rfl
  have H := for_ex (kt := kTup (ksCons (kName 2) (ksCons (kName 3) ksNil))) (g := b1_check_order) (fun p : Nat × Nat => Dt.tup [.int p.2, .int p.1]) (fun s : Option Dt × Option Dt => [some (OD ord), some (.str (tx w)), s.1, s.2]) (fun _ => []) (fun _ p => (some (.int p.2), some (.int p.1))) (fun _ => True) ord.zipIdx (none, none) trivial ?_
  · obtain ⟨⟨q1, q2⟩, hl, -⟩ := H
    have e : ∃ r', g_check_order (startD 4 [OD ord, .str (tx w)]) [] = some (.nx r' []) := by
      refine ⟨[some (OD ord), some (.str (tx w)), q1, q2], ?_⟩
      have e1 : (ord.length : Int) = w.length := by rw [h.ol]
      simp [g_check_order, startD, OD, k1, e1, en, h1]
      exact hl
    obtain ⟨r', e⟩ := e
    exact fV_of (b_nx e) (deref_no rfl)
  · rintro ⟨s1, s2⟩ ⟨p, i⟩ hm _
    refine ⟨_, rfl, ?_, trivial⟩
    have hi := List.mem_zipIdx_iff_getElem?.mp hm
    dsimp only at hi
    have hp := h.ob p (List.mem_of_getElem? hi)
    have c1 : (1 : Int) ≤ p := by omega
    have c2 : (p : Int) ≤ w.length := by omega
    have hin : gInZ false [] (.int p) (.lst (cutL (ord.map fun p : Nat => Dt.int p) none (some (i : Int)))) = some (.bl false, []) := by
      rw [cutL_map, zInI, decide_eq_false (not_mem_take h.on hi)]; rfl
    simp [b1_check_order, run_whole, k1, c1, c2, OD, hin]
theorem run_check_letters (h : Win w al ord) : fV F_check_letters [.str (tx al), .lst [.str (tx w)]] = some .non := by
  have H := for_ex (kt := kTup (ksCons (kName 2) (ksCons (kName 3) ksNil))) (g := b1_check_letters) (fun p : Nat × Nat => Dt.tup [.int p.2, .str (sg p.1)]) (fun s : Option Dt × Option Dt => [some (.str (tx al)), some (.lst [.str (tx w)]), s.1, s.2, none]) (fun _ => []) (fun _ p => (some (.int p.2), some (.str (sg p.1)))) (fun _ => True) al.zipIdx (none, none) trivial ?_
  · obtain ⟨⟨q1, q2⟩, hl, -⟩ := H
    have hz := line_ge
    have e : ∃ r', g_check_letters (startD 5 [.str (tx al), .lst [.str (tx w)]]) [] = some (.nx r' []) := by
      refine ⟨[some (.str (tx al)), some (.lst [.str (tx w)]), q1, q2, none], ?_⟩
      have hlc : ∀ r1 : Option Dt, lcGo (kName 3) cYes e2_check_letters [some (.str (tx al)), some (.lst [.str (tx w)]), r1, none, some (.str (tx w))] (w.map fun c => .str (sg c)) [] = some (w.map fun c => .bl (decide (c ∈ al)), []) := fun r1 =>
        lcGo_map _ _ _ fun c hc => ⟨_, rfl, by simp [e2_check_letters]⟩
      have hall : gAll [] [.lst (w.map fun c => Dt.bl (decide (c ∈ al)))] = some (.bl true, []) := by
        rw [bools_allT]
        have : w.all (fun c => decide (c ∈ al)) = true := by rw [List.all_eq_true]; intro c hc; exact decide_eq_true (h.sub c hc)
        rw [this]
      have hw7 := h.n7
      simp [g_check_letters, startD]
      rw [hl]
      simp [lc2, lc2Go, hlc, hall, h.wz]
    obtain ⟨r', e⟩ := e
    exact fV_of (b_nx e) (deref_no rfl)
  · rintro ⟨s1, s2⟩ ⟨c, i⟩ hm _
    refine ⟨_, rfl, ?_, trivial⟩
    have hi := List.mem_zipIdx_iff_getElem?.mp hm
    dsimp only at hi
    have hc : c ∈ al := List.mem_of_getElem? hi
    have nin := not_mem_take h.na hi
    have e := run_letter (sg c)
    rw [h.la c hc] at e
    simp [b1_check_letters, e, zSlT h.az, cutL_to, nin]
theorem run_check_window (h : Win w al ord) : fV F_check_window [.str (tx w), OD ord, .str (tx al)] = some .non := by
  have hz := line_ge
  have e : g_check_window (startD 3 [.str (tx w), OD ord, .str (tx al)]) [] = some (.nx [some (.str (tx w)), some (OD ord), some (.str (tx al))] []) := by
    have h1 := run_check_words h.good
    have h2 := run_check_order h
    have h3 := run_check_letters h
    have l1 : 1 ≤ sizeLine := by omega
    unfold WL at h1
    simp at h1
    simp [g_check_window, startD, h1, h2, h3, l1]
  exact fV_of (b_nx e) (deref_no rfl)
theorem run_is_skip {t : Nat} (h : Win w al ord) (h1 : 1 ≤ t) (h2 : t ≤ w.length) : fV F_is_skip [.int t, .str (tx w)] = some (.bl true) := by
  have c1 : (1 : Int) ≤ t := by omega
  have c2 : (t : Int) ≤ w.length := by omega
  have e : g_is_skip (startD 2 [.int t, .str (tx w)]) [] = some (.rt (.bl true) []) := by
    simp [g_is_skip, startD, run_whole, zLenT h.wz, c1, c2]
  exact fV_of (b_rt e) (deref_no rfl)
theorem run_check_over {l : List Nat} (h : ∀ c ∈ l, c ∈ al) : fV F_check_over [.str (tx l), .str (tx al)] = some .non := by
  have H := for_ex (kt := kTup (ksCons (kName 2) (ksCons (kName 3) ksNil))) (g := b1_check_over) (fun p : Nat × Nat => Dt.tup [.int p.2, .str (sg p.1)]) (fun s : Option Dt × Option Dt => [some (.str (tx l)), some (.str (tx al)), s.1, s.2]) (fun _ => []) (fun _ p => (some (.int p.2), some (.str (sg p.1)))) (fun _ => True) l.zipIdx (none, none) trivial ?_
  · obtain ⟨⟨q1, q2⟩, hl, -⟩ := H
    have e : ∃ r', g_check_over (startD 4 [.str (tx l), .str (tx al)]) [] = some (.nx r' []) := by
      refine ⟨[some (.str (tx l)), some (.str (tx al)), q1, q2], ?_⟩
      simp [g_check_over, startD]
      exact hl
    obtain ⟨r', e⟩ := e
    exact fV_of (b_nx e) (deref_no rfl)
  · rintro ⟨s1, s2⟩ ⟨c, i⟩ hm _
    refine ⟨_, rfl, ?_, trivial⟩
    have hi := List.mem_zipIdx_iff_getElem?.mp hm
    dsimp only at hi
    have hc := h c (List.mem_of_getElem? hi)
    simp [b1_check_over, hc]
end
end K84

set_option Elab.async false
set_option linter.all false
set_option maxRecDepth 100000
set_option maxHeartbeats 1000000
namespace K84
open PySem PySem.Spec PyProof.Rows L2 HB
abbrev Row := List Nat × (Nat → Nat)
def rowD (r : Row) : Dt := .dic (r.1.map fun c => Sum.inr (sg c)) (r.1.map fun c => .int (r.2 c))
def tabD (t0 : Nat) (rows : List Row) : Dt := .lst (.int t0 :: rows.map rowD)
@[simp] theorem nr_rowD {r : Row} : noRef (rowD r) = true := by unfold rowD; rw [nrD]; exact noRefs_map fun _ _ => rfl
@[simp] theorem nr_tabD {t0 : Nat} {rows : List Row} : noRef (tabD t0 rows) = true := by
  unfold tabD; rw [nrL, nrCons]
  simp [noRefs_map (f := rowD) (l := rows) fun _ _ => nr_rowD]
theorem pGet_sg (c : Nat) (g : Nat → Dt) : ∀ ks : List Nat, pGet (Sum.inr (sg c)) (ks.map fun c => (Sum.inr (sg c) : Key)) (ks.map g) = if c ∈ ks then some (g c) else none
  | [] => rfl
  | k :: ks => by
    rw [List.map_cons, List.map_cons]
    unfold pGet
    by_cases h : k = c
    · subst h; simp
    · have h1 : ¬ ((Sum.inr (sg k) : Key) = Sum.inr (sg c)) := fun z => h (sg_inj.mp (by injection z))
      rw [if_neg h1, pGet_sg c g ks]
      have : c ≠ k := fun z => h z.symm
      simp [this]
theorem ix_row {st : Sto} {r : Row} {c : Nat} (h : c ∈ r.1) : gIx st (rowD r) (.str (sg c)) = some (.int (r.2 c), st) := zIxD (k := Sum.inr (sg c)) rfl (by rw [pGet_sg, if_pos h])
def chr (s : Str) : Nat := s.cps.toList.headD 0
@[simp] theorem chr_sg (c : Nat) : chr (sg c) = c := rfl
/-- the letters, sorted -/
def sl (al : List Nat) : List Nat := (sortS (al.map sg)).map chr
theorem sl_sg (al : List Nat) : (sl al).map sg = sortS (al.map sg) := by
  unfold sl
  rw [List.map_map]
  have : ∀ s ∈ sortS (al.map sg), (sg ∘ chr) s = s := fun s hs => by
    have hs' := (sortS_perm _).mem_iff.mp hs
    obtain ⟨c, _, rfl⟩ := List.mem_map.mp hs'
    rfl
  conv => rhs; rw [← List.map_id (sortS (al.map sg))]
  exact List.map_congr_left this
theorem sl_perm (al : List Nat) : (sl al).Perm al := by
  have := (sortS_perm (al.map sg)).map chr
  rw [List.map_map] at this
  have e : al.map (chr ∘ sg) = al := by conv => rhs; rw [← List.map_id al]
                                        exact List.map_congr_left fun _ _ => rfl
  rw [e] at this
  exact this
theorem sort_tx {st : Sto} {al : List Nat} (h : al.length ≤ 1000) : gSortZ st [.str (tx al)] = some (.lst ((sl al).map fun c => .str (sg c)), st) := by
  show (if _ then _ else _) = _
  rw [if_pos (by rw [tx_len]; exact h)]
  have : HB.signs (tx al) = al.map sg := by unfold HB.signs; rw [tx_cps]
  rw [this, ← sl_sg, List.map_map]
  rfl
/-- the sign of the word at a place -/
def wAt (w : List Nat) (p : Nat) : Nat := w.getD (p - 1) 0
def oth (w al : List Nat) (p : Nat) : List Nat := al.filter fun c => !decide (c = wAt w p)
structure Tb (w al ord : List Nat) (t0 : Nat) (rows : List Row) : Prop where
  t1 : 1 ≤ t0
  t2 : t0 ≤ w.length
  rl : rows.length = w.length
  nd : ∀ (i : Nat) (r : Row), rows[i]? = some r → r.1.Nodup
  mem : ∀ (i : Nat) (r : Row) (p : Nat), rows[i]? = some r → ord[i]? = some p → ∀ c, c ∈ r.1 ↔ c ∈ al ∧ c ≠ wAt w p
  v1 : ∀ (i : Nat) (r : Row), rows[i]? = some r → ∀ c ∈ r.1, 1 ≤ r.2 c ∧ r.2 c ≤ w.length
section
variable {w al ord : List Nat} {t0 : Nat} {rows : List Row}
theorem run_check_skips (h : Win w al ord) (t : Tb w al ord t0 rows) : fV F_check_skips [tabD t0 rows, .str (tx w), OD ord, .str (tx al)] = some .non := by
  have hz := line_ge
  have a5 := h.a5
  have n7 := h.n7
  have H := for_any (kt := kName 4) (g := b4_check_skips) (fun i : Nat => Dt.int (1 + (i : Nat))) (fun s : Option Dt × Option Dt × Option Dt × Option Dt => [some (tabD t0 rows), some (.str (tx w)), some (OD ord), some (.str (tx al)), s.1, s.2.1, s.2.2.1, s.2.2.2]) (fun _ => [])
    (fun _ => True) (List.range w.length) (none, none, none, none) trivial ?_
  · obtain ⟨⟨q1, q2, q3, q4⟩, hl, -⟩ := H
    have e : g_check_skips (startD 8 [tabD t0 rows, .str (tx w), OD ord, .str (tx al)]) [] = some (.nx [some (tabD t0 rows), some (.str (tx w)), some (OD ord), some (.str (tx al)), q1, q2, q3, q4] []) := by
      have e0 : ((rows.map rowD).length : Int) = w.length := by rw [List.length_map, t.rl]
      refine s_seq (s_ifF (t_orF (t_nT (t_B (v_N (v_one (v_var rfl)) rfl))) (t_B (v_op (v_N (v_one (v_var rfl)) (zLenL (ds := .int t0 :: rows.map rowD))) (v_op (v_N (v_one (v_var rfl)) (zLenT h.wz)) rfl rfl) (neI (by rw [List.length_cons, List.length_map, t.rl]; rfl))))) rfl) ?_
      refine s_seq (s_ifF (t_nT (t_B (v_N (v_cons (v_op (v_var rfl) rfl (ixL 0 rfl rfl)) (v_one (v_var rfl))) (v_gF rfl (v_V (d := .bl true) (by simp) (run_is_skip h t.t1 t.t2)))))) rfl) ?_
      refine s_for (v_iR (v_cons rfl (v_one (v_op (v_N (v_one (v_var rfl)) (zLenT h.wz)) rfl rfl))) (xs := (List.range w.length).map fun i : Nat => Dt.int (1 + (i : Nat))) ?_) hl
      exact rg_one (by omega)
    exact fV_of (b_nx e) (deref_no rfl)
  · rintro ⟨s1, s2, s3, s4⟩ i hm _
    have hi : i < w.length := List.mem_range.mp hm
    have hir : i < rows.length := by rw [t.rl]; exact hi
    have hio : i < ord.length := by rw [h.ol]; exact hi
    obtain ⟨r, hr⟩ : ∃ r, rows[i]? = some r := ⟨rows[i], List.getElem?_eq_getElem hir⟩
    obtain ⟨p, hp⟩ : ∃ p, ord[i]? = some p := ⟨ord[i], List.getElem?_eq_getElem hio⟩
    have hpo := h.ob p (List.mem_of_getElem? hp)
    have ndo : (oth w (sl al) p).Nodup := nodup_filter _ ((sl_perm al).nodup_iff.mpr h.na)
    have mo : ∀ c, c ∈ oth w (sl al) p ↔ c ∈ r.1 := fun c => by
      rw [t.mem i r p hr hp]
      unfold oth
      rw [List.mem_filter, (sl_perm al).mem_iff]
      simp
    have hlen : (oth w (sl al) p).length = r.1.length := ((List.perm_ext_iff_of_nodup ndo (t.nd i r hr)).mpr mo).length_eq
    have lo : (oth w (sl al) p).length ≤ 1000 := by
      have := List.length_filter_le (fun c => !decide (c = wAt w p)) (sl al)
      rw [(sl_perm al).length_eq] at this
      unfold oth; omega
    have hx : ∀ {R : Evr} {st : Sto}, R[0]? = some (some (tabD t0 rows)) → R[4]? = some (some (.int (1 + (i : Nat)))) → eOp2 gIx (eVar 0) (eVar 4) R st = some (rowD r, st) := fun h0 h4 => v_op (v_var h0) (v_var h4) (ixL (i + 1) (by omega) (by simp [hr]))
    have hlc : lcGo (kName 7) c1_check_skips e1_check_skips [some (tabD t0 rows), some (.str (tx w)), some (OD ord), some (.str (tx al)), some (.int (1 + (i : Nat))), s2, s3, none] ((sl al).map fun c => .str (sg c)) [] = some ((oth w (sl al) p).map fun c => .str (sg c), []) :=
      lcGo_pure _ _ _ _ fun c hc => ⟨_, rfl, t_B (v_op (v_var rfl) (v_op (v_var rfl) (v_op (v_op (v_var rfl) (v_op (v_var rfl) rfl zMin) (ixL (d := .int p) i (by omega) (by simp [hp]))) rfl zMin) (ixT (p - 1) h.wz (by omega) (by omega))) (by rw [zNeS]; simp [wAt])), fun _ => v_var rfl⟩
    have hin : ∀ (r4 : Option Dt), lcGo (kName 7) cYes e2_check_skips [some (tabD t0 rows), some (.str (tx w)), some (OD ord), some (.str (tx al)), some (.int (1 + (i : Nat))), some (rowD r), some (.lst ((oth w (sl al) p).map fun c => .str (sg c))), none] ((oth w (sl al) p).map fun c => .str (sg c)) [] = some ((oth w (sl al) p).map fun c => .bl (decide (c ∈ r.1)), []) := fun r4 =>
      lcGo_map _ _ _ fun c hc => ⟨_, rfl, v_op (v_var rfl) (v_var rfl) (by rw [rowD, zInDk, pGet_sg]; by_cases hm : c ∈ r.1 <;> simp [hm])⟩
    have hall : gAll [] [.lst ((oth w (sl al) p).map fun c => Dt.bl (decide (c ∈ r.1)))] = some (.bl true, []) := by
      rw [bools_allT]
      have : (oth w (sl al) p).all (fun c => decide (c ∈ r.1)) = true := by rw [List.all_eq_true]; intro c hc; exact decide_eq_true ((mo c).mp hc)
      rw [this]
    obtain ⟨q, hq, -⟩ := for_any (kt := kName 7) (g := b3_check_skips) (fun c : Nat => Dt.str (sg c)) (fun s : Option Dt => [some (tabD t0 rows), some (.str (tx w)), some (OD ord), some (.str (tx al)), some (.int (1 + (i : Nat))), some (rowD r), some (.lst ((oth w (sl al) p).map fun c => .str (sg c))), s]) (fun _ => []) (fun _ => True) (oth w (sl al) p) s4 trivial fun s c hc _ => ⟨_, some (.str (sg c)), rfl, by
      have hc' := (mo c).mp hc
      have hv := t.v1 i r hr c hc'
      exact s_ifF (t_nT (t_B (v_N (v_cons (v_op (v_var rfl) (v_var rfl) (ix_row hc')) (v_one (v_var rfl))) (v_gF rfl (v_V (d := .bl true) (by simp) (run_is_skip h hv.1 hv.2)))))) rfl, trivial⟩
    refine ⟨_, (some (.int (1 + (i : Nat))), some (rowD r), some (.lst ((oth w (sl al) p).map fun c => .str (sg c))), q), rfl, ?_, trivial⟩
    have k1 : toT (aCons (eOp2 gIx (eVar 0) (eVar 4)) (aCons (toV (lc (iE itL (eN gSortZ (aCons (eVar 3) aNil))) [7] (kName 7) c1_check_skips e1_check_skips)) aNil)) [some (tabD t0 rows), some (.str (tx w)), some (OD ord), some (.str (tx al)), some (.int (1 + (i : Nat))), s2, s3, s4] [] = some (.tup [rowD r, .lst ((oth w (sl al) p).map fun c => .str (sg c))], []) := by
      exact v_toT (v_cons (hx rfl rfl) (v_one (v_toV (v_lc (v_iE (v_N (v_one (v_var rfl)) (sort_tx a5)) rfl) hlc (by rw [List.length_map]; omega))))) (by show 2 ≤ _; omega)
    refine s_seq (r1 := [some (tabD t0 rows), some (.str (tx w)), some (OD ord), some (.str (tx al)), some (.int (1 + (i : Nat))), some (rowD r), some (.lst ((oth w (sl al) p).map fun c => .str (sg c))), s4]) (st1 := []) (s_asg k1 rfl) ?_
    have k2 : eN gAll (aCons (toV (lc (iE itL (eVar 6)) [7] (kName 7) cYes e2_check_skips)) aNil) [some (tabD t0 rows), some (.str (tx w)), some (OD ord), some (.str (tx al)), some (.int (1 + (i : Nat))), some (rowD r), some (.lst ((oth w (sl al) p).map fun c => .str (sg c))), s4] [] = some (.bl true, []) := by
      have l3 : (oth w (sl al) p).length ≤ sizeLine := by omega
      refine v_N (v_one (v_toV (ds := (oth w (sl al) p).map fun c => .bl (decide (c ∈ r.1))) (v_lc (v_iE (v_var rfl) rfl) (hin none) (by rw [List.length_map]; exact l3)))) hall
    refine s_seq (s_ifF (t_orF (t_nT (t_B (v_N (v_one (v_var rfl)) rfl))) (t_orF (t_B (v_op (v_N (v_one (v_var rfl)) (zLenD (ks := r.1.map fun c => Sum.inr (sg c)))) (v_N (v_one (v_var rfl)) zLenL) (neI (by rw [List.length_map, List.length_map, hlen])))) (t_nT (t_B k2)))) rfl) (s_for (v_iE (v_var rfl) rfl) hq)
theorem run_check_all (h : Win w al ord) (t : Tb w al ord t0 rows) : fV F_check_all [.str (tx w), OD ord, .str (tx al), tabD t0 rows] = some .non := by
  have e : g_check_all (startD 4 [.str (tx w), OD ord, .str (tx al), tabD t0 rows]) [] = some (.nx [some (.str (tx w)), some (OD ord), some (.str (tx al)), some (tabD t0 rows)] []) := by
    simp [g_check_all, startD, run_check_window h, run_check_skips h t]
  exact fV_of (b_nx e) (deref_no rfl)
end
end K84

set_option Elab.async false
set_option linter.all false
set_option maxRecDepth 100000
set_option maxHeartbeats 1000000
namespace K84
open PySem PySem.Spec PyProof.Rows L2 HB
/-- the sign of the text that is looked at, whether it is another than the word's -/
def tAt (txt : List Nat) (b p : Nat) : Nat := txt.getD (b + p - 1) 0
def mis (w txt : List Nat) (b p : Nat) : Bool := !decide (tAt txt b p = wAt w p)
def fm (w ord txt : List Nat) (b : Nat) : Nat := ord.findIdx (mis w txt b)
def skp (w ord : List Nat) (t0 : Nat) (rows : List Row) (txt : List Nat) (b : Nat) : Nat := if fm w ord txt b < ord.length then (rows.getD (fm w ord txt b) ([], fun _ => 0)).2 (tAt txt b (ord.getD (fm w ord txt b) 0)) else t0
structure Tx (w al txt : List Nat) : Prop where
  z : txt.length ≤ 900
  sub : ∀ c ∈ txt, c ∈ al
section
variable {w al ord txt : List Nat} {t0 : Nat} {rows : List Row}
theorem Tx.tz (t : Tx w al txt) : txt.length ≤ sizeLine := by have := t.z; have := line_ge; omega
theorem getD_mem {l : List Nat} {k : Nat} (h : k < l.length) : l.getD k 0 ∈ l := by
  have : l.getD k 0 = l[k] := by simp [List.getD, h]
  rw [this]; exact List.getElem_mem h
theorem ix_txt {st : Sto} {b p : Nat} {i : Int} (t : Tx w al txt) (hi : i = (b : Int) + p - 1) (hp : 1 ≤ p) (hb : b + p ≤ txt.length) : gIx st (.str (tx txt)) (.int i) = some (.str (sg (tAt txt b p)), st) := ixT (b + p - 1) t.tz (by omega) (by omega)
theorem ix_w {st : Sto} {p : Nat} {i : Int} (h : Win w al ord) (hi : i = (p : Int) - 1) (hp : 1 ≤ p) (hb : p ≤ w.length) : gIx st (.str (tx w)) (.int i) = some (.str (sg (wAt w p)), st) := ixT (p - 1) h.wz (by omega) (by omega)
abbrev eW (w ord : List Nat) (t0 : Nat) (rows : List Row) (txt : List Nat) (b : Nat) (v5 v6 v7 : Option Dt) : Evr := [some (.str (tx w)), some (OD ord), some (tabD t0 rows), some (.str (tx txt)), some (.int b), v5, v6, v7]
theorem wa_loop (h : Win w al ord) (t : Tb w al ord t0 rows) (tt : Tx w al txt) {b : Nat} (hb : b + w.length ≤ txt.length) : ∀ (ps : List Nat) (i : Nat) (v5 v6 v7 : Option Dt), ord.drop i = ps →
    (ps.findIdx (mis w txt b) = ps.length ∧ ∃ v5' v6' v7', sForGo (HB.kTup (ksCons (kName 5) (ksCons (kName 6) ksNil))) b1_window_at ((ps.zipIdx i).map fun p : Nat × Nat => Dt.tup [.int p.2, .int p.1]) (eW w ord t0 rows txt b v5 v6 v7) [] = some (.nx (eW w ord t0 rows txt b v5' v6' v7') [])) ∨
    (ps.findIdx (mis w txt b) < ps.length ∧ sForGo (HB.kTup (ksCons (kName 5) (ksCons (kName 6) ksNil))) b1_window_at ((ps.zipIdx i).map fun p : Nat × Nat => Dt.tup [.int p.2, .int p.1]) (eW w ord t0 rows txt b v5 v6 v7) [] = some (.rt (.tup [.int ((i + ps.findIdx (mis w txt b) : Nat) + 1), .int ((rows.getD (i + ps.findIdx (mis w txt b)) ([], fun _ => 0)).2 (tAt txt b (ord.getD (i + ps.findIdx (mis w txt b)) 0)) : Nat), .bl false]) []))
  | [], i, v5, v6, v7, _ => .inl ⟨rfl, v5, v6, v7, rfl⟩
  | p :: ps, i, v5, v6, v7, hd => by
    have hio : i < ord.length := by
      rcases Nat.lt_or_ge i ord.length with z | z
      · exact z
      · rw [List.drop_of_length_le z] at hd; cases hd
    have hp : ord[i]? = some p := by
      rw [List.drop_eq_getElem_cons hio] at hd
      injection hd with h1 h2
      rw [List.getElem?_eq_getElem hio, h1]
    have hd2 : ord.drop (i + 1) = ps := by
      rw [List.drop_eq_getElem_cons hio] at hd
      injection hd with h1 h2
    have hpo := h.ob p (List.mem_of_getElem? hp)
    have hol := h.ol
    have s1 : sSet 7 (eOp2 gIx (eVar 3) (eOp2 gMin (eOp2 gAdd (eVar 4) (eVar 6)) (eC (.int 1)))) (eW w ord t0 rows txt b (some (.int i)) (some (.int p)) v7) [] = some (.nx (eW w ord t0 rows txt b (some (.int i)) (some (.int p)) (some (.str (sg (tAt txt b p))))) []) :=
      s_set (v_op (v_var rfl) (v_op (v_op (v_var rfl) (v_var rfl) zAddI) rfl zMin) (ix_txt tt rfl hpo.1 (by omega)))
    have c1 : cB (eOp2 gNeB (eVar 7) (eOp2 gIx (eVar 0) (eOp2 gMin (eVar 6) (eC (.int 1))))) (eW w ord t0 rows txt b (some (.int i)) (some (.int p)) (some (.str (sg (tAt txt b p))))) [] = some (mis w txt b p, []) :=
      t_B (v_op (v_var rfl) (v_op (v_var rfl) (v_op (v_var rfl) rfl zMin) (ix_w h rfl hpo.1 hpo.2)) (by rw [zNeS]; unfold mis; simp only [sg_inj]))
    rw [List.zipIdx_cons, List.map_cons, List.findIdx_cons, List.length_cons]
    cases hm : mis w txt b p with
    | true =>
      rw [hm] at c1
      right
      refine ⟨by simp, ?_⟩
      have hir : i < rows.length := by rw [t.rl]; omega
      obtain ⟨r, hr⟩ : ∃ r, rows[i]? = some r := ⟨rows[i], List.getElem?_eq_getElem hir⟩
      have hc : tAt txt b p ∈ r.1 := (t.mem i r p hr hp _).mpr ⟨tt.sub _ (getD_mem (by omega)), fun z => by unfold mis at hm; rw [decide_eq_true z] at hm; cases hm⟩
      have er : rows.getD i ([], fun _ => 0) = r := by simp [List.getD, hr]
      have ep : ord.getD i 0 = p := by simp [List.getD, hp]
      have b1 : b1_window_at (eW w ord t0 rows txt b (some (.int i)) (some (.int p)) v7) [] = some (.rt (.tup [.int ((i : Nat) + 1), .int (r.2 (tAt txt b p) : Nat), .bl false]) []) :=
        s_seq s1 (s_ifT c1 (s_ret (v_toT (v_cons (v_op (v_var rfl) rfl zAddI) (v_cons (v_op (v_op (v_var rfl) (v_op (v_var rfl) rfl zAddI) (ixL (i + 1) rfl (by simp [hr]))) (v_var rfl) (ix_row hc)) (v_one rfl))) (by show 3 ≤ _; omega))))
      simp only [cond_true, Nat.add_zero]
      rw [er, ep]
      show ((some _ : Option Evr).bind fun r1 => (b1_window_at r1 []).bind _) = _
      show (b1_window_at (eW w ord t0 rows txt b (some (.int i)) (some (.int p)) v7) []).bind _ = _
      rw [b1]
      rfl
    | false =>
      rw [hm] at c1
      have b1 : b1_window_at (eW w ord t0 rows txt b (some (.int i)) (some (.int p)) v7) [] = some (.nx (eW w ord t0 rows txt b (some (.int i)) (some (.int p)) (some (.str (sg (tAt txt b p))))) []) :=
        s_seq s1 (s_ifF c1 rfl)
      simp only [cond_false]
      rcases wa_loop h t tt hb ps (i + 1) (some (.int i)) (some (.int p)) (some (.str (sg (tAt txt b p)))) hd2 with ⟨k1, v5', v6', v7', k2⟩ | ⟨k1, k2⟩
      · left
        exact ⟨by rw [k1], v5', v6', v7', for_cons (r1 := eW w ord t0 rows txt b (some (.int i)) (some (.int p)) v7) rfl b1 k2⟩
      · right
        refine ⟨by omega, ?_⟩
        have e1 : i + (List.findIdx (mis w txt b) ps + 1) = i + 1 + List.findIdx (mis w txt b) ps := by omega
        rw [e1]
        exact for_cons (r1 := eW w ord t0 rows txt b (some (.int i)) (some (.int p)) v7) rfl b1 k2
theorem run_window_at (h : Win w al ord) (t : Tb w al ord t0 rows) (tt : Tx w al txt) {b : Nat} (hb : b + w.length ≤ txt.length) : fV F_window_at [.str (tx w), OD ord, tabD t0 rows, .str (tx txt), .int b] = some (.tup [.int (min (fm w ord txt b + 1) w.length : Nat), .int (skp w ord t0 rows txt b : Nat), .bl (decide (fm w ord txt b = w.length))]) := by
  have h1 : enumL (ord.map fun p : Nat => Dt.int p) = (ord.zipIdx 0).map fun p : Nat × Nat => Dt.tup [.int p.2, .int p.1] := by
    unfold enumL; rw [List.zipIdx_map, List.map_map]; rfl
  have hol := h.ol
  unfold skp fm
  rcases wa_loop h t tt hb ord 0 none none none rfl with ⟨k1, v5', v6', v7', k2⟩ | ⟨k1, k2⟩
  · have e : g_window_at (startD 8 [.str (tx w), OD ord, tabD t0 rows, .str (tx txt), .int b]) [] = some (.rt (.tup [.int (w.length : Nat), .int t0, .bl true]) []) :=
      s_seq (s_for (v_iR (v_one (v_var rfl)) (show en [OD ord] = some ((ord.zipIdx 0).map fun p : Nat × Nat => Dt.tup [.int p.2, .int p.1]) by unfold OD; show some (enumL _) = _; rw [h1])) k2) (s_ret (v_toT (v_cons (v_N (v_one (v_var rfl)) (zLenT h.wz)) (v_cons (v_op (v_var rfl) rfl (ixL 0 rfl rfl)) (v_one rfl))) (by show 3 ≤ _; omega)))
    rw [k1, if_neg (by omega), hol, Nat.min_eq_right (by omega)]
    simp only [decide_true]
    exact fV_of (b_rt e) (deref_no rfl)
  · simp only [Nat.zero_add] at k2
    have e := s_seqRt (k := sRet (toT (aCons (eN gLen (aCons (eVar 0) aNil)) (aCons (eOp2 gIx (eVar 2) (eC (.int 0))) (aCons (eC (.bl true)) aNil))))) (s_for (v_iR (v_one (v_var (i := 1) rfl)) (show en [OD ord] = some ((ord.zipIdx 0).map fun p : Nat × Nat => Dt.tup [.int p.2, .int p.1]) by unfold OD; show some (enumL _) = _; rw [h1])) k2)
    rw [if_pos k1, Nat.min_eq_left (by omega), decide_eq_false (by omega)]
    exact fV_of (b_rt e) (deref_no rfl)
end
end K84

set_option Elab.async false
set_option linter.all false
set_option maxRecDepth 100000
set_option maxHeartbeats 1000000
namespace K84
open PySem PySem.Spec PyProof.Rows L2 HB
/-- the search: where it begins, what it has told, how many looks it took -/
def srch (w ord : List Nat) (t0 : Nat) (rows : List Row) (txt : List Nat) : Nat → Nat → List Nat → Nat → List Nat × Nat
  | 0, _, told, lk => (told, lk)
  | n + 1, b, told, lk => if b + w.length ≤ txt.length then srch w ord t0 rows txt n (b + skp w ord t0 rows txt b) (told ++ if fm w ord txt b = w.length then [b + w.length] else []) (lk + min (fm w ord txt b + 1) w.length) else (told, lk)
def IL (l : List Nat) : Dt := .lst (l.map fun p : Nat => .int p)
@[simp] theorem nrIL {l : List Nat} : noRef (IL l) = true := by unfold IL; rw [nrL]; exact nr_ints
theorem s_aug {i : Nat} {g : Sto → Dt → Dt → Option (Dt × Sto)} {f : SE} {r : Evr} {st st1 st2 : Sto} {d y z : Dt} (hi : r[i]? = some (some d)) (hf : f r st = some (y, st1)) (hg : g st1 d y = some (z, st2)) : sAug i g f r st = some (.nx (r.set i (some z)) st2) := by
  unfold sAug; rw [hi]; show (f r st).bind _ = _; rw [hf]; show (g st1 d y).map _ = _; rw [hg]; rfl
theorem v_ifT {c : ST} {fa fb : SE} {r : Evr} {st st1 : Sto} {q : Dt × Sto} (hc : c r st = some (true, st1)) (h : fa r st1 = some q) : eIf c fa fb r st = some q := by rw [zIf, hc, Option.bind_some, if_pos rfl]; exact h
theorem v_ifF {c : ST} {fa fb : SE} {r : Evr} {st st1 : Sto} {q : Dt × Sto} (hc : c r st = some (false, st1)) (h : fb r st1 = some q) : eIf c fa fb r st = some q := by rw [zIf, hc, Option.bind_some, if_neg (by simp)]; exact h
theorem s_par2 {i j : Nat} {fs : SA} {r : Evr} {st st1 : Sto} {x y : Dt} (h : fs r st = some ([x, y], st1)) : sPar [i, j] fs r st = some (.nx ((r.set i (some x)).set j (some y)) st1) := by rw [zPar, h, Option.bind_some]; rfl
theorem v_app {fo : SE} {fs : SA} {r : Evr} {st st1 st2 : Sto} {k : Nat} {ds : List Dt} {y : Dt} (ho : fo r st = some (.ref k, st1)) (hk : st1[k]? = some (some (.lst ds))) (ha : fs r st1 = some ([y], st2)) (hk2 : st2[k]? = some (some (.lst ds))) (hl : ds.length < sizeLine) : eM isL gApp fo fs r st = some (.non, st2.set k (some (.lst (ds ++ [y])))) := by
  unfold eM
  rw [ho]
  show (if isL st1 (.ref k) = true then _ else none) = _
  have : isL st1 (.ref k) = true := by unfold isL asL; dsimp only; rw [hk]; rfl
  rw [if_pos this]
  show (fs r st1).bind _ = _
  rw [ha]
  show gApp st2 (.ref k) [y] = _
  unfold gApp
  dsimp only
  rw [hk2]
  dsimp only
  rw [if_pos hl]
theorem fm_le {w ord txt : List Nat} {b : Nat} (h : ord.length = w.length) : fm w ord txt b ≤ w.length := by unfold fm; rw [← h]; exact List.findIdx_le_length
section
variable {w al ord txt : List Nat} {t0 : Nat} {rows : List Row}
theorem skp_ok (h : Win w al ord) (t : Tb w al ord t0 rows) (tt : Tx w al txt) {b : Nat} (hb : b + w.length ≤ txt.length) : 1 ≤ skp w ord t0 rows txt b ∧ skp w ord t0 rows txt b ≤ w.length ∧ ∀ m r p, fm w ord txt b = m → m < w.length → rows[m]? = some r → ord[m]? = some p → tAt txt b p ∈ r.1 := by
  have key : ∀ m r p, fm w ord txt b = m → m < w.length → rows[m]? = some r → ord[m]? = some p → tAt txt b p ∈ r.1 := fun m r p hm hlt hr hp => by
    have hpo := h.ob p (List.mem_of_getElem? hp)
    refine (t.mem m r p hr hp _).mpr ⟨tt.sub _ (getD_mem (by omega)), fun z => ?_⟩
    have hl2 : ord.findIdx (mis w txt b) < ord.length := by have := h.ol; unfold fm at hm; omega
    have := List.findIdx_getElem (p := mis w txt b) (w := hl2)
    have e : ord[ord.findIdx (mis w txt b)] = p := by
      unfold fm at hm
      subst hm
      rw [List.getElem?_eq_getElem hl2] at hp
      exact Option.some.inj hp
    rw [e] at this
    unfold mis at this
    rw [decide_eq_true z] at this
    cases this
  refine ⟨?_, ?_, key⟩ <;>
  · unfold skp
    split
    · rename_i hlt
      have hol := h.ol
      obtain ⟨r, hr⟩ : ∃ r, rows[fm w ord txt b]? = some r := ⟨rows[fm w ord txt b]'(by rw [t.rl]; omega), List.getElem?_eq_getElem _⟩
      obtain ⟨p, hp⟩ : ∃ p, ord[fm w ord txt b]? = some p := ⟨ord[fm w ord txt b], List.getElem?_eq_getElem hlt⟩
      have er : rows.getD (fm w ord txt b) ([], fun _ => 0) = r := by simp [List.getD, hr]
      have ep : ord.getD (fm w ord txt b) 0 = p := by simp [List.getD, hp]
      rw [er, ep]
      have := t.v1 _ r hr _ (key _ r p rfl (by omega) hr hp)
      omega
    · have := t.t1
      have := t.t2
      omega
abbrev eS (w ord : List Nat) (t0 : Nat) (rows : List Row) (txt : List Nat) (b lk : Nat) (v7 v8 v9 : Option Dt) : Evr := [some (.str (tx w)), some (OD ord), some (tabD t0 rows), some (.str (tx txt)), some (.int b), some (.ref 0), some (.int lk), v7, v8, v9]
theorem si_loop (h : Win w al ord) (t : Tb w al ord t0 rows) (tt : Tx w al txt) : ∀ (n b lk : Nat) (told : List Nat) (v7 v8 v9 : Option Dt), 1 ≤ n → txt.length < b + n → told.length ≤ b →
    ∃ b' v7' v8' v9', sWh w1_search_in b1_search_in n (eS w ord t0 rows txt b lk v7 v8 v9) [some (IL told)] = some (.nx (eS w ord t0 rows txt b' (srch w ord t0 rows txt n b told lk).2 v7' v8' v9') [some (IL (srch w ord t0 rows txt n b told lk).1)])
  | 0, _, _, _, _, _, _, h, _, _ => by omega
  | n + 1, b, lk, told, v7, v8, v9, _, hn, htl => by
    have hz := line_ge
    have tz := tt.z
    have hw1 := h.n1
    have c1 : w1_search_in (eS w ord t0 rows txt b lk v7 v8 v9) [some (IL told)] = some (decide (((b + w.length : Nat) : Int) ≤ (txt.length : Int)), [some (IL told)]) :=
      t_B (v_op (v_op (v_var rfl) (v_N (v_one (v_var rfl)) (zLenT h.wz)) (by rw [zAddI])) (v_N (v_one (v_var rfl)) (zLenT tt.tz)) (by rw [zLe]; simp))
    unfold srch
    by_cases hb : b + w.length ≤ txt.length
    · rw [if_pos hb]
      rw [decide_eq_true (by omega)] at c1
      have sk := skp_ok h t tt hb
      have fl := fm_le (w := w) (ord := ord) (txt := txt) (b := b) h.ol
      have hw := run_window_at h t tt hb
      have s1 : sAsg (HB.kTup (ksCons (kName 7) (ksCons (kName 8) (ksCons (kName 9) ksNil)))) (eN (gF 5 (liftV (fV F_window_at))) (aCons (eVar 0) (aCons (eVar 1) (aCons (eVar 2) (aCons (eVar 3) (aCons (eVar 4) aNil)))))) (eS w ord t0 rows txt b lk v7 v8 v9) [some (IL told)] = some (.nx (eS w ord t0 rows txt b lk (some (.int (min (fm w ord txt b + 1) w.length : Nat))) (some (.int (skp w ord t0 rows txt b : Nat))) (some (.bl (decide (fm w ord txt b = w.length))))) [some (IL told)]) :=
        s_asg (v_N (v_cons (v_var rfl) (v_cons (v_var rfl) (v_cons (v_var rfl) (v_cons (v_var rfl) (v_one (v_var rfl)))))) (v_gF rfl (v_V (by simp) hw))) rfl
      have s2 : sAug 5 gAugA (eIf (cB (eVar 9)) (toV (small (aCons (eOp2 gAdd (eVar 4) (eN gLen (aCons (eVar 0) aNil))) aNil))) (toV (small aNil))) (eS w ord t0 rows txt b lk (some (.int (min (fm w ord txt b + 1) w.length : Nat))) (some (.int (skp w ord t0 rows txt b : Nat))) (some (.bl (decide (fm w ord txt b = w.length))))) [some (IL told)] =
          some (.nx (eS w ord t0 rows txt b lk (some (.int (min (fm w ord txt b + 1) w.length : Nat))) (some (.int (skp w ord t0 rows txt b : Nat))) (some (.bl (decide (fm w ord txt b = w.length))))) [some (IL (told ++ if fm w ord txt b = w.length then [b + w.length] else []))]) := by
        by_cases hf : fm w ord txt b = w.length
        · rw [decide_eq_true hf, if_pos hf]
          refine s_aug (d := .ref 0) (z := .ref 0) rfl (v_ifT (t_B (v_var rfl)) (v_toV (v_smallN (v_one (v_op (v_var rfl) (v_N (v_one (v_var rfl)) (zLenT h.wz)) zAddI)) (by show 1 ≤ _; omega)))) ?_
          show (if (told.map fun p : Nat => Dt.int p).length + 1 ≤ sizeLine then some (Dt.ref 0, [some (Dt.lst ((told.map fun p : Nat => Dt.int p) ++ [Dt.int ((b : Int) + w.length)]))]) else none) = _
          rw [if_pos (by rw [List.length_map]; omega)]
          unfold IL
          rw [List.map_append]
          rfl
        · rw [decide_eq_false hf, if_neg hf]
          refine s_aug (d := .ref 0) (z := .ref 0) rfl (v_ifF (t_B (v_var rfl)) (v_toV (v_smallN v_nil (by show 0 ≤ _; omega)))) ?_
          show (if (told.map fun p : Nat => Dt.int p).length + 0 ≤ sizeLine then some (Dt.ref 0, [some (Dt.lst ((told.map fun p : Nat => Dt.int p) ++ []))]) else none) = _
          rw [if_pos (by rw [List.length_map]; omega)]
          unfold IL
          rw [List.map_append]
          rfl
      have s3 : b1_search_in (eS w ord t0 rows txt b lk v7 v8 v9) [some (IL told)] = some (.nx (eS w ord t0 rows txt (b + skp w ord t0 rows txt b) (lk + min (fm w ord txt b + 1) w.length) (some (.int (min (fm w ord txt b + 1) w.length : Nat))) (some (.int (skp w ord t0 rows txt b : Nat))) (some (.bl (decide (fm w ord txt b = w.length))))) [some (IL (told ++ if fm w ord txt b = w.length then [b + w.length] else []))]) :=
        s_seq s1 (s_seq s2 (s_par2 (v_cons (v_op (v_var rfl) (v_var rfl) zAddI) (v_one (v_op (v_var rfl) (v_var rfl) zAddI)))))
      obtain ⟨b', v7', v8', v9', ih⟩ := si_loop h t tt n (b + skp w ord t0 rows txt b) (lk + min (fm w ord txt b + 1) w.length) (told ++ if fm w ord txt b = w.length then [b + w.length] else []) (some (.int (min (fm w ord txt b + 1) w.length : Nat))) (some (.int (skp w ord t0 rows txt b : Nat))) (some (.bl (decide (fm w ord txt b = w.length)))) (by omega) (by omega) (by
        rw [List.length_append]
        have : (if fm w ord txt b = w.length then [b + w.length] else []).length ≤ 1 := by split <;> simp
        omega)
      exact ⟨b', v7', v8', v9', wh_step c1 s3 ih⟩
    · rw [if_neg hb]
      rw [decide_eq_false (by omega)] at c1
      exact ⟨b, v7, v8, v9, wh_stop c1⟩
/-- what the search answers -/
def res (w ord : List Nat) (t0 : Nat) (rows : List Row) (txt : List Nat) : List Nat × Nat := srch w ord t0 rows txt 1000 0 [] 0
theorem run_search_in (h : Win w al ord) (t : Tb w al ord t0 rows) (tt : Tx w al txt) : F_search_in [.str (tx w), OD ord, tabD t0 rows, .str (tx txt)] [] = some (.tup [.ref 0, .int (res w ord t0 rows txt).2], [some (IL (res w ord t0 rows txt).1)]) := by
  have tz := tt.z
  obtain ⟨b', v7', v8', v9', e⟩ := si_loop h t tt 1000 0 0 [] none none none (by omega) (by omega) (by simp)
  refine b_rt ?_
  refine s_seq (r1 := eS w ord t0 rows txt 0 0 none none none) (st1 := [some (IL [])]) ?_ (s_seq e (s_ret (v_toT (v_cons (v_var rfl) (v_one (v_var rfl))) (by show 2 ≤ _; omega))))
  rw [zPar, v_cons rfl (v_cons (v_toR (v_smallN v_nil (by show 0 ≤ _; omega))) (v_one rfl))]
  rfl
theorem run_finds0 (h : Win w al ord) (t : Tb w al ord t0 rows) (tt : Tx w al txt) : F_finds_by_skips [.str (tx w), OD ord, .str (tx al), tabD t0 rows, .str (tx txt)] [] = some (.ref 0, [some (IL (res w ord t0 rows txt).1)]) := by
  refine b_rt ?_
  refine s_seq (s_ex (v_N (v_cons (v_var rfl) (v_cons (v_var rfl) (v_cons (v_var rfl) (v_one (v_var rfl))))) (v_gF rfl (v_V (by simp) (run_check_all h t))))) ?_
  refine s_seq (s_ex (v_N (v_cons (v_var rfl) (v_one (v_var rfl))) (v_gF rfl (v_V (by simp) (run_check_over tt.sub))))) ?_
  exact s_ret (v_op (v_N (v_cons (v_var rfl) (v_cons (v_var rfl) (v_cons (v_var rfl) (v_one (v_var rfl))))) (v_gF rfl (run_search_in h t tt))) rfl rfl)
theorem run_findsR (h : Win w al ord) (t : Tb w al ord t0 rows) (tt : Tx w al txt) : fR F_finds_by_skips [.str (tx w), OD ord, .str (tx al), tabD t0 rows, .str (tx txt)] = some (IL (res w ord t0 rows txt).1) := fR_lst (run_finds0 h t tt) rfl nr_ints
theorem run_findsV (h : Win w al ord) (t : Tb w al ord t0 rows) (tt : Tx w al txt) : fV F_finds_by_skips [.str (tx w), OD ord, .str (tx al), tabD t0 rows, .str (tx txt)] = some (IL (res w ord t0 rows txt).1) := fV_lst (run_finds0 h t tt) rfl nr_ints
theorem run_searchV (h : Win w al ord) (t : Tb w al ord t0 rows) (tt : Tx w al txt) : fV F_search_in [.str (tx w), OD ord, tabD t0 rows, .str (tx txt)] = some (.tup [IL (res w ord t0 rows txt).1, .int (res w ord t0 rows txt).2]) := by
  refine fV_of (run_search_in h t tt) ?_
  have e := deref_ref (st := [some (IL (res w ord t0 rows txt).1)]) (n := 4) (i := 0) (d := IL (res w ord t0 rows txt).1) rfl nrIL
  have n0 : noRef (.ref 0) = false := by unfold noRef; rfl
  simp [deref, derefs, e, n0]
end
end K84

set_option Elab.async false
set_option linter.all false
set_option maxRecDepth 100000
set_option maxHeartbeats 1000000
namespace K84
open PySem PySem.Spec PyProof.Rows L2 HB
def fitB (w : List Nat) (far : Nat) (p : Nat × Nat) : Bool := decide (p.1 ≤ far) || decide (w.getD (p.1 - far - 1) 0 = p.2)
/-- what was seen: places of the word -/
structure Seen (w : List Nat) (ps : List (Nat × Nat)) : Prop where
  ob : ∀ p ∈ ps, 1 ≤ p.1 ∧ p.1 ≤ w.length
  z : ps.length ≤ 1000
theorem v_frz {f : SE} {r : Evr} {st st1 : Sto} {k : Nat} {d : Dt} (h : f r st = some (.ref k, st1)) (hk : st1[k]? = some (some d)) : eFrz f r st = some (d, st1.set k none) := by
  unfold eFrz; rw [h]; show (match st1[k]? with | some (some d) => some (d, st1.set k none) | _ => none) = _; rw [hk]
theorem call_next {i : Nat} {r : Evr} {st : Sto} {x : Drw} (hi : r[i]? = some (some (.ref 0))) (h0 : st[0]? = some (some x.dt)) (hk : x.k < 1000000) : eN gInt (aCons (eN (gF 1 (liftE (fE F__law_next))) (aCons (eVar i) aNil)) aNil) r st = some (.int (nextN x).1, st.set 0 (some (nextN x).2.dt)) :=
  v_N (v_one (v_N (v_one (v_var hi)) (v_gF rfl (v_Ee (ds := []) (c := x.dt) rfl h0 rfl (run_next x hk))))) rfl
/-! the least number of places by which the word can stand further -/
def lsk (w : List Nat) (ps : List (Nat × Nat)) : Nat := 1 + ((List.range w.length).filter fun i => ps.all (fitB w (1 + i))).headD 0
/-- .. of what was seen, place by place -/
def srows (w al : List Nat) : List (Nat × Nat) → List Nat → List Row
  | _, [] => []
  | seen, p :: ps => (oth w al p, fun c => lsk w (seen ++ [(p, c)])) :: srows w al (seen ++ [(p, wAt w p)]) ps
def sn (w ord : List Nat) : List (Nat × Nat) := ord.map fun p => (p, wAt w p)
section
variable {w al ord txt : List Nat} {t0 : Nat} {rows : List Row} {ps : List (Nat × Nat)}
theorem fit_n (h : ∀ p ∈ ps, p.1 ≤ w.length) : ps.all (fitB w w.length) = true := by
  rw [List.all_eq_true]
  intro p hp
  unfold fitB
  rw [decide_eq_true (h p hp)]
  rfl
theorem lsk_mem (n1 : 1 ≤ w.length) (h : ∀ p ∈ ps, p.1 ≤ w.length) : ∃ k fr', ((List.range w.length).filter fun i => ps.all (fitB w (1 + i))) = k :: fr' := by
  cases hq : (List.range w.length).filter fun i => ps.all (fitB w (1 + i)) with
  | nil =>
    have := List.filter_eq_nil_iff.mp hq (w.length - 1) (List.mem_range.mpr (by omega))
    have e : 1 + (w.length - 1) = w.length := by omega
    rw [e, fit_n h] at this
    exact absurd rfl this
  | cons k l => exact ⟨k, l, rfl⟩
theorem lsk_ok (n1 : 1 ≤ w.length) (h : ∀ p ∈ ps, p.1 ≤ w.length) : 1 ≤ lsk w ps ∧ lsk w ps ≤ w.length ∧ ps.all (fitB w (lsk w ps)) = true := by
  obtain ⟨k, fr, e⟩ := lsk_mem n1 h
  have hm : k ∈ (List.range w.length).filter fun i => ps.all (fitB w (1 + i)) := by rw [e]; simp
  obtain ⟨h1, h2⟩ := List.mem_filter.mp hm
  have := List.mem_range.mp h1
  have el : lsk w ps = 1 + k := by unfold lsk; rw [e]; rfl
  rw [el]
  exact ⟨by omega, by omega, h2⟩
theorem head_le {p : Nat → Bool} {n i k : Nat} {l : List Nat} (e : (List.range n).filter p = k :: l) (hi : i < n) (hp : p i = true) : k ≤ i := by
  have hs : ((List.range n).filter p).Pairwise (· < ·) := List.Pairwise.filter _ List.pairwise_lt_range
  have hm : i ∈ (List.range n).filter p := List.mem_filter.mpr ⟨List.mem_range.mpr hi, hp⟩
  rw [e] at hs hm
  rcases List.mem_cons.mp hm with z | z
  · omega
  · have := (List.pairwise_cons.mp hs).1 i z
    omega
theorem lsk_le (n1 : 1 ≤ w.length) (h : ∀ p ∈ ps, p.1 ≤ w.length) {far : Nat} (h1 : 1 ≤ far) (h2 : far ≤ w.length) (hf : ps.all (fitB w far) = true) : lsk w ps ≤ far := by
  obtain ⟨k, fr, e⟩ := lsk_mem n1 h
  have el : lsk w ps = 1 + k := by unfold lsk; rw [e]; rfl
  have := head_le (i := far - 1) e (by omega) (by
    have e' : 1 + (far - 1) = far := by omega
    rw [e']; exact hf)
  omega
theorem srows_len : ∀ (ps : List Nat) (seen : List (Nat × Nat)), (srows w al seen ps).length = ps.length
  | [], _ => rfl
  | p :: ps, seen => by unfold srows; rw [List.length_cons, List.length_cons, srows_len ps]
theorem srows_get : ∀ (ps : List Nat) (seen : List (Nat × Nat)) (i : Nat) (p : Nat), ps[i]? = some p → (srows w al seen ps)[i]? = some (oth w al p, fun c => lsk w (seen ++ sn w (ps.take i) ++ [(p, c)]))
  | [], _, i, p, h => by simp at h
  | q :: ps, seen, 0, p, h => by
    simp at h
    subst h
    unfold srows sn
    simp
  | q :: ps, seen, i + 1, p, h => by
    simp at h
    unfold srows
    rw [List.getElem?_cons_succ, srows_get ps _ i p h]
    unfold sn
    simp
/-- what was seen in a window -/
def see (w ord txt : List Nat) (b : Nat) : List (Nat × Nat) := (ord.take (fm w ord txt b + 1)).map fun p => (p, tAt txt b p)
theorem see_head (b : Nat) : (ord.take (fm w ord txt b)).map (fun p => (p, tAt txt b p)) = sn w (ord.take (fm w ord txt b)) := by
  unfold sn
  refine List.map_congr_left fun p hp => ?_
  obtain ⟨i, hi, e⟩ := List.mem_take_iff_getElem.mp hp
  have hlt : i < fm w ord txt b := by omega
  have := List.not_of_lt_findIdx (p := mis w txt b) (xs := ord) (i := i) hlt
  rw [e] at this
  unfold mis at this
  simp at this
  rw [this]
theorem skp_safe (hol : ord.length = w.length) (b : Nat) : skp w ord (lsk w (sn w ord)) (srows w al [] ord) txt b = lsk w (see w ord txt b) := by
  unfold skp see
  by_cases hf : fm w ord txt b < ord.length
  · rw [if_pos hf]
    have hp : ord[fm w ord txt b]? = some ord[fm w ord txt b] := List.getElem?_eq_getElem hf
    have hg := srows_get (w := w) (al := al) ord [] (fm w ord txt b) _ hp
    have e1 : (srows w al [] ord).getD (fm w ord txt b) ([], fun _ => 0) = (oth w al ord[fm w ord txt b], fun c => lsk w ([] ++ sn w (ord.take (fm w ord txt b)) ++ [(ord[fm w ord txt b], c)])) := by
      rw [List.getD, hg]; rfl
    have e2 : ord.getD (fm w ord txt b) 0 = ord[fm w ord txt b] := by rw [List.getD, hp]; rfl
    rw [e1, e2]
    dsimp only
    rw [List.take_add_one, hp, List.map_append, see_head]
    simp
  · rw [if_neg hf]
    have hle : fm w ord txt b ≤ ord.length := by unfold fm; exact List.findIdx_le_length
    have e : fm w ord txt b = ord.length := by omega
    have e2 := see_head (w := w) (ord := ord) (txt := txt) b
    rw [e, List.take_of_length_le (by omega)] at e2
    rw [e, List.take_of_length_le (by omega), e2]
/-! walks by skips -/
def wk (f : Nat → Nat) (L N : Nat) : Nat → Nat → List Nat
  | 0, _ => []
  | n + 1, b => if b + L ≤ N then b :: wk f L N n (b + f b) else []
theorem wk_no {f : Nat → Nat} {L N : Nat} : ∀ (n b : Nat), N < b + L → wk f L N n b = []
  | 0, _, _ => rfl
  | n + 1, b, h => by unfold wk; rw [if_neg (by omega)]
theorem wk_sub {f g : Nat → Nat} {L N : Nat} (hg : ∀ b, b + L ≤ N → 1 ≤ g b) (hc : ∀ b d, d < f b → b + d + L ≤ N → d + g (b + d) ≤ f b) (hf : ∀ b, b + L ≤ N → 1 ≤ f b) : ∀ (m n a c : Nat), a ≤ c → (∀ e, a ≤ e → e < c → e + L ≤ N → e + g e ≤ c) → N < a + m → (wk f L N n c).Sublist (wk g L N m a)
  | 0, n, a, c, hac, _, hm => by rw [wk_no n c (by omega)]; exact List.nil_sublist _
  | m + 1, n, a, c, hac, he, hm => by
    by_cases hv : a + L ≤ N
    · have ew : wk g L N (m + 1) a = a :: wk g L N m (a + g a) := by
        show (if a + L ≤ N then a :: wk g L N m (a + g a) else []) = _
        rw [if_pos hv]
      rw [ew]
      have h1 := hg a hv
      by_cases hlt : a < c
      · have := he a (Nat.le_refl _) hlt hv
        exact (wk_sub hg hc hf m n (a + g a) c this (fun e h1 h2 h3 => he e (by omega) h2 h3) (by omega)).cons a
      · have hac' : a = c := by omega
        subst hac'
        cases n with
        | zero => exact List.nil_sublist _
        | succ n =>
          have ef : wk f L N (n + 1) a = a :: wk f L N n (a + f a) := by
            show (if a + L ≤ N then a :: wk f L N n (a + f a) else []) = _
            rw [if_pos hv]
          rw [ef]
          have hfa := hf a hv
          have h0 := hc a 0 (by omega) (by omega)
          refine (wk_sub hg hc hf m n (a + g a) (a + f a) (by simpa using h0) (fun e h1 h2 h3 => ?_) (by omega)).cons_cons a
          have := hc a (e - a) (by omega) (by omega)
          have e1 : a + (e - a) = e := by omega
          rw [e1] at this
          omega
    · rw [wk_no n c (by omega)]
      exact List.nil_sublist _
theorem sum_sub : ∀ {l m : List Nat}, l.Sublist m → l.sum ≤ m.sum
  | _, _, .slnil => Nat.le_refl _
  | _, _, .cons a h => by have := sum_sub h; rw [List.sum_cons]; omega
  | _, _, .cons₂ a h => by have := sum_sub h; rw [List.sum_cons, List.sum_cons]; omega
theorem srch_wk : ∀ (n b : Nat) (told : List Nat) (lk : Nat), (srch w ord t0 rows txt n b told lk).2 = lk + ((wk (skp w ord t0 rows txt) w.length txt.length n b).map fun b => min (fm w ord txt b + 1) w.length).sum
  | 0, b, told, lk => by unfold srch wk; simp
  | n + 1, b, told, lk => by
    unfold srch wk
    by_cases hb : b + w.length ≤ txt.length
    · rw [if_pos hb, if_pos hb, srch_wk n, List.map_cons, List.sum_cons]
      omega
    · rw [if_neg hb, if_neg hb]; simp
end
end K84

set_option Elab.async false
set_option linter.all false
set_option maxRecDepth 100000
set_option maxHeartbeats 1000000
namespace K84
open PySem PySem.Spec PyProof.Rows L2 HB
theorem ne_nil {st : Sto} {k : Nat} {ds : List Dt} (hk : st[k]? = some (some (.lst ds))) (hn : noRefs ds = true) : gNeB st (.ref k) (.lst []) = some (.bl (!decide (ds = [])), st) := by
  have e : eqB st (.ref k) (.lst []) = some (decide (ds = [])) := by
    unfold eqB
    rw [deref_ref (n := 7) hk (by rw [nrL]; exact hn), deref_no (d := .lst []) rfl]
    show (if alikeD (.lst ds) (.lst []) = true then (if noRef (.lst ds) = true ∧ noRef (.lst []) = true then eqQ 8 (.lst ds) (.lst []) else none) else eqD st (.ref k) (.lst [])) = _
    rw [if_pos (show alikeD (.lst ds) (.lst []) = true from rfl), if_pos ⟨by rw [nrL]; exact hn, rfl⟩]
    show (if ds.length = ([] : List Dt).length then allO (List.zipWith (eqQ 7) ds []) else some false) = _
    cases ds with
    | nil => rfl
    | cons d ds => rw [if_neg (by simp)]; simp
  unfold gNeB
  rw [e]
  rfl
theorem v_eM {ok : Sto → Dt → Bool} {g : Sto → Dt → List Dt → Option (Dt × Sto)} {fo : SE} {fs : SA} {r : Evr} {st st1 st2 : Sto} {x : Dt} {ys : List Dt} {q : Dt × Sto} (ho : fo r st = some (x, st1)) (hk : ok st1 x = true) (ha : fs r st1 = some (ys, st2)) (hg : g st2 x ys = some q) : eM ok g fo fs r st = some q := by
  unfold eM
  rw [ho, Option.bind_some, if_pos hk, ha, Option.bind_some]
  exact hg
theorem pop_at {st : Sto} {k : Nat} {ds : List Dt} {i : Nat} {y : Dt} (hk : st[k]? = some (some (.lst ds))) (hi : i < ds.length) (h63 : (i : Int) < 2 ^ 63) (hy : ds[i]? = some y) : gPop st (.ref k) [.int (i : Int)] = some (y, st.set k (some (.lst (ds.eraseIdx i)))) := by
  have es : seqIndex? (i : Int) ds.length = some i := by
    unfold seqIndex?
    have h1 : ¬ ((i : Int) < 0) := by omega
    have h2 : (i : Int) < (ds.length : Int) := by omega
    simp [h1, h2]
    try omega
  unfold gPop
  dsimp only
  rw [hk]
  dsimp only
  rw [if_pos ⟨by omega, h63⟩, es]
  show (ds[i]?).map _ = _
  rw [hy]
  rfl
theorem erase_map {α β : Type} (f : α → β) : ∀ (l : List α) (i : Nat), (l.map f).eraseIdx i = (l.eraseIdx i).map f
  | [], _ => rfl
  | a :: l, 0 => rfl
  | a :: l, i + 1 => by
    show f a :: (l.map f).eraseIdx i = f a :: (l.eraseIdx i).map f
    rw [erase_map f l i]
theorem erase_perm {α : Type} : ∀ (l : List α) (i : Nat) (h : i < l.length), (l[i] :: l.eraseIdx i).Perm l
  | [], i, h => by simp at h
  | a :: l, 0, _ => .refl _
  | a :: l, i + 1, h => by
    have h' : i < l.length := by simpa using h
    show (l[i] :: a :: l.eraseIdx i).Perm (a :: l)
    exact (List.Perm.swap a l[i] _).trans ((erase_perm l i h').cons a)
section
variable {α : Type} {D : α → Dt}
abbrev st3 (D : α → Dt) (x : Drw) (left told : List α) : Sto := [some x.dt, some (.lst (left.map D)), some (.lst (told.map D))]
theorem sh_loop (hD : ∀ a, noRef (D a) = true) {T : Dt} : ∀ (n : Nat) (left told : List α) (x : Drw), left.length < n → left.length + told.length ≤ 100 → x.k + left.length < 1000000 → ∃ (told' : List α) (x' : Drw), sWh w1__law_shuffled b1__law_shuffled n [some (.ref 0), some T, some (.ref 1), some (.ref 2)] (st3 D x left told) = some (.nx [some (.ref 0), some T, some (.ref 1), some (.ref 2)] (st3 D x' [] told')) ∧ told'.Perm (told ++ left) ∧ x'.k = x.k + left.length
  | 0, left, told, x, h, _, _ => by omega
  | n + 1, left, told, x, hn, hl, hx => by
    have hz := line_ge
    have nr : ∀ l : List α, noRefs (l.map D) = true := fun l => noRefs_map fun a _ => hD a
    have c0 : w1__law_shuffled [some (.ref 0), some T, some (.ref 1), some (.ref 2)] (st3 D x left told) = some (!decide (left.map D = []), st3 D x left told) :=
      t_B (v_op (v_var rfl) (v_toV (v_smallN v_nil (by show 0 ≤ _; omega))) (ne_nil (k := 1) rfl (nr left)))
    by_cases hle : left = []
    · subst hle
      refine ⟨told, x, wh_stop (by rw [c0]; rfl), by simp, rfl⟩
    · have hpos : 0 < left.length := List.length_pos_iff.mpr hle
      rw [decide_eq_false (by simpa using hle)] at c0
      obtain ⟨i, hi1, hi2⟩ : ∃ i : Nat, (i : Int) = (nextN x).1 % left.length ∧ i < left.length := by
        have a1 := Int.emod_nonneg (nextN x).1 (show (left.length : Int) ≠ 0 by omega)
        have a2 := Int.emod_lt_of_pos (nextN x).1 (show (0 : Int) < left.length by omega)
        exact ⟨((nextN x).1 % left.length).toNat, by omega, by omega⟩
      let x1 := (nextN x).2
      have kx : x1.k = x.k + 1 := next_k x
      let E : Evr := [some (.ref 0), some T, some (.ref 1), some (.ref 2)]
      have a1 : aCons (eOp2 gMod (eN gInt (aCons (eN (gF 1 (liftE (fE F__law_next))) (aCons (eVar 0) aNil)) aNil)) (eN gLen (aCons (eVar 2) aNil))) aNil E (st3 D x left told) = some ([.int i], st3 D x1 left told) := by
        refine v_one (v_op (y := .int left.length) (st2 := st3 D x1 left told) (call_next rfl rfl (by omega)) ?_ (by rw [zMod (by omega), ← hi1]))
        refine v_N (v_one (v_var rfl)) ?_
        show some (Dt.int ((left.map D).length : Nat), st3 D x1 left told) = _
        rw [List.length_map]
      have a2 : eM isL gPop (eVar 2) (aCons (eOp2 gMod (eN gInt (aCons (eN (gF 1 (liftE (fE F__law_next))) (aCons (eVar 0) aNil)) aNil)) (eN gLen (aCons (eVar 2) aNil))) aNil) E (st3 D x left told) = some (D left[i], st3 D x1 (left.eraseIdx i) told) := by
        have hp : gPop (st3 D x1 left told) (.ref 1) [.int (i : Int)] = some (D left[i], st3 D x1 (left.eraseIdx i) told) := by
          rw [pop_at (st := st3 D x1 left told) (k := 1) (ds := left.map D) (y := D left[i]) rfl (by rw [List.length_map]; exact hi2) (by omega) (by rw [List.getElem?_map, List.getElem?_eq_getElem hi2]; rfl), erase_map]
          rfl
        exact v_eM (v_var rfl) rfl a1 hp
      have b1 : b1__law_shuffled E (st3 D x left told) = some (.nx E (st3 D x1 (left.eraseIdx i) (told ++ [left[i]]))) := by
        have e := s_ex (v_app (r := E) (fo := eVar 3) (st := st3 D x left told) (k := 2) (ds := told.map D) (v_var rfl) rfl (v_one a2) rfl (by rw [List.length_map]; omega))
        unfold b1__law_shuffled
        rw [e]
        show some (Ou.nx E [_, _, some (.lst (told.map D ++ [D left[i]]))]) = _
        simp [st3]
      have hel : (left.eraseIdx i).length = left.length - 1 := by rw [List.length_eraseIdx]; simp [hi2]
      obtain ⟨told', x', k1, k2, k3⟩ := sh_loop hD (T := T) n (left.eraseIdx i) (told ++ [left[i]]) x1 (by omega) (by rw [List.length_append]; simp; omega) (by omega)
      refine ⟨told', x', wh_step c0 b1 k1, ?_, by omega⟩
      refine k2.trans ?_
      rw [List.append_assoc]
      refine List.Perm.append_left told ?_
      exact erase_perm left i hi2
theorem run_shuffled (hD : ∀ a, noRef (D a) = true) {T : Dt} {l : List α} (hT : noRef T = true) (hl : l.length ≤ 100) (hg : ∀ st, gListBR st [T] = some (.ref st.length, st ++ [some (.lst (l.map D))])) (x : Drw) (hx : x.k < 900000) : ∃ (l' : List α) (x' : Drw), fE F__law_shuffled x.dt [T] = some (.lst (l'.map D), x'.dt) ∧ l'.Perm l ∧ x'.k = x.k + l.length := by
  obtain ⟨l', x', k1, k2, k3⟩ := sh_loop hD (T := T) 1000 l [] x (by omega) (by simp; omega) (by omega)
  refine ⟨l', x', ?_, by simpa using k2, k3⟩
  have e : g__law_shuffled (startD 4 [.ref 0, T]) [some x.dt] = some (.rt (.ref 2) (st3 D x' [] l')) := by
    refine s_seq (r1 := [some (.ref 0), some T, some (.ref 1), none]) (st1 := [some x.dt, some (.lst (l.map D))]) (s_set (v_N (v_one (v_var rfl)) (hg _))) ?_
    refine s_seq (r1 := [some (.ref 0), some T, some (.ref 1), some (.ref 2)]) (st1 := st3 D x l []) (s_set (v_toR (v_smallN v_nil (by show 0 ≤ _; omega)))) ?_
    exact s_seq k1 (s_ret (v_var rfl))
  exact fE_of (b_rt0 e) rfl rfl (deref_ref (n := 5) rfl (by rw [nrL]; exact noRefs_map fun a _ => hD a))
end
theorem shuf_txt (l : List Nat) (hl : l.length ≤ 100) (x : Drw) (hx : x.k < 900000) : ∃ (l' : List Nat) (x' : Drw), fE F__law_shuffled x.dt [.str (tx l)] = some (.lst (l'.map fun c => .str (sg c)), x'.dt) ∧ l'.Perm l ∧ x'.k = x.k + l.length :=
  run_shuffled (D := fun c : Nat => Dt.str (sg c)) (fun _ => rfl) rfl hl (fun st => by
    have hz := line_ge
    show (if _ then _ else _) = _
    have : (tx l).cps.size = l.length := by simp [tx]
    rw [if_pos (by rw [this]; omega), tx_cps]) x hx
theorem shuf_int (l : List Nat) (hl : l.length ≤ 100) (x : Drw) (hx : x.k < 900000) : ∃ (l' : List Nat) (x' : Drw), fE F__law_shuffled x.dt [.lst (l.map fun p : Nat => .int p)] = some (.lst (l'.map fun p : Nat => .int p), x'.dt) ∧ l'.Perm l ∧ x'.k = x.k + l.length :=
  run_shuffled (D := fun c : Nat => Dt.int c) (fun _ => rfl) (by rw [nrL]; exact nr_ints) hl (fun st => rfl) x hx
end K84

set_option Elab.async false
set_option linter.all false
set_option maxRecDepth 100000
set_option maxHeartbeats 1000000
namespace K84
open PySem PySem.Spec PyProof.Rows L2 HB
def sgs : List (List Nat) := [[97, 98], [97, 66], [97, 98, 99], [33, 126, 122], [97]]
def ext : List (List Nat) := [[], [63, 90], [42, 46], [95, 45]]
def up (n : Nat) : List Nat := (List.range n).map fun i => 1 + i
def dn (n : Nat) : List Nat := (List.range n).map fun i => n - i
theorem modN (x : Drw) {m : Nat} (hm : 1 ≤ m) : ∃ i : Nat, (i : Int) = (nextN x).1 % m ∧ i < m := by
  have a1 := Int.emod_nonneg (nextN x).1 (show (m : Int) ≠ 0 by omega)
  have a2 := Int.emod_lt_of_pos (nextN x).1 (show (0 : Int) < m by omega)
  exact ⟨((nextN x).1 % m).toNat, by omega, by omega⟩
theorem call_mod {i : Nat} {r : Evr} {st : Sto} {x : Drw} {m : Nat} {fm : SE} {v : Nat} (hi : r[i]? = some (some (.ref 0))) (h0 : st[0]? = some (some x.dt)) (hk : x.k < 1000000) (hf : fm r (st.set 0 (some (nextN x).2.dt)) = some (.int m, st.set 0 (some (nextN x).2.dt))) (hm : 1 ≤ m) (hv : (v : Int) = (nextN x).1 % m) : eOp2 gMod (eN gInt (aCons (eN (gF 1 (liftE (fE F__law_next))) (aCons (eVar i) aNil)) aNil)) fm r st = some (.int v, st.set 0 (some (nextN x).2.dt)) :=
  v_op (call_next hi h0 hk) hf (by rw [zMod (by omega), ← hv])
theorem tx_app (a b : List Nat) : tx a ++ tx b = tx (a ++ b) := by
  show Str.append (tx a) (tx b) = _
  unfold Str.append tx
  simp
theorem add_tx {st : Sto} {a b : List Nat} (h : a.length + b.length ≤ 100000) : gAdd st (.str (tx a)) (.str (tx b)) = some (.str (tx (a ++ b)), st) := by
  have hz := line_ge
  show (if (tx a).length + (tx b).length ≤ sizeLine then some (Dt.str (tx a ++ tx b), st) else none) = _
  rw [if_pos (by rw [tx_len, tx_len]; omega), tx_app]
theorem base_ok : ∀ i, i < 5 → ∀ j, j < 4 → (sgs.getD i [] ++ ext.getD j []).Nodup ∧ (sgs.getD i [] ++ ext.getD j []).length ≤ 5 ∧ 1 ≤ (sgs.getD i []).length ∧ (sgs.getD i []).length ≤ 3 ∧ (ext.getD j []).length ≤ 2 ∧ ∀ c ∈ sgs.getD i [] ++ ext.getD j [], letB (sg c) = true := by decide +kernel
theorem up_ok' : ∀ n, n < 8 → (up n).length = n ∧ (up n).Nodup ∧ ∀ p ∈ up n, 1 ≤ p ∧ p ≤ n := by decide +kernel
theorem up_cov : ∀ n, n < 8 → ∀ q, q < 8 → ¬ (1 ≤ q ∧ q ≤ n) ∨ q ∈ up n := by decide +kernel
theorem up_ok (n : Nat) (h : n < 8) : (up n).length = n ∧ (up n).Nodup ∧ (∀ p ∈ up n, 1 ≤ p ∧ p ≤ n) ∧ ∀ q, q < 8 → 1 ≤ q → q ≤ n → q ∈ up n := ⟨(up_ok' n h).1, (up_ok' n h).2.1, (up_ok' n h).2.2, fun q h8 h1 h2 => (up_cov n h q h8).resolve_left fun z => z ⟨h1, h2⟩⟩
theorem dn_ok' : ∀ n, n < 8 → (dn n).length = n ∧ (dn n).Nodup ∧ ∀ p ∈ dn n, 1 ≤ p ∧ p ≤ n := by decide +kernel
theorem dn_cov : ∀ n, n < 8 → ∀ q, q < 8 → ¬ (1 ≤ q ∧ q ≤ n) ∨ q ∈ dn n := by decide +kernel
theorem dn_ok (n : Nat) (h : n < 8) : (dn n).length = n ∧ (dn n).Nodup ∧ (∀ p ∈ dn n, 1 ≤ p ∧ p ≤ n) ∧ ∀ q, q < 8 → 1 ≤ q → q ≤ n → q ∈ dn n := ⟨(dn_ok' n h).1, (dn_ok' n h).2.1, (dn_ok' n h).2.2, fun q h8 h1 h2 => (dn_cov n h q h8).resolve_left fun z => z ⟨h1, h2⟩⟩
theorem sgs_ix {st : Sto} {i : Nat} (h : i < 5) : gIx st (.lst [.str "ab", .str "aB", .str "abc", .str "!~z", .str "a"]) (.int i) = some (.str (tx (sgs.getD i [])), st) := by
  refine ixL i rfl ?_
  match i, h with
  | 0, _ => rfl
  | 1, _ => rfl
  | 2, _ => rfl
  | 3, _ => rfl
  | 4, _ => rfl
theorem ext_ix {st : Sto} {i : Nat} (h : i < 4) : gIx st (.lst [.str "", .str "?Z", .str "*.", .str "_-"]) (.int i) = some (.str (tx (ext.getD i [])), st) := by
  refine ixL i rfl ?_
  match i, h with
  | 0, _ => rfl
  | 1, _ => rfl
  | 2, _ => rfl
  | 3, _ => rfl
theorem noun_lc {sn : List Nat} (hs : 1 ≤ sn.length) (hs2 : sn.length ≤ 100) {r1 r3 r4 r5 r6 r7 : Option Dt} : ∀ (is : List Nat) (x : Drw), x.k + is.length < 1000000 → ∃ (cs : List Nat) (x' : Drw), lcGo (kName 8) cYes e1__law_window [some (.ref 0), r1, some (.str (tx sn)), r3, r4, r5, r6, r7, none] (is.map fun i : Nat => .int (0 + (i : Nat))) [some x.dt] = some (cs.map fun c => .str (sg c), [some x'.dt]) ∧ cs.length = is.length ∧ (∀ c ∈ cs, c ∈ sn) ∧ x'.k = x.k + is.length
  | [], x, _ => ⟨[], x, rfl, rfl, by simp, rfl⟩
  | i :: is, x, hx => by
    have hz := line_ge
    rw [List.length_cons] at hx
    obtain ⟨v, hv, hlt⟩ := modN x hs
    have kx := next_k x
    obtain ⟨cs, x', k1, k2, k3, k4⟩ := noun_lc hs hs2 (r1 := r1) (r3 := r3) (r4 := r4) (r5 := r5) (r6 := r6) (r7 := r7) is (nextN x).2 (by omega)
    refine ⟨sn.getD v 0 :: cs, x', ?_, by simp [k2], ?_, by rw [k4, kx, List.length_cons]; omega⟩
    · rw [List.map_cons, List.map_cons]
      refine lcGo_cons (r1 := [some (.ref 0), r1, some (.str (tx sn)), r3, r4, r5, r6, r7, some (.int (0 + (i : Nat)))]) (st1 := [some x.dt]) (st2 := [some (nextN x).2.dt]) rfl rfl ?_ k1
      exact v_op (v_var rfl) (call_mod (m := sn.length) (v := v) rfl rfl (by omega) (v_N (v_one (v_var rfl)) (zLenT (by omega))) hs hv) (ixT v (by omega) rfl hlt)
    · intro c hc
      rcases List.mem_cons.mp hc with z | z
      · rw [z]; exact getD_mem hlt
      · exact k3 c z
theorem v_lr2 {fa fb : SE} {r : Evr} {st st1 st2 : Sto} {j : Int} {n : Nat} (ha : fa r st = some (.int 1, st1)) (hb : fb r st1 = some (.int j, st2)) (hj : j = (n : Int) + 1) (hn : n ≤ 1000) : eLR2 fa fb r st = some (OD (up n), st2) := by
  subst hj
  unfold eLR2
  rw [ha, Option.bind_some, hb, Option.bind_some]
  dsimp only
  rw [if_pos (by omega)]
  have : ((n : Int) + 1 - 1).toNat = n := by omega
  rw [this]
  unfold rngL OD up
  rw [List.map_map]
  rfl
theorem v_ldn {fa fb fc : SE} {r : Evr} {st st1 st2 st3 : Sto} {i : Int} {n : Nat} (ha : fa r st = some (.int i, st1)) (hb : fb r st1 = some (.int 0, st2)) (hc : fc r st2 = some (.int (-1), st3)) (hi : i = (n : Int)) (hn : n ≤ 1000) : eLDn fa fb fc r st = some (OD (dn n), st3) := by
  subst hi
  unfold eLDn
  rw [ha, Option.bind_some, hb, Option.bind_some, hc, Option.bind_some]
  dsimp only
  rw [if_pos (by omega)]
  have : ((n : Int) - 0).toNat = n := by omega
  rw [this]
  unfold dwnL OD dn
  rw [List.map_map]
  have : (List.range n).map (fun i : Nat => Dt.int ((n : Int) - i)) = (List.range n).map ((fun p : Nat => Dt.int p) ∘ fun i => n - i) := by
    refine List.map_congr_left fun k hk => ?_
    have := List.mem_range.mp hk
    show Dt.int ((n : Int) - k) = Dt.int ((n - k : Nat) : Int)
    congr 1
    omega
  rw [this]
theorem run_window (x : Drw) (hx : x.k ≤ 1000) : ∃ (w al ord : List Nat) (x' : Drw), fE F__law_window x.dt [.int 7] = some (.tup [.str (tx w), OD ord, .str (tx al)], x'.dt) ∧ Win w al ord ∧ al.length ≤ 9 ∧ x'.k ≤ x.k + 100 := by
  have hz := line_ge
  obtain ⟨i, hi, hi5⟩ := modN x (m := 5) (by omega)
  let x1 := (nextN x).2
  have kx1 : x1.k = x.k + 1 := next_k x
  obtain ⟨l, hl, hl7⟩ := modN x1 (m := 7) (by omega)
  let x2 := (nextN x1).2
  have kx2 : x2.k = x1.k + 1 := next_k x1
  obtain ⟨n, hn⟩ : ∃ n, n = 1 + l := ⟨_, rfl⟩
  have bo := base_ok i hi5
  have six := fun st => sgs_ix (st := st) hi5
  generalize sgs.getD i [] = sn at bo six
  obtain ⟨-, -, hs1, hs3, -, -⟩ := bo 0 (by omega)
  obtain ⟨cs, x3, c1, c2, c3, c4⟩ := noun_lc (sn := sn) hs1 (by omega) (r1 := some (.int 7)) (r3 := some (.int (1 + (l : Nat)))) (r4 := none) (r5 := none) (r6 := none) (r7 := none) (List.range n) x2 (by rw [List.length_range]; omega)
  rw [List.length_range] at c2 c4
  obtain ⟨j, hj, hj4⟩ := modN x3 (m := 4) (by omega)
  let x4 := (nextN x3).2
  have kx4 : x4.k = x3.k + 1 := next_k x3
  obtain ⟨bn, bl, -, -, b2, bt⟩ := bo j hj4
  have eix := fun st => ext_ix (st := st) hj4
  generalize ext.getD j [] = ex at bn bl b2 bt eix
  obtain ⟨al, x5, a1, a2, a3⟩ := shuf_txt (sn ++ ex) (by omega) x4 (by omega)
  obtain ⟨q, hq, hq3⟩ := modN x5 (m := 3) (by omega)
  let x6 := (nextN x5).2
  have kx6 : x6.k = x5.k + 1 := next_k x5
  obtain ⟨u1, u2, u3, u4⟩ := up_ok n (by omega)
  obtain ⟨d1, d2, d3, d4⟩ := dn_ok n (by omega)
  obtain ⟨sh, x7, s1, s2, s3⟩ := shuf_int (up n) (by omega) x6 (by omega)
  have hal : al.length ≤ 5 := by rw [a2.length_eq]; exact bl
  have a3' : x5.k ≤ x4.k + 5 := by rw [a3]; omega
  have s3' : x7.k = x6.k + n := by rw [s3, u1]
  obtain ⟨ord, ho, hog⟩ : ∃ ord : List Nat, [OD (up n), OD (dn n), OD sh][q]? = some (OD ord) ∧ ord.length = n ∧ ord.Nodup ∧ (∀ p ∈ ord, 1 ≤ p ∧ p ≤ n) ∧ ∀ q, q < 8 → 1 ≤ q → q ≤ n → q ∈ ord := by
    match q, hq3 with
    | 0, _ => exact ⟨up n, rfl, u1, u2, u3, u4⟩
    | 1, _ => exact ⟨dn n, rfl, d1, d2, d3, d4⟩
    | 2, _ => exact ⟨sh, rfl, by rw [s2.length_eq]; exact u1, s2.nodup_iff.mpr u2, fun p hp => u3 p (s2.mem_iff.mp hp), fun q h8 h1 h2 => s2.mem_iff.mpr (u4 q h8 h1 h2)⟩
  refine ⟨cs, al, ord, x7, ?_, ⟨by omega, by omega, fun c hc => bt c (a2.mem_iff.mp hc), a2.nodup_iff.mpr bn, by omega, fun c hc => a2.mem_iff.mpr (List.mem_append.mpr (.inl (c3 c hc))), by rw [hog.1, c2], hog.2.1, fun p hp => by rw [c2]; exact hog.2.2.1 p hp, fun q h1 h2 => hog.2.2.2 q (by omega) h1 (by omega)⟩, by omega, by omega⟩
  have er : eLR2 (eC (.int 1)) (eOp2 gAdd (eVar 3) (eC (.int 1))) [some (.ref 0), some (.int 7), some (.str (tx sn)), some (.int (1 + (l : Nat))), some (.str (tx cs)), some (.str (tx al)), some (.int q), none, none] [some x6.dt] = some (OD (up n), [some x6.dt]) := v_lr2 (n := n) rfl (v_op (v_var rfl) rfl zAddI) (by omega) (by omega)
  have ed : eLDn (eVar 3) (eC (.int 0)) (eNeg (eC (.int 1))) [some (.ref 0), some (.int 7), some (.str (tx sn)), some (.int (1 + (l : Nat))), some (.str (tx cs)), some (.str (tx al)), some (.int q), none, none] [some x6.dt] = some (OD (dn n), [some x6.dt]) := v_ldn (n := n) (v_var rfl) rfl rfl (by omega) (by omega)
  have e : g__law_window (startD 9 [.ref 0, .int 7]) [some x.dt] = some (.rt (.tup [.str (tx cs), OD ord, .str (tx al)]) [some x7.dt]) := by
    refine s_seq (r1 := [some (.ref 0), some (.int 7), some (.str (tx sn)), none, none, none, none, none, none]) (st1 := [some x1.dt]) (by exact s_set (v_op (v_toV (v_smallN (v_cons rfl (v_cons rfl (v_cons rfl (v_cons rfl (v_one rfl))))) (by show 5 ≤ _; omega))) (call_mod (m := 5) (v := i) rfl rfl (by omega) rfl (by omega) hi) (six _))) ?_
    refine s_seq (r1 := [some (.ref 0), some (.int 7), some (.str (tx sn)), some (.int (1 + (l : Nat))), none, none, none, none, none]) (st1 := [some x2.dt]) (by exact s_set (v_op rfl (call_mod (m := 7) (v := l) rfl rfl (by omega) (v_var rfl) (by omega) hl) zAddI)) ?_
    refine s_seq (r1 := [some (.ref 0), some (.int 7), some (.str (tx sn)), some (.int (1 + (l : Nat))), some (.str (tx cs)), none, none, none, none]) (st1 := [some x3.dt]) (s_set ?_) ?_
    · have hr : iR rg1 (aCons (eVar 3) aNil) [some (.ref 0), some (.int 7), some (.str (tx sn)), some (.int (1 + (l : Nat))), none, none, none, none, none] [some x2.dt] = some ((List.range n).map fun i : Nat => .int (0 + (i : Nat)), [some x2.dt]) := v_rg (n := n) (v_one (by rw [hn]; exact v_var (by simp))) (by omega)
      have := v_toV (v_lc (own := [8]) hr c1 (show (cs.map fun c => Dt.str (sg c)).length ≤ sizeLine by rw [List.length_map, c2]; omega))
      unfold eM1
      rw [zC, Option.bind_some, if_pos (show isS [some x2.dt] (.str "") = true from rfl), this, Option.bind_some]
      exact v_join cs (by omega) _
    refine s_seq (r1 := [some (.ref 0), some (.int 7), some (.str (tx sn)), some (.int (1 + (l : Nat))), some (.str (tx cs)), some (.str (tx al)), none, none, none]) (st1 := [some x5.dt]) (s_set ?_) ?_
    · have hb : eOp2 gAdd (eVar 2) (eOp2 gIx (toV (small (aCons (eC (.str "")) (aCons (eC (.str "?Z")) (aCons (eC (.str "*.")) (aCons (eC (.str "_-")) aNil)))))) (eOp2 gMod (eN gInt (aCons (eN (gF 1 (liftE (fE F__law_next))) (aCons (eVar 0) aNil)) aNil)) (eC (.int 4)))) [some (.ref 0), some (.int 7), some (.str (tx sn)), some (.int (1 + (l : Nat))), some (.str (tx cs)), none, none, none, none] [some x3.dt] = some (.str (tx (sn ++ ex)), [some x4.dt]) :=
        v_op (v_var rfl) (v_op (v_toV (v_smallN (v_cons rfl (v_cons rfl (v_cons rfl (v_one rfl)))) (by show 4 ≤ _; omega))) (call_mod (m := 4) (v := j) rfl rfl (by omega) rfl (by omega) hj) (eix _)) (add_tx (by show sn.length + _ ≤ _; omega))
      have hsf : eN (gF 2 (liftE (fE F__law_shuffled))) (aCons (eVar 0) (aCons (eOp2 gAdd (eVar 2) (eOp2 gIx (toV (small (aCons (eC (.str "")) (aCons (eC (.str "?Z")) (aCons (eC (.str "*.")) (aCons (eC (.str "_-")) aNil)))))) (eOp2 gMod (eN gInt (aCons (eN (gF 1 (liftE (fE F__law_next))) (aCons (eVar 0) aNil)) aNil)) (eC (.int 4))))) aNil)) [some (.ref 0), some (.int 7), some (.str (tx sn)), some (.int (1 + (l : Nat))), some (.str (tx cs)), none, none, none, none] [some x3.dt] = some (.lst (al.map fun c => .str (sg c)), [some x5.dt]) :=
        v_N (v_cons (v_var rfl) (v_one hb)) (v_gF rfl (v_Ee (ds := [.str (tx (sn ++ ex))]) (c := x4.dt) rfl rfl rfl a1))
      unfold eM1
      rw [zC, Option.bind_some, if_pos (show isS [some x3.dt] (.str "") = true from rfl), hsf, Option.bind_some]
      exact v_join al (by omega) _
    refine s_seq (r1 := [some (.ref 0), some (.int 7), some (.str (tx sn)), some (.int (1 + (l : Nat))), some (.str (tx cs)), some (.str (tx al)), some (.int q), none, none]) (st1 := [some x6.dt]) (by exact s_set (call_mod (m := 3) (v := q) rfl rfl (by omega) rfl (by omega) hq)) ?_
    have hsi : eN (gF 2 (liftE (fE F__law_shuffled))) (aCons (eVar 0) (aCons (eLR2 (eC (.int 1)) (eOp2 gAdd (eVar 3) (eC (.int 1)))) aNil)) [some (.ref 0), some (.int 7), some (.str (tx sn)), some (.int (1 + (l : Nat))), some (.str (tx cs)), some (.str (tx al)), some (.int q), none, none] [some x6.dt] = some (OD sh, [some x7.dt]) :=
      v_N (v_cons (v_var rfl) (v_one er)) (v_gF rfl (v_Ee (ds := [OD (up n)]) (c := x6.dt) (by simp) rfl rfl s1))
    refine s_seq (r1 := [some (.ref 0), some (.int 7), some (.str (tx sn)), some (.int (1 + (l : Nat))), some (.str (tx cs)), some (.str (tx al)), some (.int q), some (OD ord), none]) (st1 := [some x7.dt]) (s_set (v_op (v_toV (v_smallN (v_cons er (v_cons ed (v_one hsi))) (by show 3 ≤ _; omega))) (v_var rfl) (ixL q rfl ho))) ?_
    exact s_ret (v_toT (v_cons (v_var rfl) (v_cons (v_var rfl) (v_one (v_var rfl)))) (by show 3 ≤ _; omega))
  exact fE_of (b_rt0 e) rfl rfl (deref_no (by simp))
end K84

set_option Elab.async false
set_option linter.all false
set_option maxRecDepth 100000
set_option maxHeartbeats 1000000
namespace K84
open PySem PySem.Spec PyProof.Rows L2 HB
theorem emodN (i : Int) {m : Nat} (hm : 1 ≤ m) : ∃ v : Nat, (v : Int) = i % m ∧ v < m := by
  have a1 := Int.emod_nonneg i (show (m : Int) ≠ 0 by omega)
  have a2 := Int.emod_lt_of_pos i (show (0 : Int) < m by omega)
  exact ⟨(i % m).toNat, by omega, by omega⟩
section
variable {w al ord : List Nat}
theorem over_loop (h : Win w al ord) {m : Nat} : ∀ (is : List Nat) (told : List Nat) (x : Drw) (v5 v6 v7 : Option Dt), x.k + is.length < 1000000 → told.length + 7 * is.length ≤ 900 → (∀ c ∈ told, c ∈ al) → ∃ (told' : List Nat) (x' : Drw) (u5 u6 u7 : Option Dt), sForGo (kName 5) b1__law_over (is.map fun i : Nat => .int (0 + (i : Nat))) [some (.ref 0), some (.str (tx w)), some (.str (tx al)), some (.int m), some (.str (tx told)), v5, v6, v7] [some x.dt] = some (.nx [some (.ref 0), some (.str (tx w)), some (.str (tx al)), some (.int m), some (.str (tx told')), u5, u6, u7] [some x'.dt]) ∧ told'.length ≤ told.length + 7 * is.length ∧ (∀ c ∈ told', c ∈ al) ∧ x'.k = x.k + is.length
  | [], told, x, v5, v6, v7, _, _, ht => ⟨told, x, v5, v6, v7, rfl, by simp, ht, rfl⟩
  | i :: is, told, x, v5, v6, v7, hx, hl, ht => by
    have hz := line_ge
    have n1 := h.n1
    have n7 := h.n7
    have a5 := h.a5
    have na : 1 ≤ al.length := by
      cases hw : w with
      | nil => rw [hw] at n1; simp at n1
      | cons c w' =>
        have := h.sub c (by rw [hw]; simp)
        exact List.length_pos_of_mem this
    rw [List.length_cons] at hx hl
    let pk := (nextN x).1
    let x1 := (nextN x).2
    have kx : x1.k = x.k + 1 := next_k x
    obtain ⟨a, ha, ha2⟩ := emodN (pk / 4) n1
    obtain ⟨b, hb, hb2⟩ := emodN (pk / 4) na
    obtain ⟨k, hk, hk2⟩ := emodN pk (m := 4) (by omega)
    let pc : List (List Nat) := [[al.getD b 0], w.take (1 + a), w, w.drop a]
    obtain ⟨p, hp, hp7, hps⟩ : ∃ p, pc[k]? = some p ∧ p.length ≤ 7 ∧ ∀ c ∈ p, c ∈ al := by
      match k, hk2 with
      | 0, _ => exact ⟨_, rfl, by simp, fun c hc => by simp at hc; rw [hc]; have := getD_mem hb2; simpa using this⟩
      | 1, _ => exact ⟨_, rfl, by rw [List.length_take]; omega, fun c hc => h.sub c (List.mem_of_mem_take hc)⟩
      | 2, _ => exact ⟨_, rfl, n7, h.sub⟩
      | 3, _ => exact ⟨_, rfl, by rw [List.length_drop]; omega, fun c hc => h.sub c (List.mem_of_mem_drop hc)⟩
    let E6 : Evr := [some (.ref 0), some (.str (tx w)), some (.str (tx al)), some (.int m), some (.str (tx told)), some (.int (0 + (i : Nat))), some (.int pk), v7]
    let E7 : Evr := [some (.ref 0), some (.str (tx w)), some (.str (tx al)), some (.int m), some (.str (tx told)), some (.int (0 + (i : Nat))), some (.int pk), some (.int a)]
    have s1 : sSet 6 (eN gInt (aCons (eN (gF 1 (liftE (fE F__law_next))) (aCons (eVar 0) aNil)) aNil)) [some (.ref 0), some (.str (tx w)), some (.str (tx al)), some (.int m), some (.str (tx told)), some (.int (0 + (i : Nat))), v6, v7] [some x.dt] = some (.nx E6 [some x1.dt]) := s_set (call_next rfl rfl (by omega))
    have d4 : ∀ E : Evr, E[6]? = some (some (.int pk)) → eOp2 gDiv (eVar 6) (eC (.int 4)) E [some x1.dt] = some (.int (pk / 4), [some x1.dt]) := fun E hE => v_op (v_var hE) rfl (zDiv (by decide) (by decide))
    have s2 : sSet 7 (eOp2 gMod (eOp2 gDiv (eVar 6) (eC (.int 4))) (eN gLen (aCons (eVar 1) aNil))) E6 [some x1.dt] = some (.nx E7 [some x1.dt]) := by
      refine s_set (d := .int a) (v_op (d4 E6 rfl) (v_N (v_one (v_var rfl)) (zLenT h.wz)) ?_)
      rw [zMod (by omega), ← ha]
    have t1 : eOp2 gIx (eVar 2) (eOp2 gMod (eOp2 gDiv (eVar 6) (eC (.int 4))) (eN gLen (aCons (eVar 2) aNil))) E7 [some x1.dt] = some (.str (tx [al.getD b 0]), [some x1.dt]) := by
      refine v_op (v_var rfl) (y := .int b) (v_op (d4 E7 rfl) (v_N (v_one (v_var rfl)) (zLenT h.az)) (by rw [zMod (by omega), ← hb])) (ixT b h.az rfl hb2)
    have t2 : eSl (eVar 1) oNo (oE (eOp2 gAdd (eC (.int 1)) (eVar 7))) E7 [some x1.dt] = some (.str (tx (w.take (1 + a))), [some x1.dt]) := by
      refine v_sl (v_var rfl) rfl (v_oE (i := ((1 + a : Nat) : Int)) (v_op (x := .int 1) (st1 := [some x1.dt]) rfl (v_var rfl) (by rw [zAddI]; simp))) ?_
      rw [zSlT h.wz, cutL_to]
    have t3 : eSl (eVar 1) (oE (eVar 7)) oNo E7 [some x1.dt] = some (.str (tx (w.drop a)), [some x1.dt]) := by
      refine v_sl (v_var rfl) (v_oE (i := (a : Int)) (v_var rfl)) rfl ?_
      rw [zSlT h.wz, cutL_from]
    have tk : gIx [some x1.dt] (.lst [.str (tx [al.getD b 0]), .str (tx (w.take (1 + a))), .str (tx w), .str (tx (w.drop a))]) (.int k) = some (.str (tx p), [some x1.dt]) := by
      refine ixL k rfl ?_
      have : [Dt.str (tx [al.getD b 0]), .str (tx (w.take (1 + a))), .str (tx w), .str (tx (w.drop a))] = pc.map fun q => Dt.str (tx q) := rfl
      rw [this, List.getElem?_map, hp]
      rfl
    have s3 : b1__law_over [some (.ref 0), some (.str (tx w)), some (.str (tx al)), some (.int m), some (.str (tx told)), some (.int (0 + (i : Nat))), v6, v7] [some x.dt] = some (.nx [some (.ref 0), some (.str (tx w)), some (.str (tx al)), some (.int m), some (.str (tx (told ++ p))), some (.int (0 + (i : Nat))), some (.int pk), some (.int a)] [some x1.dt]) := by
      refine s_seq s1 (s_seq s2 ?_)
      exact s_set (v_op (v_var rfl) (v_op (v_toV (v_smallN (v_cons t1 (v_cons t2 (v_cons (v_var rfl) (v_one t3)))) (by show 4 ≤ _; omega))) (v_op (v_var rfl) rfl (by rw [zMod (by decide)]; exact congrArg some (by rw [show pk % 4 = (k : Int) from hk.symm]))) tk) (add_tx (by omega)))
    obtain ⟨told', x', u5, u6, u7, k1, k2, k3, k4⟩ := over_loop h (m := m) is (told ++ p) x1 (some (.int (0 + (i : Nat)))) (some (.int pk)) (some (.int a)) (by omega) (by rw [List.length_append]; omega) (fun c hc => (List.mem_append.mp hc).elim (ht c) (hps c))
    refine ⟨told', x', u5, u6, u7, ?_, by rw [List.length_append] at k2; rw [List.length_cons]; omega, k3, by rw [k4, kx, List.length_cons]; omega⟩
    rw [List.map_cons]
    exact for_cons (r1 := [some (.ref 0), some (.str (tx w)), some (.str (tx al)), some (.int m), some (.str (tx told)), some (.int (0 + (i : Nat))), v6, v7]) rfl s3 k1
theorem run_over (h : Win w al ord) {m : Nat} (hm : m ≤ 100) (x : Drw) (hx : x.k ≤ 100000) : ∃ (txt : List Nat) (x' : Drw), fE F__law_over x.dt [.str (tx w), .str (tx al), .int m] = some (.str (tx txt), x'.dt) ∧ Tx w al txt ∧ x'.k ≤ x.k + 200 := by
  obtain ⟨n, hn, hn2⟩ := modN x (m := m + 1) (by omega)
  have kx := next_k x
  obtain ⟨txt, x', u5, u6, u7, k1, k2, k3, k4⟩ := over_loop h (m := m) (List.range n) [] (nextN x).2 none none none (by rw [List.length_range]; omega) (by rw [List.length_range]; simp; omega) (by simp)
  rw [List.length_range] at k2 k4
  refine ⟨txt, x', ?_, ⟨by simp at k2; omega, k3⟩, by omega⟩
  have e : g__law_over (startD 8 [.ref 0, .str (tx w), .str (tx al), .int m]) [some x.dt] = some (.rt (.str (tx txt)) [some x'.dt]) := by
    refine s_seq (r1 := [some (.ref 0), some (.str (tx w)), some (.str (tx al)), some (.int m), some (.str (tx [])), none, none, none]) (st1 := [some x.dt]) rfl ?_
    refine s_seq (s_for (v_rg (n := n) (st1 := [some (nextN x).2.dt]) (v_one (call_mod (m := m + 1) (v := n) rfl rfl (by omega) (v_op (v_var rfl) rfl zAddI) (by omega) hn)) (by omega)) k1) ?_
    exact s_ret (v_var rfl)
  exact fE_of (b_rt0 e) rfl rfl (deref_no rfl)
end
end K84

set_option Elab.async false
set_option linter.all false
set_option maxRecDepth 100000
set_option maxHeartbeats 1000000
namespace K84
open PySem PySem.Spec PyProof.Rows L2 HB
section
variable {w al ord : List Nat}
theorem items_sD {st : Sto} (ps : List (Nat × Nat)) : itI st (sD ps) = some (ps.map fun p => .tup [.int p.1, .str (sg p.2)]) := by
  unfold sD
  rw [zItI]
  congr 1
  rw [List.zip_map', List.map_map]
  rfl
theorem run_fits (h : Win w al ord) {ps : List (Nat × Nat)} (hs : Seen w ps) {far : Nat} (hf : 1 ≤ far) : fV F_fits [.str (tx w), sD ps, .int far] = some (.bl (ps.all (fitB w far))) := by
  have hz := line_ge
  have n7 := h.n7
  have hlc : lcGo (HB.kTup (ksCons (kName 3) (ksCons (kName 4) ksNil))) cYes e1_fits [some (.str (tx w)), some (sD ps), some (.int far), none, none] (ps.map fun p => .tup [.int p.1, .str (sg p.2)]) [] = some (ps.map fun p => .bl (fitB w far p), []) :=
    lcGo_map _ _ _ fun p hp => ⟨[some (.str (tx w)), some (sD ps), some (.int far), some (.int p.1), some (.str (sg p.2))], rfl, by
      have hb := hs.ob p hp
      have c0 : eOp2 gLe (eVar 3) (eVar 2) [some (.str (tx w)), some (sD ps), some (.int far), some (.int p.1), some (.str (sg p.2))] [] = some (.bl (decide (p.1 ≤ far)), []) := v_op (v_var rfl) (v_var rfl) (by rw [zLe]; congr 3; simp)
      unfold e1_fits eOrV fitB
      rw [c0, Option.bind_some]
      by_cases hle : p.1 ≤ far
      · rw [decide_eq_true hle]; rfl
      · rw [decide_eq_false hle]
        show eOp2 gEqB _ _ _ [] = _
        refine v_op (v_op (v_var rfl) (v_op (v_op (v_var rfl) (v_var rfl) zMin) rfl zMin) (ixT (p.1 - far - 1) h.wz (by omega) (by omega))) (v_var rfl) ?_
        rw [zEqS]
        simp only [sg_inj, Bool.false_or]⟩
  have e : g_fits (startD 5 [.str (tx w), sD ps, .int far]) [] = some (.rt (.bl (ps.all (fitB w far))) []) :=
    s_ret (v_N (v_one (v_toV (v_lc (own := [3, 4]) (v_iE (v_var rfl) (items_sD ps)) hlc (by rw [List.length_map]; have := hs.z; omega)))) (bools_allT ps (fitB w far) []))
  exact fV_of (b_rt e) (deref_no rfl)
theorem run_safe_skip (h : Win w al ord) {ps : List (Nat × Nat)} (hs : Seen w ps) : fV F_safe_skip [.str (tx w), sD ps] = some (.int (lsk w ps)) := by
  have hz := line_ge
  have n7 := h.n7
  have n1 := h.n1
  let fr := (List.range w.length).filter fun i => ps.all (fitB w (1 + i))
  have hlc : lcGo (kName 2) c1_safe_skip e1_safe_skip [some (.str (tx w)), some (sD ps), none] ((List.range w.length).map fun i : Nat => .int (1 + (i : Nat))) [] = some (fr.map fun i : Nat => .int (1 + (i : Nat)), []) :=
    lcGo_pure _ _ _ _ fun i hi => ⟨[some (.str (tx w)), some (sD ps), some (.int (1 + (i : Nat)))], rfl, t_B (v_N (v_cons (v_var rfl) (v_cons (v_var rfl) (v_one (v_var rfl)))) (v_gF rfl (v_V (by simp) (run_fits h hs (far := 1 + i) (by omega))))), fun _ => v_var rfl⟩
  obtain ⟨k, fr', hfr⟩ := lsk_mem (w := w) (ps := ps) n1 (fun p hp => (hs.ob p hp).2)
  have el : lsk w ps = 1 + k := by unfold lsk; rw [hfr]; rfl
  have lf : fr.length ≤ 7 := by
    have := List.length_filter_le (fun i => ps.all (fitB w (1 + i))) (List.range w.length)
    rw [List.length_range] at this
    simp only [fr]
    omega
  have e : g_safe_skip (startD 3 [.str (tx w), sD ps]) [] = some (.rt (.int (1 + (k : Nat))) []) := by
    refine s_ret (v_op (v_toV (v_lc (own := [2]) (v_iR (v_cons rfl (v_one (v_op (v_N (v_one (v_var rfl)) (zLenT h.wz)) rfl zAddI))) (rg_one (by omega))) hlc (by rw [List.length_map]; omega))) rfl (ixL 0 rfl ?_))
    simp only [fr]
    rw [hfr]
    rfl
  rw [el]
  exact fV_of (b_rt e) (deref_no rfl)
abbrev eI (w ord al : List Nat) (v5 v6 v7 : Option Dt) : Evr := [some (.str (tx w)), some (OD ord), some (.str (tx al)), some (.ref 0), some (.ref 1), v5, v6, v7]
theorem lc_oth (h : Win w al ord) {p : Nat} (hp : 1 ≤ p ∧ p ≤ w.length) {v6 : Option Dt} {st : Sto} : lcGo (kName 7) c1_safe_in e1_safe_in (eI w ord al (some (.int p)) v6 none) ((sl al).map fun c => .str (sg c)) st = some ((oth w (sl al) p).map fun c => .str (sg c), st) :=
  lcGo_pure _ _ _ _ fun c hc => ⟨_, rfl, t_B (v_op (v_var rfl) (v_op (v_var rfl) (v_op (v_var rfl) rfl zMin) (ix_w h rfl hp.1 hp.2)) (by rw [zNeS]; simp only [sg_inj])), fun _ => v_var rfl⟩
theorem oth_nd (h : Win w al ord) (p : Nat) : (oth w (sl al) p).Nodup := nodup_filter _ ((sl_perm al).nodup_iff.mpr h.na)
theorem oth_len (h : Win w al ord) (p : Nat) : (oth w (sl al) p).length ≤ 1000 := by
  have := List.length_filter_le (fun c => !decide (c = wAt w p)) (sl al)
  rw [(sl_perm al).length_eq] at this
  have := h.a5
  unfold oth; omega
theorem si2_outer (h : Win w al ord) : ∀ (ps : List Nat) (seen : List (Nat × Nat)) (rows : List Row) (v5 v6 : Option Dt), (∀ p ∈ ps, 1 ≤ p ∧ p ≤ w.length) → ps.Nodup → (∀ p ∈ ps, p ∉ seen.map (·.1)) → Seen w seen → seen.length + ps.length ≤ 100 → rows.length + ps.length ≤ 100 →
    ∃ (v5' v6' : Option Dt), sForGo (kName 5) b3_safe_in (ps.map fun p : Nat => .int p) (eI w ord al v5 v6 none) [some (sD seen), some (.lst (rows.map rowD))] = some (.nx (eI w ord al v5' v6' none) [some (sD (seen ++ sn w ps)), some (.lst ((rows ++ srows w (sl al) seen ps).map rowD))]) ∧ Seen w (seen ++ sn w ps)
  | [], seen, rows, v5, v6, _, _, _, hs, _, _ => ⟨v5, v6, by unfold sn srows; simp; rfl, by unfold sn; rw [List.map_nil, List.append_nil]; exact hs⟩
  | p :: ps, seen, rows, v5, v6, hb, nd, hps, hs, hsz, hrz => by
    have hz := line_ge
    have a5 := h.a5
    rw [List.length_cons] at hsz hrz
    have hp := hb p (by simp)
    have hpn := hps p (by simp)
    have on := oth_nd h p
    have ol := oth_len h p
    let st : Sto := [some (sD seen), some (.lst (rows.map rowD))]
    have seen2 : ∀ c, Seen w (seen ++ [(p, c)]) := fun c => ⟨fun q hq => by
      rcases List.mem_append.mp hq with hq | hq
      · exact hs.ob q hq
      · simp at hq; rw [hq]; exact hp, by rw [List.length_append]; simp; omega⟩
    let f : Nat → Nat := fun c => lsk w (seen ++ [(p, c)])
    have hf : ∀ c, fV F_safe_skip [.str (tx w), sD (seen ++ [(p, c)])] = some (.int (f c)) := fun c => run_safe_skip h (seen2 c)
    let OT : Dt := .lst ((oth w (sl al) p).map fun c => .str (sg c))
    have s1 : sSet 6 (toV (lc (iE itL (eN gSortZ (aCons (eVar 2) aNil))) [7] (kName 7) c1_safe_in e1_safe_in)) (eI w ord al (some (.int p)) v6 none) st = some (.nx (eI w ord al (some (.int p)) (some OT) none) st) :=
      s_set (v_toV (v_lc (v_iE (v_N (v_one (v_var rfl)) (sort_tx a5)) rfl) (lc_oth h hp) (by rw [List.length_map]; omega)))
    have star : ∀ c, dToV (eStar (eVar 3) (eVar 5) (eVar 7)) [some (.str (tx w)), some (OD ord), some (.str (tx al)), some (.ref 0), some (.ref 1), some (.int p), some OT, some (.str (sg c))] st = some (sD (seen ++ [(p, c)]), st) := fun c => by
      unfold dToV eStar
      rw [v_var (d := .ref 0) rfl, Option.bind_some]
      show ((asD st (.ref 0)).bind _).bind _ = _
      rw [show asD st (.ref 0) = some (seen.map fun p : Nat × Nat => (Sum.inl (p.1 : Int) : Key), seen.map fun p : Nat × Nat => Dt.str (sg p.2)) from rfl, Option.bind_some, v_var (d := .int p) rfl, Option.bind_some, v_var (d := .str (sg c)) rfl, Option.bind_some, zKeyI, Option.bind_some]
      dsimp only
      rw [if_pos (by rw [List.length_map]; omega), Option.bind_some, pPut_sD hpn]
      rfl
    have hdc := dc_pure (kt := kName 7) (fk := eVar 7) (fv := v2_safe_in) (r := eI w ord al (some (.int p)) (some OT) none) (st := st) (fun c : Nat => Dt.str (sg c)) sg (fun c => Dt.int (f c)) (oth w (sl al) p) [] [] (fun c hc => ⟨[some (.str (tx w)), some (OD ord), some (.str (tx al)), some (.ref 0), some (.ref 1), some (.int p), some OT, some (.str (sg c))], rfl, v_var rfl, v_N (v_cons (v_var rfl) (v_one (star c))) (v_gF rfl (v_V (by simp) (hf c)))⟩) (by
      rw [List.nil_append]
      exact List.Pairwise.map sg (fun a b hab z => hab (sg_inj.mp z)) on) (by simp; omega)
    have s2 : sEx (eM isL gApp (eVar 4) (aCons (dToV (dc (iE itL (eVar 6)) [7] (kName 7) cYes (eVar 7) v2_safe_in)) aNil)) (eI w ord al (some (.int p)) (some OT) none) st = some (.nx (eI w ord al (some (.int p)) (some OT) none) [some (sD seen), some (.lst ((rows ++ [(oth w (sl al) p, f)]).map rowD))]) := by
      have hd : dToV (dc (iE itL (eVar 6)) [7] (kName 7) cYes (eVar 7) v2_safe_in) (eI w ord al (some (.int p)) (some OT) none) st = some (rowD (oth w (sl al) p, f), st) := by
        rw [zDToV, zDc, v_iE (xs := (oth w (sl al) p).map fun c => Dt.str (sg c)) (v_var rfl) rfl, Option.bind_some]
        dsimp only
        rw [show wipeD (eI w ord al (some (.int p)) (some OT) none) [7] = eI w ord al (some (.int p)) (some OT) none from rfl]
        rw [show ([] : List Key) = ([] : List Str).map Sum.inr from rfl, hdc, Option.bind_some]
        unfold rowD
        rw [List.nil_append, List.nil_append, List.map_map]
        rfl
      have e := s_ex (v_app (r := eI w ord al (some (.int p)) (some OT) none) (fo := eVar 4) (st := st) (k := 1) (ds := rows.map rowD) (v_var rfl) rfl (v_one hd) rfl (by rw [List.length_map]; omega))
      rw [e]
      show some (Ou.nx _ [some (sD seen), some (Dt.lst (rows.map rowD ++ [rowD (oth w (sl al) p, f)]))]) = _
      rw [List.map_append]
      rfl
    have s3 : sDP (eVar 3) (eVar 5) (eOp2 gIx (eVar 0) (eOp2 gMin (eVar 5) (eC (.int 1)))) (eI w ord al (some (.int p)) (some OT) none) [some (sD seen), some (.lst ((rows ++ [(oth w (sl al) p, f)]).map rowD))] = some (.nx (eI w ord al (some (.int p)) (some OT) none) [some (sD (seen ++ [(p, wAt w p)])), some (.lst ((rows ++ [(oth w (sl al) p, f)]).map rowD))]) := by
      have e := s_DP (r := eI w ord al (some (.int p)) (some OT) none) (st := [some (sD seen), some (.lst ((rows ++ [(oth w (sl al) p, f)]).map rowD))]) (fd := eVar 3) (fk := eVar 5) (fv := eOp2 gIx (eVar 0) (eOp2 gMin (eVar 5) (eC (.int 1)))) (v := .str (sg (wAt w p))) (v_op (v_var rfl) (v_op (v_var rfl) rfl zMin) (ix_w h rfl hp.1 hp.2)) (v_var rfl) (v_var rfl) (ks := seen.map fun p : Nat × Nat => (Sum.inl (p.1 : Int) : Key)) (es := seen.map fun p : Nat × Nat => Dt.str (sg p.2)) (k := Sum.inl (p : Int)) rfl (by rw [List.length_map]; omega) rfl
      rw [e, pPut_sD hpn]
      rfl
    obtain ⟨u5, u6, k1, k2⟩ := si2_outer h ps (seen ++ [(p, wAt w p)]) (rows ++ [(oth w (sl al) p, f)]) (some (.int p)) (some OT) (fun q hq => hb q (by simp [hq])) (List.nodup_cons.mp nd).2 (fun q hq => by
      rw [List.map_append, List.mem_append]
      rintro (z | z)
      · exact hps q (by simp [hq]) z
      · simp at z; subst z; exact (List.nodup_cons.mp nd).1 hq) (seen2 _) (by rw [List.length_append]; simp; omega) (by rw [List.length_append]; simp; omega)
    have es : seen ++ sn w (p :: ps) = seen ++ [(p, wAt w p)] ++ sn w ps := by unfold sn; simp
    rw [es]
    refine ⟨u5, u6, ?_, k2⟩
    rw [List.map_cons]
    have er : rows ++ [(oth w (sl al) p, f)] ++ srows w (sl al) (seen ++ [(p, wAt w p)]) ps = rows ++ srows w (sl al) seen (p :: ps) := by
      rw [List.append_assoc]
      rfl
    rw [er] at k1
    exact for_cons (r1 := eI w ord al (some (.int p)) v6 none) rfl (s_seq s1 (s_seq s2 s3)) k1
/-- the table of the greatest safe skips -/
def st0 (w ord : List Nat) : Nat := lsk w (sn w ord)
def srw (w al ord : List Nat) : List Row := srows w (sl al) [] ord
theorem run_safe_in (h : Win w al ord) : fV F_safe_in [.str (tx w), OD ord, .str (tx al)] = some (tabD (st0 w ord) (srw w al ord)) := by
  have hz := line_ge
  have hol := h.ol
  have n7 := h.n7
  obtain ⟨v5, v6, k1, k2⟩ := si2_outer h ord [] [] none none h.ob h.on (by simp) ⟨by simp, by simp⟩ (by simp; omega) (by simp; omega)
  rw [List.nil_append, List.nil_append] at k1
  rw [List.nil_append] at k2
  have ht := run_safe_skip h k2
  have rl : (srows w (sl al) [] ord).length ≤ 7 := by rw [srows_len]; omega
  have e : g_safe_in (startD 8 [.str (tx w), OD ord, .str (tx al)]) [] = some (.rt (tabD (st0 w ord) (srw w al ord)) [none, some (.lst ((srows w (sl al) [] ord).map rowD))]) := by
    refine s_seq (r1 := eI w ord al none none none) (st1 := [some (sD []), some (.lst [])]) (s_asg (v_toT (v_cons (x := .ref 0) (st1 := [some (sD [])]) rfl (v_one (v_toR (v_smallN v_nil (by show 0 ≤ _; omega))))) (by show 2 ≤ _; omega)) rfl) ?_
    refine s_seq (s_for (v_iE (v_var rfl) (show itL [some (sD []), some (.lst [])] (OD ord) = some (ord.map fun p : Nat => .int p) from rfl)) k1) ?_
    refine s_ret (v_op (v_toV (v_smallN (v_one (v_N (v_cons (v_var rfl) (v_one (v_frz (k := 0) (d := sD (sn w ord)) (v_var rfl) rfl))) (v_gF rfl (v_V (by simp) ht)))) (by show 1 ≤ _; omega))) (v_var rfl) ?_)
    show (if [Dt.int (lsk w (sn w ord))].length + ((srows w (sl al) [] ord).map rowD).length ≤ sizeLine then some (Dt.lst ([Dt.int (lsk w (sn w ord))] ++ (srows w (sl al) [] ord).map rowD), ([none, some (Dt.lst ((srows w (sl al) [] ord).map rowD))] : Sto)) else none) = _
    rw [if_pos (by rw [List.length_map]; simp; omega)]
    rfl
  exact fV_of (b_rt e) (deref_no nr_tabD)
theorem seen_sub (h : Win w al ord) {l : List Nat} (hl : ∀ p ∈ l, p ∈ ord) : ∀ p ∈ sn w l, p.1 ≤ w.length := fun p hp => by
  unfold sn at hp
  obtain ⟨q, hq, rfl⟩ := List.mem_map.mp hp
  exact (h.ob q (hl q hq)).2
theorem tb_safe (h : Win w al ord) : Tb w al ord (st0 w ord) (srw w al ord) := by
  have n1 := h.n1
  have l0 := lsk_ok n1 (seen_sub h (l := ord) fun _ z => z)
  have get : ∀ (i : Nat) (r : Row), (srw w al ord)[i]? = some r → ∃ p, ord[i]? = some p ∧ r = (oth w (sl al) p, fun c => lsk w ([] ++ sn w (ord.take i) ++ [(p, c)])) := fun i r hr => by
    have hi : i < ord.length := by
      have := (List.getElem?_eq_some_iff.mp hr).1
      unfold srw at this
      rw [srows_len] at this
      exact this
    have hp := List.getElem?_eq_getElem hi
    refine ⟨_, hp, ?_⟩
    have := srows_get (w := w) (al := sl al) ord [] i _ hp
    unfold srw at hr
    rw [hr] at this
    exact Option.some.inj this
  refine ⟨l0.1, l0.2.1, by unfold srw; rw [srows_len, h.ol], fun i r hr => ?_, fun i r p hr hp c => ?_, fun i r hr c hc => ?_⟩
  · obtain ⟨p, hp, rfl⟩ := get i r hr
    exact oth_nd h p
  · obtain ⟨q, hq, rfl⟩ := get i r hr
    rw [hp] at hq
    cases hq
    show c ∈ oth w (sl al) p ↔ _
    unfold oth
    rw [List.mem_filter, (sl_perm al).mem_iff]
    simp
  · obtain ⟨p, hp, rfl⟩ := get i r hr
    have hpo := h.ob p (List.mem_of_getElem? hp)
    have := lsk_ok (w := w) (ps := [] ++ sn w (ord.take i) ++ [(p, c)]) n1 (fun q hq => by
      rw [List.nil_append] at hq
      rcases List.mem_append.mp hq with z | z
      · exact seen_sub h (fun _ z => List.mem_of_mem_take z) q z
      · simp at z; rw [z]; exact hpo.2)
    exact ⟨this.1, this.2.1⟩
end
end K84

set_option Elab.async false
set_option linter.all false
set_option maxRecDepth 100000
set_option maxHeartbeats 1000000
namespace K84
open PySem PySem.Spec PyProof.Rows L2 HB
section
variable {ws : List Str} {n : Nat}
theorem st_inner {W : Dt} {w : Str} (hw : w.length ≤ sizeLine) : ∀ (ks : List Nat) (l : List Str) (c : Option Dt), l.length + ks.length < sizeLine → ∃ c', sForGo (kName 3) b1_all_states (ks.map fun n => Dt.int (0 + (n : Nat))) [some W, some (.ref 0), some (.str w), c] [some (dS l)] =
    some (.nx [some W, some (.ref 0), some (.str w), c'] [some (dS ((ks.map (pre w)).foldl (fun l k => ins2 k l) l))])
  | [], l, c, _ => ⟨c, rfl⟩
  | n :: ks, l, c, h => by
    rw [List.length_cons] at h
    have := ins2_len (pre w n) l
    obtain ⟨c', ih⟩ := st_inner hw ks (ins2 (pre w n) l) (some (.int (0 + (n : Nat)))) (by omega)
    refine ⟨c', ?_⟩
    rw [List.map_cons]
    refine for_cons (r1 := [some W, some (.ref 0), some (.str w), some (.int (0 + (n : Nat)))]) (r2 := [some W, some (.ref 0), some (.str w), some (.int (0 + (n : Nat)))]) (st1 := [some (dS (ins2 (pre w n) l))]) rfl ?_ (by rw [List.map_cons, List.foldl_cons]; exact ih)
    have e := s_DP (r := [some W, some (.ref 0), some (.str w), some (.int (0 + (n : Nat)))]) (st := [some (dS l)]) (fd := eVar 1) (fk := eSl (eVar 2) oNo (oE (eVar 3))) (fv := eC (.bl true)) (kd := .str (pre w n)) (k := Sum.inr (pre w n)) (i := 0) (ks := l.map Sum.inr) (es := l.map fun _ => .bl true) rfl (v_var rfl)
      (v_sl (v_var rfl) rfl (v_oE (v_var rfl)) (by rw [v_slS hw, Int.zero_add, cutS_pre])) rfl (by rw [List.length_map]; omega) rfl
    unfold b1_all_states
    rw [e, put_dS]
    rfl
theorem st_outer {W : Dt} {m : Nat} : ∀ (ws : List Str) (l : List Str) (b c : Option Dt), (∀ w ∈ ws, w.length ≤ 7) → l.length + 8 * ws.length < 1000000 → ∃ b' c', sForGo (kName 2) b2_all_states (ws.map Dt.str) [some W, some (.ref 0), b, c] [some (dS l)] =
    some (.nx [some W, some (.ref 0), b', c'] [some (dS ((ws.flatMap preOf).foldl (fun l k => ins2 k l) l))])
  | [], l, b, c, _, _ => ⟨b, c, rfl⟩
  | w :: ws, l, b, c, hw, hl => by
    have h7 := hw w (by simp)
    have hz : w.length ≤ sizeLine := Nat.le_trans h7 (Nat.le_trans (by decide) line_ge)
    have hsl := line_ge
    rw [List.length_cons] at hl
    obtain ⟨c1, e1⟩ := st_inner (W := W) hz (List.range (w.length + 1)) l c (by rw [List.length_range]; omega)
    have hlen := fold_len ((List.range (w.length + 1)).map (pre w)) l
    rw [List.length_map, List.length_range] at hlen
    obtain ⟨b', c', e2⟩ := st_outer (W := W) (m := m) ws (((List.range (w.length + 1)).map (pre w)).foldl (fun l k => ins2 k l) l) (some (.str w)) c1 (fun v hv => hw v (by simp [hv])) (by omega)
    refine ⟨b', c', ?_⟩
    rw [List.map_cons]
    refine for_cons (r1 := [some W, some (.ref 0), some (.str w), c]) rfl (s_for (v_rg (n := w.length + 1) (v_one (v_op (v_N (v_one (v_var rfl)) (v_lenS hz)) rfl rfl)) (by omega)) e1) ?_
    rw [List.flatMap_cons, List.foldl_append]
    exact e2
theorem run_states {ws : List Str} {n : Nat} (hg : Good ws n) : F_all_states [WL ws] [] = some (.ref 1, [some (dS (keysOf ws)), some (WL (allSt ws))]) := by
  have h5 := hg.l5
  obtain ⟨b', c', e⟩ := st_outer (W := WL ws) (m := 0) ws [] none none (fun w hw => by rw [hg.len w hw]; exact hg.n7) (by simp; omega)
  refine b_rt ?_
  refine s_seq (r1 := [some (WL ws), some (.ref 0), none, none]) (st1 := [some (dS [])]) rfl (s_seq (s_for (xs := ws.map Dt.str) (st1 := [some (dS [])]) (by exact v_iE (v_var rfl) rfl) e) (s_ret ?_))
  unfold eSortK
  rw [v_var (d := .ref 0) rfl]
  rw [show List.foldl (fun l k => ins2 k l) [] (List.flatMap preOf ws) = keysOf ws from rfl]
  show (kStrs ((keysOf ws).map Sum.inr)).bind _ = _
  have hk : kStrs ((keysOf ws).map (Sum.inr : Str → Key)) = some (keysOf ws) := by
    generalize keysOf ws = l
    induction l with
    | nil => rfl
    | cons x l ih => rw [List.map_cons]; show (kStrs (l.map (Sum.inr : Str → Key))).map _ = _; rw [ih]; rfl
  rw [hk]
  show (if _ then _ else _) = _
  rw [if_pos]
  · rfl
  · rw [List.all_eq_true]
    intro x hx
    obtain ⟨w, hw, k, hk, rfl⟩ := mem_keys.mp hx
    have h7 := hg.n7
    have hl := hg.len w hw
    have hs := line_ge
    have hp := pre_len w k
    simp only [decide_eq_true_eq]
    omega

theorem run_all_states (hg : Good ws n) : fV F_all_states [WL ws] = some (WL (allSt ws)) := fV_lst (run_states hg) rfl (noRefs_str _)
theorem run_all_statesR (hg : Good ws n) : fR F_all_states [WL ws] = some (WL (allSt ws)) := fR_lst (run_states hg) rfl (noRefs_str _)
/-! letters_behind -/
theorem lc_few {l : List Str} {zs : List Dt} {st : Sto} (h : zs.length ≤ l.length) (hl : l.length ≤ 40) : zs.length ≤ sizeLine := by have := line_ge; omega
theorem run_behindV (hg : Good ws n) : F_letters_behind [WL ws] [] = some (.ref 0, [some (bD ws)]) := by
  have hf := all_few hg
  have hs := line_ge
  have inn : ∀ s, lcGo (kName 3) c1_letters_behind e1_letters_behind [some (WL ws), some (WL (allSt ws)), some (.str s), none] ((allSt ws).map Dt.str) [] = some (((allSt ws).filter fun (o : Str) => decide (o ≠ ("" : Str)) && decide (pre o (o.length - 1) = s)).map fun o => .str (lastS o), []) := fun s =>
    lcGo_pure _ _ _ _ fun o ho => ⟨_, rfl, by
      have k := zSlS (st := []) (lo := none) (hi := some (-1)) (all_line hg ho)
      rw [cutS_m1] at k
      by_cases h1 : o = ("" : Str)
      · simp [c1_letters_behind, h1]
      · simp [c1_letters_behind, h1, k], fun hp => by
      have ho' : o ≠ ("" : Str) := by
        simp only [Bool.and_eq_true, decide_eq_true_eq] at hp
        exact hp.1
      simp [e1_letters_behind, v_ixS (all_line hg ho) (at_m1 ho'), lastS]⟩
  have outer := dc_pure (st := []) (r := [some (WL ws), some (WL (allSt ws)), none, none]) (kt := kName 2) (fk := eVar 2) (fv := v2_letters_behind) Dt.str (fun s => s) (fun s => WL (after ws s)) (allSt ws) [] [] (fun s hs' => ⟨_, rfl, by simp, by
    simp [v2_letters_behind]
    rw [inn s]
    have hl : (((allSt ws).filter fun (o : Str) => decide (o ≠ ("" : Str)) && decide (pre o (o.length - 1) = s)).map fun o => Dt.str (lastS o)).length ≤ sizeLine := by
      rw [List.length_map]
      have := List.length_filter_le (fun (o : Str) => decide (o ≠ ("" : Str)) && decide (pre o (o.length - 1) = s)) (allSt ws)
      omega
    show ((if _ ≤ sizeLine then _ else none).bind _) = _
    rw [if_pos hl]
    simp [after, Function.comp_def]⟩) (by simpa using all_nodup ws) (by simp; omega)
  refine b_rt ?_
  simp [g_letters_behind, startD, run_all_states hg]
  simp at outer
  rw [outer]
  simp
theorem run_behind (hg : Good ws n) : fV F_letters_behind [WL ws] = some (bD ws) := fV_of (run_behindV hg) (deref_ref rfl (by simp [noRefs_map]))
/-! check_state, ends_in -/
theorem run_check_state (hg : Good ws n) {s : Str} (hs : s ∈ allSt ws) : fV F_check_state [.str s, WL ws] = some .non := by
  have e : g_check_state (startD 2 [.str s, WL ws]) [] = some (.nx [some (.str s), some (WL ws)] []) := by
    have k : gInZ true [] (.str s) (WL (allSt ws)) = some (.bl false, []) := v_ninF (l := allSt ws) (st := []) (d := WL (allSt ws)) rfl hs
    simp [g_check_state, startD, run_all_states hg, k]
  exact fV_of (b_nx e) (deref_no rfl)
theorem run_ends_in (hg : Good ws n) {s : Str} (hs : s ∈ allSt ws) : F_ends_in [WL ws, .str s] [] = some (.ref 0, [some (WL (below ws s))]) := by
  have hf := all_few hg
  have hsl := line_ge
  have k2 := zLenS (st := []) (all_line hg hs)
  have h := lcGo_pure (st := []) (r := [some (WL ws), some (.str s), none]) (kt := kName 2) (c := c1_ends_in) (f := e1_ends_in) Dt.str (fun o => decide (o.length < s.length) && Txt.endswith s o) Dt.str (allSt ws) fun o ho => ⟨_, rfl, by
    have k1 := zLenS (st := []) (all_line hg ho)
    by_cases hc : o.length < s.length
    · simp [c1_ends_in, k1, k2, hc, eM, isS, gEnds]
    · simp [c1_ends_in, k1, k2, hc], fun _ => by simp [e1_ends_in]⟩
  have hl : (((allSt ws).filter fun o => decide (o.length < s.length) && Txt.endswith s o).map Dt.str).length ≤ sizeLine := by
    rw [List.length_map]
    have := List.length_filter_le (fun o => decide (o.length < s.length) && Txt.endswith s o) (allSt ws)
    omega
  refine b_rt ?_
  simp [g_ends_in, startD, run_all_states hg]
  rw [h]
  show ((if _ ≤ sizeLine then _ else none).bind _).bind _ = _
  rw [if_pos hl]
  rfl
theorem run_ends (hg : Good ws n) {s : Str} (hs : s ∈ allSt ws) : fV F_ends_in [WL ws, .str s] = some (WL (below ws s)) := fV_lst (run_ends_in hg hs) rfl (noRefs_str _)
end
section
variable {ws : List Str} {n : Nat} {ks : List Str} {tb : Str → Str}
theorem cut_tl (hg : Good ws n) : cutL ((allSt ws).map Dt.str) (some 1) none = (tl ws).map Dt.str := by rw [all_cons hg, cutL_one]
theorem run_check_table (hg : Good ws n) (hk : Keys ws ks) (ht : Tab ws tb) : fV F_check_table [tK ks tb, WL ws] = some .non := by
  have hf := tl_few hg
  have hs := line_ge
  have hl := tl_len hg
  have hkl := hk.len
  have e1 : lcGo (kName 3) cYes e1_check_table [some (tK ks tb), some (WL ws), some (WL (allSt ws)), none, none] ((tl ws).map Dt.str) [] = some ((tl ws).map fun _ => .bl true, []) :=
    lcGo_map _ _ _ fun s hs' => ⟨_, rfl, by
      have kin : gInZ false [] (.str s) (tK ks tb) = some (.bl true, []) := in_tK ((hk.mem s).mpr hs')
      simp [e1_check_table, kin]⟩
  have e2 := bools_allT (tl ws) (fun _ => true) []
  have e3 : ((tl ws).all fun _ => true) = true := by simp
  have hlp := (for_st (kt := kName 3) (g := b2_check_table) Dt.str (fun s : Option Dt × Option Dt => [some (tK ks tb), some (WL ws), some (WL (allSt ws)), s.1, s.2]) (fun _ => []) (fun _ s => (some (.str s), some (.str (tb s)))) (fun _ => True) (tl ws) (none, none) trivial ?_).1
  · obtain ⟨r', e⟩ : ∃ r', g_check_table (startD 5 [tK ks tb, WL ws]) [] = some (.nx r' []) := ⟨_, by
      simp [g_check_table, startD, run_all_states hg, cut_tl hg, hl, hkl]
      rw [e1]
      have : (tl ws).length ≤ sizeLine := by omega
      simp [this, e2, e3, cut_tl hg]
      exact hlp⟩
    exact fV_of (b_nx e) (deref_no rfl)
  · rintro ⟨s1, s2⟩ s hs' _
    refine ⟨_, rfl, ?_, trivial⟩
    obtain ⟨a, b⟩ := ht s hs'
    have k1 := zLenS (st := []) (all_line hg a)
    have k2 := zLenS (st := []) (all_line hg ((mem_tl hg).mp hs').1)
    have k3 : gInZ true [] (.str (tb s)) (WL (allSt ws)) = some (.bl false, []) := v_ninF (l := allSt ws) rfl a
    have k4 : ¬ (s.length : Int) ≤ ((tb s).length : Int) := by omega
    simp [b2_check_table, ix_tK ((hk.mem s).mpr hs'), k1, k2, k3]
    omega
theorem run_check_search (hg : Good ws n) (hk : Keys ws ks) (ht : Tab ws tb) : fV F_check_search [WL ws, tK ks tb] = some .non := by
  have e : g_check_search (startD 2 [WL ws, tK ks tb]) [] = some (.nx [some (WL ws), some (tK ks tb)] []) := by
    simp [g_check_search, startD, run_check_words hg, run_check_table hg hk ht]
  exact fV_of (b_nx e) (deref_no rfl)
end
section
variable {ws : List Str} {n : Nat} {ks : List Str} {tb : Str → Str}
theorem fR_dic {F : List Dt → Sto → Option (Dt × Sto)} {ds : List Dt} {ks : List Key} {es : List Dt} (h : F ds [] = some (.ref 0, [some (.dic ks es)])) (hn : noRefs es = true) : fR F ds = some (.dic ks es) := by
  unfold fR
  rw [h]
  show (derefs (([some (.dic ks es)] : Sto).set 0 none) 6 es).map (Dt.dic ks) = _
  rw [derefs_no hn]
  rfl
theorem fV_dic {F : List Dt → Sto → Option (Dt × Sto)} {ds : List Dt} {ks : List Key} {es : List Dt} (h : F ds [] = some (.ref 0, [some (.dic ks es)])) (hn : noRefs es = true) : fV F ds = some (.dic ks es) := fV_of h (deref_ref rfl (by rw [nrD]; exact hn))
theorem nr_strs {ks : List Str} {f : Str → Str} : noRefs (ks.map fun s => Dt.str (f s)) = true := noRefs_map fun _ _ => rfl
theorem nr_oSs {ks : List Str} {f : Str → Option Str} : noRefs (ks.map fun s => oS (f s)) = true := noRefs_map fun _ _ => nrO
theorem run_true_inV (hg : Good ws n) : F_true_in [WL ws] [] = some (.ref 0, [some (tK (tl ws) (longE ws))]) := by
  have hf := tl_few hg
  have e := dc_pure (st := []) (r := [some (WL ws), none]) (kt := kName 1) (fk := eVar 1) (fv := v1_true_in) Dt.str (fun s => s) (fun s => .str (longE ws s)) (tl ws) [] [] (fun s hs => ⟨_, rfl, by simp, by
    have hne : below ws s ≠ [] := fun z => by have := below_ne hg hs; rw [z] at this; simp at this
    have k : atI ((below ws s).map Dt.str) (-1) = some (.str (longE ws s)) := by
      have hl : 0 < (below ws s).length := List.length_pos_iff.mpr hne
      unfold atI ixN
      rw [if_neg (by decide), if_pos (by simp; omega)]
      show ((below ws s).map Dt.str)[(-1 + (((below ws s).map Dt.str).length : Int)).toNat]? = _
      have : (-1 + (((below ws s).map Dt.str).length : Int)).toNat = (below ws s).length - 1 := by simp; omega
      rw [this, List.getElem?_map, ← List.getLast?_eq_getElem?, List.getLast?_eq_some_getLast hne]
      unfold longE
      rw [List.getLastD_eq_getLast?, List.getLast?_eq_some_getLast hne]
      rfl
    simp [v1_true_in, run_ends hg ((mem_tl hg).mp hs).1, zIx k]⟩) (by simpa using tl_nodup ws) (by simp; omega)
  refine b_rt ?_
  simp [g_true_in, startD, run_all_states hg, cut_tl hg]
  simp at e
  rw [e]
  simp [tK]
theorem run_true_tableV (hg : Good ws n) : F_true_table [WL ws] [] = some (.ref 0, [some (tK (tl ws) (longE ws))]) := by
  refine b_rt ?_
  simp [g_true_table, startD, run_check_words hg, fR_dic (run_true_inV hg) nr_strs]
  rfl
theorem run_true_table (hg : Good ws n) : fV F_true_table [WL ws] = some (tK (tl ws) (longE ws)) := fV_dic (run_true_tableV hg) nr_strs
theorem run_true_tableR (hg : Good ws n) : fR F_true_table [WL ws] = some (tK (tl ws) (longE ws)) := fR_dic (run_true_tableV hg) nr_strs
/-! the law's own -/
end
end K84

set_option Elab.async false
set_option linter.all false
set_option maxRecDepth 100000
set_option maxHeartbeats 1000000
namespace K84
open PySem PySem.Spec PyProof.Rows L2 HB
section
variable {w al ord txt : List Nat} {t0 : Nat} {rows : List Row} {ps : List (Nat × Nat)}
/-! what is found, and what is missed -/
theorem srch_fd : ∀ (n b : Nat) (told : List Nat) (lk : Nat), (srch w ord t0 rows txt n b told lk).1 = told ++ ((wk (skp w ord t0 rows txt) w.length txt.length n b).filter fun b => decide (fm w ord txt b = w.length)).map (· + w.length)
  | 0, b, told, lk => by unfold srch wk; simp
  | n + 1, b, told, lk => by
    unfold srch wk
    by_cases hb : b + w.length ≤ txt.length
    · rw [if_pos hb, if_pos hb, srch_fd n]
      by_cases hf : fm w ord txt b = w.length
      · rw [if_pos hf, List.filter_cons_of_pos (by simp [hf])]
        simp
      · rw [if_neg hf, List.filter_cons_of_neg (by simp [hf])]
        simp
    · rw [if_neg hb, if_neg hb]; simp
theorem wk_ge {f : Nat → Nat} {L N : Nat} : ∀ (m a x : Nat), x ∈ wk f L N m a → a ≤ x ∧ x + L ≤ N
  | 0, a, x, h => by simp [wk] at h
  | m + 1, a, x, h => by
    unfold wk at h
    split at h
    · rcases List.mem_cons.mp h with z | z
      · subst z; exact ⟨Nat.le_refl _, by assumption⟩
      · have := wk_ge m _ x z; exact ⟨by omega, this.2⟩
    · simp at h
theorem wk_mem {f : Nat → Nat} {L N b : Nat} (hb : b + L ≤ N) (h1 : ∀ a, a < b → 1 ≤ f a ∧ a + f a ≤ b) : ∀ (m a : Nat), a ≤ b → N < a + m → b ∈ wk f L N m a
  | 0, a, hab, hm => by omega
  | m + 1, a, hab, hm => by
    unfold wk
    rw [if_pos (by omega)]
    by_cases e : a = b
    · rw [e]; simp
    · have := h1 a (by omega)
      exact List.mem_cons_of_mem _ (wk_mem hb h1 m (a + f a) this.2 (by omega))
/-- the word stands there -/
def occ (w txt : List Nat) (b : Nat) : Prop := b + w.length ≤ txt.length ∧ ∀ q, 1 ≤ q → q ≤ w.length → tAt txt b q = wAt w q
theorem occ_fm (hol : ord.length = w.length) (hob : ∀ p ∈ ord, 1 ≤ p ∧ p ≤ w.length) {b : Nat} (h : occ w txt b) : fm w ord txt b = w.length := by
  unfold fm
  rw [← hol]
  refine List.findIdx_eq_length.mpr fun p hp => ?_
  have := hob p hp
  unfold mis
  simp [h.2 p this.1 this.2]
theorem fm_occ (hcov : ∀ q, 1 ≤ q → q ≤ w.length → q ∈ ord) (hol : ord.length = w.length) {b : Nat} (hb : b + w.length ≤ txt.length) (h : fm w ord txt b = w.length) : occ w txt b := by
  refine ⟨hb, fun q h1 h2 => ?_⟩
  unfold fm at h
  have := List.findIdx_eq_length.mp (h.trans hol.symm) q (hcov q h1 h2)
  unfold mis at this
  simpa using this
/-- an occurrence further on does not contradict what was seen -/
theorem occ_fit {a b : Nat} (hob : ∀ p ∈ ord, 1 ≤ p ∧ p ≤ w.length) (n1 : 1 ≤ w.length) (hab : a < b) (h : occ w txt b) : a + lsk w (see w ord txt a) ≤ b := by
  have ub : ∀ p ∈ see w ord txt a, p.1 ≤ w.length := fun p hp => by
    unfold see at hp
    obtain ⟨q, hq, rfl⟩ := List.mem_map.mp hp
    exact (hob q (List.mem_of_mem_take hq)).2
  have l := lsk_ok n1 ub
  by_cases hlt : b - a ≤ w.length
  · have hf : (see w ord txt a).all (fitB w (b - a)) = true := by
      rw [List.all_eq_true]
      intro p hp
      have hpu := ub p hp
      unfold see at hp
      obtain ⟨q, hq, rfl⟩ := List.mem_map.mp hp
      unfold fitB
      by_cases hqb : q ≤ b - a
      · simp [hqb]
      · have := h.2 (q - (b - a)) (by omega) (by dsimp only at hpu; omega)
        unfold tAt wAt at this
        have e1 : b + (q - (b - a)) - 1 = a + q - 1 := by omega
        rw [e1] at this
        have : w.getD (q - (b - a) - 1) 0 = tAt txt a q := by unfold tAt; exact this.symm
        simp only [this, decide_true, Bool.or_true]
    have := lsk_le n1 ub (by omega) hlt hf
    omega
  · omega
/-- a table none of whose skips is greater than the safe one misses nothing -/
theorem no_miss (hol : ord.length = w.length) (hob : ∀ p ∈ ord, 1 ≤ p ∧ p ≤ w.length) (n1 : 1 ≤ w.length) (hN : txt.length < 1000) (hs : ∀ b, b + w.length ≤ txt.length → 1 ≤ skp w ord t0 rows txt b ∧ skp w ord t0 rows txt b ≤ lsk w (see w ord txt b)) {b : Nat} (h : occ w txt b) : b + w.length ∈ (srch w ord t0 rows txt 1000 0 [] 0).1 := by
  rw [srch_fd, List.nil_append, List.mem_map]
  refine ⟨b, List.mem_filter.mpr ⟨?_, by simp [occ_fm hol hob h]⟩, rfl⟩
  refine wk_mem h.1 (fun a ha => ?_) 1000 0 (Nat.zero_le _) (by omega)
  have hb1 := h.1
  have k := hs a (by omega)
  have := occ_fit (ord := ord) hob n1 ha h
  exact ⟨k.1, by omega⟩
/-- a text whose first window leads behind the word at its end -/
theorem miss {far : Nat} (hN : txt.length = far + w.length) (h1 : 1 ≤ far) (hg : far < skp w ord t0 rows txt 0) : far + w.length ∉ (srch w ord t0 rows txt 1000 0 [] 0).1 := by
  rw [srch_fd, List.nil_append, List.mem_map]
  rintro ⟨b, hb, e⟩
  obtain ⟨hb1, hb2⟩ := List.mem_filter.mp hb
  have e' : b = far := by omega
  subst e'
  unfold wk at hb1
  rw [if_pos (by omega)] at hb1
  rcases List.mem_cons.mp hb1 with z | z
  · omega
  · have := (wk_ge _ _ _ z).1
    omega
/-! the text of an entry -/
def lkp (ps : List (Nat × Nat)) (d p : Nat) : Nat := match ps.find? fun q => decide (q.1 = p) with
  | some q => q.2
  | none => d
def tfor (w : List Nat) (ps : List (Nat × Nat)) (far : Nat) : List Nat := ((List.range far).map fun i => lkp ps (w.getD 0 0) (1 + i)) ++ w
theorem tfor_len {far : Nat} : (tfor w ps far).length = far + w.length := by unfold tfor; simp
theorem lkp_mem (nd : (ps.map (·.1)).Nodup) {q : Nat × Nat} (hq : q ∈ ps) (d : Nat) : lkp ps d q.1 = q.2 := by
  unfold lkp
  cases hf : ps.find? fun r => decide (r.1 = q.1) with
  | none =>
    have := List.find?_eq_none.mp hf q hq
    simp at this
  | some r =>
    have h1 := List.mem_of_find?_eq_some hf
    have h2 := List.find?_some hf
    simp at h2
    obtain ⟨i, hi, ei⟩ := List.mem_iff_getElem.mp h1
    obtain ⟨j, hj, ej⟩ := List.mem_iff_getElem.mp hq
    have : i = j := (List.getElem_inj (xs := ps.map (·.1)) (h₀ := by simpa using hi) (h₁ := by simpa using hj) nd).mp (by simp [ei, ej, h2])
    subst this
    rw [← ei, ej]
theorem tfor_at {far : Nat} (nd : (ps.map (·.1)).Nodup) (hfit : ps.all (fitB w far) = true) {q : Nat × Nat} (hq : q ∈ ps) (h1 : 1 ≤ q.1) (h2 : q.1 ≤ w.length) : tAt (tfor w ps far) 0 q.1 = q.2 := by
  unfold tAt tfor
  rw [Nat.zero_add]
  by_cases hf : q.1 ≤ far
  · rw [List.getD, List.getElem?_append_left (by simp; omega), List.getElem?_map, List.getElem?_range (by omega)]
    show lkp ps _ (1 + (q.1 - 1)) = _
    have e : 1 + (q.1 - 1) = q.1 := by omega
    rw [e]
    exact lkp_mem nd hq _
  · have := List.all_eq_true.mp hfit q hq
    unfold fitB at this
    simp [hf] at this
    rw [List.getD, List.getElem?_append_right (by simp; omega)]
    simp
    have e : q.1 - 1 - far = q.1 - far - 1 := by omega
    rw [e]
    exact this
theorem tfor_occ {far : Nat} : occ w (tfor w ps far) far := by
  refine ⟨by rw [tfor_len]; omega, fun q h1 h2 => ?_⟩
  unfold tAt wAt tfor
  rw [List.getD, List.getElem?_append_right (by simp; omega)]
  simp
  have e : far + q - 1 - far = q - 1 := by omega
  rw [e]
theorem lkp_al (hw : ∀ c ∈ w, c ∈ al) (hp : ∀ q ∈ ps, q.2 ∈ al) (n1 : 1 ≤ w.length) (p : Nat) : lkp ps (w.getD 0 0) p ∈ al := by
  unfold lkp
  split
  · rename_i q hq
    exact hp q (List.mem_of_find?_eq_some hq)
  · have : w.getD 0 0 ∈ w := by
      have : w.getD 0 0 = w[0] := by simp [List.getD, show 0 < w.length by omega]
      rw [this]; exact List.getElem_mem _
    exact hw _ this
theorem tfor_al {far : Nat} (hw : ∀ c ∈ w, c ∈ al) (hp : ∀ q ∈ ps, q.2 ∈ al) (n1 : 1 ≤ w.length) : ∀ c ∈ tfor w ps far, c ∈ al := by
  intro c hc
  unfold tfor at hc
  rcases List.mem_append.mp hc with z | z
  · obtain ⟨i, _, rfl⟩ := List.mem_map.mp z
    exact lkp_al hw hp n1 _
  · exact hw c z
/-! entries: which look, which letter -/
abbrev Ix := Nat × Option Nat
/-- what is seen at an entry -/
def sOf (w ord : List Nat) : Ix → List (Nat × Nat)
  | (i + 1, some c) => sn w (ord.take i) ++ [(ord.getD i 0, c)]
  | _ => sn w ord
def vOf (t0 : Nat) (rows : List Row) : Ix → Nat
  | (i + 1, some c) => (rows.getD i ([], fun _ => 0)).2 c
  | _ => t0
/-- an entry of the tables of a window -/
def okIx (w al ord : List Nat) : Ix → Prop
  | (0, none) => True
  | (i + 1, some c) => ∃ p, ord[i]? = some p ∧ c ∈ al ∧ c ≠ wAt w p
  | _ => False
theorem sOf_nd (on : ord.Nodup) {x : Ix} (hx : okIx w al ord x) : ((sOf w ord x).map (·.1)).Nodup := by
  have e : ∀ l : List Nat, (sn w l).map (·.1) = l := fun l => by
    unfold sn
    rw [List.map_map]
    conv => rhs; rw [← List.map_id l]
    exact List.map_congr_left fun _ _ => rfl
  match x, hx with
  | (0, none), _ => show ((sn w ord).map (·.1)).Nodup; rw [e]; exact on
  | (i + 1, some c), ⟨p, hp, _, _⟩ =>
    show ((sn w (ord.take i) ++ [(ord.getD i 0, c)]).map (·.1)).Nodup
    rw [List.map_append, e]
    have hi : i < ord.length := (List.getElem?_eq_some_iff.mp hp).1
    have : ord.take i ++ [ord.getD i 0] = ord.take (i + 1) := by rw [List.take_add_one, hp]; simp [List.getD, hp]
    show (ord.take i ++ [ord.getD i 0]).Nodup
    rw [this]
    exact on.sublist (List.take_sublist _ _)
theorem sOf_ob (hob : ∀ p ∈ ord, 1 ≤ p ∧ p ≤ w.length) {x : Ix} (hx : okIx w al ord x) : ∀ q ∈ sOf w ord x, 1 ≤ q.1 ∧ q.1 ≤ w.length := by
  have e : ∀ l : List Nat, (∀ p ∈ l, p ∈ ord) → ∀ q ∈ sn w l, 1 ≤ q.1 ∧ q.1 ≤ w.length := fun l hl q hq => by
    unfold sn at hq
    obtain ⟨p, hp, rfl⟩ := List.mem_map.mp hq
    exact hob p (hl p hp)
  match x, hx with
  | (0, none), _ => exact e ord fun _ z => z
  | (i + 1, some c), ⟨p, hp, _, _⟩ =>
    intro q hq
    rcases List.mem_append.mp hq with z | z
    · exact e _ (fun _ z => List.mem_of_mem_take z) q z
    · simp [List.getD, hp] at z
      rw [z]
      exact hob p (List.mem_of_getElem? hp)
theorem sOf_al (hw : ∀ c ∈ w, c ∈ al) (hob : ∀ p ∈ ord, 1 ≤ p ∧ p ≤ w.length) {x : Ix} (hx : okIx w al ord x) : ∀ q ∈ sOf w ord x, q.2 ∈ al := by
  have e : ∀ l : List Nat, (∀ p ∈ l, p ∈ ord) → ∀ q ∈ sn w l, q.2 ∈ al := fun l hl q hq => by
    unfold sn at hq
    obtain ⟨p, hp, rfl⟩ := List.mem_map.mp hq
    have := hob p (hl p hp)
    refine hw _ ?_
    unfold wAt
    have h' : w.getD (p - 1) 0 = w[p - 1]'(by omega) := by simp [List.getD, show p - 1 < w.length by omega]
    rw [h']; exact List.getElem_mem _
  match x, hx with
  | (0, none), _ => exact e ord fun _ z => z
  | (i + 1, some c), ⟨p, hp, hc, _⟩ =>
    intro q hq
    rcases List.mem_append.mp hq with z | z
    · exact e _ (fun _ z => List.mem_of_mem_take z) q z
    · simp at z
      rw [z]
      exact hc
/-- the first window of such a text shows what the entry is for -/
theorem skp_sOf (hol : ord.length = w.length) {x : Ix} (hx : okIx w al ord x) (ha : ∀ q ∈ sOf w ord x, tAt txt 0 q.1 = q.2) : skp w ord t0 rows txt 0 = vOf t0 rows x := by
  match x, hx with
  | (0, none), _ =>
    have hf : fm w ord txt 0 = ord.length := by
      unfold fm
      refine List.findIdx_eq_length.mpr fun p hp => ?_
      have := ha (p, wAt w p) (List.mem_map.mpr ⟨p, hp, rfl⟩)
      unfold mis
      simp [this]
    unfold skp
    rw [if_neg (by omega)]
    rfl
  | (i + 1, some c), ⟨p, hp, hc, hne⟩ =>
    have hi : i < ord.length := (List.getElem?_eq_some_iff.mp hp).1
    have eg : ord.getD i 0 = p := by simp [List.getD, hp]
    have hpi : ord[i] = p := by rw [List.getElem?_eq_getElem hi] at hp; exact Option.some.inj hp
    have hat : tAt txt 0 p = c := ha (p, c) (by show (p, c) ∈ sn w (ord.take i) ++ [(ord.getD i 0, c)]; rw [eg]; simp)
    have hf : fm w ord txt 0 = i := by
      unfold fm
      refine (List.findIdx_eq hi).mpr ⟨?_, fun j hj => ?_⟩
      · rw [hpi]
        unfold mis
        simp [hat, hne]
      · have := ha (ord[j], wAt w ord[j]) (by
          show _ ∈ sn w (ord.take i) ++ [(ord.getD i 0, c)]
          refine List.mem_append_left _ (List.mem_map.mpr ⟨ord[j], ?_, rfl⟩)
          exact List.mem_take_iff_getElem.mpr ⟨j, by omega, rfl⟩)
        unfold mis
        simp [this]
    unfold skp
    rw [hf, if_pos hi, eg, hat]
    rfl
theorem vOf_safe (hol : ord.length = w.length) {al' : List Nat} {x : Ix} (hx : okIx w al ord x) : vOf (lsk w (sn w ord)) (srows w al' [] ord) x = lsk w (sOf w ord x) := by
  match x, hx with
  | (0, none), _ => rfl
  | (i + 1, some c), ⟨p, hp, _, _⟩ =>
    have hg := srows_get (w := w) (al := al') ord [] i p hp
    show ((srows w al' [] ord).getD i ([], fun _ => 0)).2 c = lsk w (sn w (ord.take i) ++ [(ord.getD i 0, c)])
    rw [List.getD, hg]
    simp [List.getD, hp]
/-- what a window shows belongs to an entry -/
theorem ix_of (hol : ord.length = w.length) (hob : ∀ p ∈ ord, 1 ≤ p ∧ p ≤ w.length) (hsub : ∀ c ∈ txt, c ∈ al) {b : Nat} (hb : b + w.length ≤ txt.length) : ∃ x, okIx w al ord x ∧ (∀ (t0 : Nat) (rows : List Row), skp w ord t0 rows txt b = vOf t0 rows x) ∧ see w ord txt b = sOf w ord x := by
  by_cases hf : fm w ord txt b < ord.length
  · have hp := List.getElem?_eq_getElem hf
    have hpo := hob _ (List.getElem_mem hf)
    have hm : mis w txt b ord[fm w ord txt b] = true := List.findIdx_getElem (p := mis w txt b) (w := hf)
    refine ⟨(fm w ord txt b + 1, some (tAt txt b ord[fm w ord txt b])), ⟨_, hp, ?_, ?_⟩, fun t0 rows => ?_, ?_⟩
    · refine hsub _ ?_
      unfold tAt
      have h' : txt.getD (b + ord[fm w ord txt b] - 1) 0 = txt[b + ord[fm w ord txt b] - 1]'(by omega) := by simp [List.getD, show b + ord[fm w ord txt b] - 1 < txt.length by omega]
      rw [h']; exact List.getElem_mem _
    · unfold mis at hm
      simpa using hm
    · unfold skp
      rw [if_pos hf]
      have e2 : ord.getD (fm w ord txt b) 0 = ord[fm w ord txt b] := by rw [List.getD, hp]; rfl
      rw [e2]
      rfl
    · show _ = sn w (ord.take (fm w ord txt b)) ++ [(ord.getD (fm w ord txt b) 0, _)]
      have e2 : ord.getD (fm w ord txt b) 0 = ord[fm w ord txt b] := by rw [List.getD, hp]; rfl
      rw [e2]
      unfold see
      rw [List.take_add_one, hp, List.map_append, see_head]
      rfl
  · have hle : fm w ord txt b ≤ ord.length := by unfold fm; exact List.findIdx_le_length
    have e : fm w ord txt b = ord.length := by omega
    refine ⟨(0, none), trivial, fun t0 rows => ?_, ?_⟩
    · unfold skp
      rw [if_neg hf]
      rfl
    · have e2 := see_head (w := w) (ord := ord) (txt := txt) b
      rw [e, List.take_of_length_le (by omega)] at e2
      show _ = sn w ord
      unfold see
      rw [e, List.take_of_length_le (by omega), e2]
end
end K84

set_option Elab.async false
set_option linter.all false
set_option maxRecDepth 100000
set_option maxHeartbeats 1000000
namespace K84
open PySem PySem.Spec PyProof.Rows L2 HB
section
variable {w al ord txt u : List Nat}
/-- the greatest number up to k of which p holds, or 0 -/
def lgst (p : Nat → Bool) : Nat → Nat
  | 0 => 0
  | k + 1 => if p (k + 1) = true then k + 1 else lgst p k
theorem lgst_le (p : Nat → Bool) : ∀ k, lgst p k ≤ k
  | 0 => Nat.le_refl _
  | k + 1 => by unfold lgst; split; exact Nat.le_refl _; have := lgst_le p k; omega
theorem lgst_p {p : Nat → Bool} (h0 : p 0 = true) : ∀ k, p (lgst p k) = true
  | 0 => h0
  | k + 1 => by unfold lgst; split; assumption; exact lgst_p h0 k
theorem lgst_max {p : Nat → Bool} : ∀ {k m : Nat}, m ≤ k → p m = true → m ≤ lgst p k
  | 0, m, h, _ => by omega
  | k + 1, m, h, hp => by
    unfold lgst
    split
    · exact h
    · rename_i hn
      by_cases e : m = k + 1
      · subst e; exact absurd hp hn
      · exact lgst_max (by omega) hp
/-- how many letters of the word are the end of the text -/
def mx (w u : List Nat) : Nat := lgst (fun k => decide (w.take k <:+ u)) w.length
/-- the longest end of its first k letters -/
def bd (w : List Nat) (k : Nat) : Nat := lgst (fun j => decide (w.take j <:+ w.take k)) (k - 1)
theorem suf0 : decide (w.take 0 <:+ u) = true := by simp
theorem mx_le : mx w u ≤ w.length := lgst_le _ _
theorem mx_suf : w.take (mx w u) <:+ u := of_decide_eq_true (lgst_p (p := fun k => decide (w.take k <:+ u)) suf0 w.length)
theorem mx_max {m : Nat} (h : m ≤ w.length) (hs : w.take m <:+ u) : m ≤ mx w u := lgst_max (p := fun k => decide (w.take k <:+ u)) h (decide_eq_true hs)
theorem mx_nil : mx w [] = 0 := by
  have h1 := mx_suf (w := w) (u := [])
  have h2 := mx_le (w := w) (u := [])
  have := h1.length_le
  rw [List.length_take, List.length_nil] at this
  omega
theorem bd_lt {k : Nat} (h : 1 ≤ k) : bd w k < k := by have := lgst_le (fun j => decide (w.take j <:+ w.take k)) (k - 1); unfold bd; omega
theorem bd_suf {k : Nat} : w.take (bd w k) <:+ w.take k := of_decide_eq_true (lgst_p (p := fun j => decide (w.take j <:+ w.take k)) suf0 (k - 1))
theorem bd_max {k m : Nat} (h : m < k) (hs : w.take m <:+ w.take k) : m ≤ bd w k := lgst_max (p := fun j => decide (w.take j <:+ w.take k)) (by omega) (decide_eq_true hs)
theorem suf_snoc {m c : Nat} (hm : m < w.length) : w.take (m + 1) <:+ u ++ [c] ↔ w.take m <:+ u ∧ w.getD m 0 = c := by
  have e : w.take (m + 1) = w.take m ++ [w.getD m 0] := by
    rw [List.take_add_one, List.getElem?_eq_getElem hm]
    simp [List.getD, hm]
  rw [e]
  constructor
  · rintro ⟨t, ht⟩
    rw [← List.append_assoc] at ht
    have h2 := List.append_inj' ht rfl
    refine ⟨⟨t, h2.1⟩, ?_⟩
    have := h2.2
    simpa using this
  · rintro ⟨⟨t, ht⟩, hc⟩
    exact ⟨t, by rw [← List.append_assoc, ht, hc]⟩
/-- one letter: steps back until the word goes on by it -/
def stp (w : List Nat) (c : Nat) : Nat → Nat → Nat
  | 0, _ => 0
  | f + 1, j => if j < w.length ∧ w.getD j 0 = c then j + 1 else if j = 0 then 0 else stp w c f (bd w j)
theorem stp_ok (n1 : 1 ≤ w.length) {c : Nat} : ∀ (f j : Nat), j < f → j ≤ w.length → w.take j <:+ u → (∀ m, m < w.length → w.take m <:+ u → w.getD m 0 = c → m ≤ j) → stp w c f j = mx w (u ++ [c])
  | 0, j, h, _, _, _ => by omega
  | f + 1, j, hf, hj, hs, hm => by
    have ub : ∀ k, k ≤ w.length → w.take (k + 1) <:+ u ++ [c] → k + 1 ≤ w.length → k ≤ j := fun k _ hk hl => by
      obtain ⟨a, b⟩ := (suf_snoc (by omega)).mp hk
      exact hm k (by omega) a b
    unfold stp
    by_cases h1 : j < w.length ∧ w.getD j 0 = c
    · rw [if_pos h1]
      have hge : j + 1 ≤ mx w (u ++ [c]) := mx_max (by omega) ((suf_snoc h1.1).mpr ⟨hs, h1.2⟩)
      have hle := mx_le (w := w) (u := u ++ [c])
      have hsf := mx_suf (w := w) (u := u ++ [c])
      obtain ⟨k, hk⟩ : ∃ k, mx w (u ++ [c]) = k + 1 := ⟨mx w (u ++ [c]) - 1, by omega⟩
      rw [hk] at hsf hle hge ⊢
      have := ub k (by omega) hsf hle
      omega
    · rw [if_neg h1]
      by_cases h0 : j = 0
      · rw [if_pos h0]
        subst h0
        have hle := mx_le (w := w) (u := u ++ [c])
        have hsf := mx_suf (w := w) (u := u ++ [c])
        cases hk : mx w (u ++ [c]) with
        | zero => rfl
        | succ k =>
          rw [hk] at hsf hle
          have hk0 := ub k (by omega) hsf hle
          have : k = 0 := by omega
          subst this
          exact absurd ⟨by omega, ((suf_snoc (by omega)).mp hsf).2⟩ h1
      · rw [if_neg h0]
        refine stp_ok n1 f (bd w j) (by have := bd_lt (w := w) (k := j) (by omega); omega) (by have := bd_lt (w := w) (k := j) (by omega); omega) (bd_suf.trans hs) fun m ml ms mc => ?_
        have hmj := hm m ml ms mc
        have hne : m ≠ j := fun z => by subst z; exact h1 ⟨ml, mc⟩
        refine bd_max (by omega) (List.suffix_of_suffix_length_le ms hs ?_)
        rw [List.length_take, List.length_take]
        omega
theorem stp_mx (n1 : 1 ≤ w.length) (c : Nat) {f : Nat} (hf : w.length < f) : stp w c f (mx w u) = mx w (u ++ [c]) :=
  stp_ok n1 f _ (by have := mx_le (w := w) (u := u); omega) mx_le mx_suf fun m ml ms _ => mx_max (by omega) ms
/-! the order from the left -/
theorem drop_take_suf {far : Nat} (hf : far ≤ u.length) : w.take (u.length - far) <:+ u ∧ u.length - far ≤ w.length ↔ u.drop far = w.take (u.length - far) ∧ u.length - far ≤ w.length := by
  constructor
  · rintro ⟨h, hl⟩
    refine ⟨?_, hl⟩
    have := List.suffix_iff_eq_drop.mp h
    rw [List.length_take, Nat.min_eq_left hl] at this
    rw [this]
    congr 1
    omega
  · rintro ⟨h, hl⟩
    exact ⟨by rw [← h]; exact List.drop_suffix _ _, hl⟩
theorem fit_drop {ps : List (Nat × Nat)} {far : Nat} (h1 : 1 ≤ far) (hl : u.length ≤ w.length) (hps : ∀ q, q ∈ ps ↔ 1 ≤ q.1 ∧ q.1 ≤ u.length ∧ q.2 = u.getD (q.1 - 1) 0) : ps.all (fitB w far) = true ↔ u.length ≤ far ∨ w.take (u.length - far) <:+ u := by
  rw [List.all_eq_true]
  constructor
  · intro hh
    by_cases hf : u.length ≤ far
    · exact .inl hf
    · right
      refine ((drop_take_suf (by omega)).mpr ⟨?_, by omega⟩).1
      refine List.ext_getElem (by rw [List.length_drop, List.length_take]; omega) fun i hi hi2 => ?_
      rw [List.length_drop] at hi
      have := hh (far + i + 1, u.getD (far + i) 0) ((hps _).mpr ⟨by show 1 ≤ far + i + 1; omega, by show far + i + 1 ≤ _; omega, by show _ = u.getD (far + i + 1 - 1) 0; rw [show far + i + 1 - 1 = far + i by omega]⟩)
      unfold fitB at this
      simp [show ¬ far + i + 1 ≤ far by omega, show far + i + 1 - far - 1 = i by omega] at this
      rw [List.getElem_drop, List.getElem_take]
      have e1 : u.getD (far + i) 0 = u[far + i] := by simp [List.getD, show far + i < u.length by omega]
      have e2 : w.getD i 0 = w[i] := by simp [List.getD, show i < w.length by omega]
      simp [List.getD, show far + i < u.length by omega, show i < w.length by omega] at this
      exact this.symm
  · intro hh q hq
    obtain ⟨q1, q2, q3⟩ := (hps q).mp hq
    unfold fitB
    by_cases hqf : q.1 ≤ far
    · simp [hqf]
    · rcases hh with z | z
      · omega
      · have := ((drop_take_suf (w := w) (u := u) (by omega)).mp ⟨z, by omega⟩).1
        have e : u.getD (q.1 - 1) 0 = w.getD (q.1 - far - 1) 0 := by
          have h2 : (u.drop far).getD (q.1 - far - 1) 0 = (w.take (u.length - far)).getD (q.1 - far - 1) 0 := by rw [this]
          rw [List.getD, List.getD, List.getElem?_drop, List.getElem?_take_of_lt (by omega)] at h2
          have e3 : far + (q.1 - far - 1) = q.1 - 1 := by omega
          rw [e3] at h2
          exact h2
        rw [q3, e]
        simp
/-- what is seen from the left: the letters u, not the beginning of the word if mx is to be less -/
theorem lsk_left {ps : List (Nat × Nat)} (n1 : 1 ≤ w.length) (hl : u.length ≤ w.length) (hu : 1 ≤ u.length) (hps : ∀ q, q ∈ ps ↔ 1 ≤ q.1 ∧ q.1 ≤ u.length ∧ q.2 = u.getD (q.1 - 1) 0) {m : Nat} (hm : m < u.length) (hs : w.take m <:+ u) (hmax : ∀ k, k < u.length → w.take k <:+ u → k ≤ m) : lsk w ps = u.length - m := by
  have ub : ∀ p ∈ ps, p.1 ≤ w.length := fun p hp => by have := ((hps p).mp hp).2.1; omega
  have lo := lsk_ok n1 ub
  have h1 : lsk w ps ≤ u.length - m := lsk_le n1 ub (by omega) (by omega) ((fit_drop (by omega) hl hps).mpr (.inr (by rw [show u.length - (u.length - m) = m by omega]; exact hs)))
  have h2 := (fit_drop lo.1 hl hps).mp lo.2.2
  rcases h2 with z | z
  · omega
  · have := hmax _ (by omega) z
    omega
/-! increasing lists with the same items are the same -/
theorem sorted_ext : ∀ {l m : List Nat}, l.Pairwise (· < ·) → m.Pairwise (· < ·) → (∀ x, x ∈ l ↔ x ∈ m) → l = m
  | [], [], _, _, _ => rfl
  | [], b :: m, _, _, h => by have := (h b).mpr (by simp); simp at this
  | a :: l, [], _, _, h => by have := (h a).mp (by simp); simp at this
  | a :: l, b :: m, hl, hm, h => by
    obtain ⟨l1, l2⟩ := List.pairwise_cons.mp hl
    obtain ⟨m1, m2⟩ := List.pairwise_cons.mp hm
    have hab : a = b := by
      have h1 := (h a).mp (by simp)
      have h2 := (h b).mpr (by simp)
      rcases List.mem_cons.mp h1 with z | z
      · exact z
      · rcases List.mem_cons.mp h2 with y | y
        · exact y.symm
        · have := m1 a z; have := l1 b y; omega
    subst hab
    congr 1
    refine sorted_ext l2 m2 fun x => ?_
    constructor
    · intro hx
      have := l1 x hx
      rcases List.mem_cons.mp ((h x).mp (by simp [hx])) with z | z
      · omega
      · exact z
    · intro hx
      have := m1 x hx
      rcases List.mem_cons.mp ((h x).mpr (by simp [hx])) with z | z
      · omega
      · exact z
theorem wk_sorted {f : Nat → Nat} {L N : Nat} (hf : ∀ b, b + L ≤ N → 1 ≤ f b) : ∀ (n b : Nat), (wk f L N n b).Pairwise (· < ·)
  | 0, _ => by unfold wk; exact .nil
  | n + 1, b => by
    unfold wk
    split
    · rename_i hb
      refine List.pairwise_cons.mpr ⟨fun x hx => ?_, wk_sorted hf n _⟩
      have := (wk_ge _ _ _ hx).1
      have := hf b hb
      omega
    · exact .nil
theorem occ_mx {i : Nat} (hi : i < txt.length) (n1 : 1 ≤ w.length) : mx w (txt.take (i + 1)) = w.length ↔ ∃ b, i + 1 = b + w.length ∧ occ w txt b := by
  constructor
  · intro h
    have hs := mx_suf (w := w) (u := txt.take (i + 1))
    rw [h, List.take_length] at hs
    have hl := hs.length_le
    rw [List.length_take] at hl
    refine ⟨i + 1 - w.length, by omega, by omega, fun q q1 q2 => ?_⟩
    have := List.suffix_iff_eq_drop.mp hs
    rw [List.length_take, Nat.min_eq_left (by omega)] at this
    have h2 : w.getD (q - 1) 0 = ((txt.take (i + 1)).drop (i + 1 - w.length)).getD (q - 1) 0 := congrArg (fun l => l.getD (q - 1) 0) this
    rw [List.getD, List.getD, List.getElem?_drop, List.getElem?_take_of_lt (by omega)] at h2
    unfold tAt wAt
    rw [List.getD, List.getD]
    have e : i + 1 - w.length + (q - 1) = i + 1 - w.length + q - 1 := by omega
    rw [e] at h2
    exact h2.symm
  · rintro ⟨b, hb, ho⟩
    refine Nat.le_antisymm mx_le (mx_max (Nat.le_refl _) ?_)
    rw [List.take_length]
    refine List.suffix_iff_eq_drop.mpr ?_
    rw [List.length_take, Nat.min_eq_left (by omega)]
    refine List.ext_getElem (by rw [List.length_drop, List.length_take]; omega) fun j hj hj2 => ?_
    have := ho.2 (j + 1) (by omega) (by omega)
    unfold tAt wAt at this
    rw [show b + (j + 1) - 1 = b + j by omega, show j + 1 - 1 = j by omega] at this
    simp [List.getD, show b + j < txt.length by omega, hj] at this
    rw [List.getElem_drop, List.getElem_take]
    have e : i + 1 - w.length + j = b + j := by omega
    simp only [e]
    exact this.symm
/-! the order from the right -/
/-- whether the word, so far further, agrees with what is seen from a place on -/
def agr (w : List Nat) (place c far : Nat) : Bool :=
  let ahead := (w.drop (place - 1 - far)).take (w.length - far - (place - 1 - far))
  decide ((c :: w.drop place).drop ((c :: w.drop place).length - ahead.length) = ahead)
theorem agr_fit {ps : List (Nat × Nat)} {place c far : Nat} (h1 : 1 ≤ place) (h2 : place ≤ w.length) (hf1 : 1 ≤ far) (hf2 : far ≤ w.length) (hps : ∀ q, q ∈ ps ↔ place ≤ q.1 ∧ q.1 ≤ w.length ∧ q.2 = if q.1 = place then c else wAt w q.1) : ps.all (fitB w far) = agr w place c far := by
  have sl : (c :: w.drop place).length = w.length - place + 1 := by simp
  have sg : ∀ p, place ≤ p → p ≤ w.length → (c :: w.drop place).getD (p - place) 0 = if p = place then c else wAt w p := fun p p1 p2 => by
    by_cases e : p = place
    · subst e; simp
    · rw [if_neg e]
      obtain ⟨k, hk⟩ : ∃ k, p - place = k + 1 := ⟨p - place - 1, by omega⟩
      rw [hk, List.getD, List.getElem?_cons_succ, List.getElem?_drop]
      unfold wAt
      rw [List.getD, show place + k = p - 1 by omega]
  have al : ((w.drop (place - 1 - far)).take (w.length - far - (place - 1 - far))).length = w.length - far - (place - 1 - far) := by rw [List.length_take, List.length_drop]; omega
  unfold agr
  dsimp only
  rw [al, sl]
  rw [Bool.eq_iff_iff, decide_eq_true_eq, List.all_eq_true]
  constructor
  · intro hh
    refine List.ext_getElem (by rw [List.length_drop, sl, al]; omega) fun i hi hi2 => ?_
    rw [al] at hi2
    -- the place
    have hp1 : place ≤ place + (w.length - place + 1 - (w.length - far - (place - 1 - far)) + i) := by omega
    have hp2 : place + (w.length - place + 1 - (w.length - far - (place - 1 - far)) + i) ≤ w.length := by omega
    obtain ⟨p, ep⟩ : ∃ p, p = place + (w.length - place + 1 - (w.length - far - (place - 1 - far)) + i) := ⟨_, rfl⟩
    have := hh (p, if p = place then c else wAt w p) ((hps _).mpr ⟨by show place ≤ p; omega, by show p ≤ _; omega, rfl⟩)
    unfold fitB at this
    simp only [Bool.or_eq_true, decide_eq_true_eq] at this
    have hpf : ¬ p ≤ far := by omega
    have h3 := this.resolve_left hpf
    rw [← sg p (by omega) (by omega)] at h3
    rw [List.getElem_drop, List.getElem_take, List.getElem_drop]
    have e1 : (c :: w.drop place).getD (p - place) 0 = (c :: w.drop place)[w.length - place + 1 - (w.length - far - (place - 1 - far)) + i]'(by rw [sl]; omega) := by
      rw [List.getD, show p - place = w.length - place + 1 - (w.length - far - (place - 1 - far)) + i by omega, List.getElem?_eq_getElem (by rw [sl]; omega)]
      rfl
    have e2 : w.getD (p - far - 1) 0 = w[place - 1 - far + i]'(by omega) := by
      rw [List.getD, show p - far - 1 = place - 1 - far + i by omega, List.getElem?_eq_getElem (by omega)]
      rfl
    rw [← e1, ← e2, h3]
  · intro hh q hq
    obtain ⟨q1, q2, q3⟩ := (hps q).mp hq
    unfold fitB
    by_cases hqf : q.1 ≤ far
    · simp [hqf]
    · rw [q3, ← sg q.1 q1 q2]
      have h3 : ((c :: w.drop place).drop (w.length - place + 1 - (w.length - far - (place - 1 - far)))).getD (q.1 - far - 1 - (place - 1 - far)) 0 = ((w.drop (place - 1 - far)).take (w.length - far - (place - 1 - far))).getD (q.1 - far - 1 - (place - 1 - far)) 0 := by rw [hh]
      rw [List.getD, List.getD, List.getElem?_drop, List.getElem?_take_of_lt (by omega), List.getElem?_drop] at h3
      rw [show w.length - place + 1 - (w.length - far - (place - 1 - far)) + (q.1 - far - 1 - (place - 1 - far)) = q.1 - place by omega, show place - 1 - far + (q.1 - far - 1 - (place - 1 - far)) = q.1 - far - 1 by omega] at h3
      rw [List.getD, List.getD, h3]
      simp
end
end K84

set_option Elab.async false
set_option linter.all false
set_option maxRecDepth 100000
set_option maxHeartbeats 1000000
namespace K84
open PySem PySem.Spec PyProof.Rows L2 HB
/-! one word: its states are its beginnings -/
section
variable {w al ord txt : List Nat}
theorem pre_tx (k : Nat) : pre (tx w) k = tx (w.take k) := by unfold pre; rw [tx_cps]; rfl
theorem setL_one (x : Str) : sortS (setL [x]) = [x] := by
  have : setL [x] = [x] := by rfl
  rw [this]
  unfold sortS
  exact List.mergeSort_of_pairwise (by simp)
theorem all_one (h : Win w al ord) : allSt [tx w] = (List.range (w.length + 1)).map fun k => tx (w.take k) := by
  rw [← law_st h.good]
  unfold lawSt
  have : ∀ i, blk [tx w] i = [tx (w.take i)] := fun i => by
    unfold blk
    rw [List.map_singleton, pre_tx]
    exact setL_one _
  rw [show blk [tx w] = fun i => [tx (w.take i)] from funext this]
  rw [List.map_eq_flatMap]
theorem mem_one (h : Win w al ord) {k : Nat} (hk : k ≤ w.length) : tx (w.take k) ∈ allSt [tx w] := by
  rw [all_one h]
  exact List.mem_map.mpr ⟨k, List.mem_range.mpr (by omega), rfl⟩
theorem take_inj {j k : Nat} (hj : j ≤ w.length) (hk : k ≤ w.length) : w.take j = w.take k ↔ j = k := ⟨fun z => by
  have := congrArg List.length z
  rw [List.length_take, List.length_take] at this
  omega, fun z => by rw [z]⟩
theorem tx_nil {k : Nat} (hk : k ≤ w.length) : tx (w.take k) = ("" : Str) ↔ k = 0 := by
  rw [show ("" : Str) = tx [] from rfl, tx_inj, List.take_eq_nil_iff]
  constructor
  · rintro (z | z)
    · exact z
    · subst z; simpa using hk
  · exact .inl
theorem filt_one (N : Nat) (p : Nat → Bool) (a : Nat) (h : ∀ j, j < N → (p j = true ↔ j = a)) : (List.range N).filter p = if a < N then [a] else [] := by
  refine sorted_ext (List.Pairwise.filter _ List.pairwise_lt_range) (by split <;> simp) fun x => ?_
  rw [List.mem_filter, List.mem_range]
  constructor
  · rintro ⟨h1, h2⟩
    have := (h x h1).mp h2
    subst this
    rw [if_pos h1]; simp
  · intro hx
    split at hx
    · simp at hx; subst hx; exact ⟨by assumption, (h _ (by assumption)).mpr rfl⟩
    · simp at hx
theorem after_one (h : Win w al ord) {k : Nat} (hk : k ≤ w.length) : after [tx w] (tx (w.take k)) = if k < w.length then [sg (w.getD k 0)] else [] := by
  unfold after
  rw [all_one h, List.filter_map]
  have : (List.range (w.length + 1)).filter ((fun (o : Str) => decide (o ≠ ("" : Str)) && decide (pre o (o.length - 1) = tx (w.take k))) ∘ fun k => tx (w.take k)) = if k + 1 < w.length + 1 then [k + 1] else [] := by
    refine filt_one _ _ _ fun j hj => ?_
    show (decide (tx (w.take j) ≠ ("" : Str)) && decide (pre (tx (w.take j)) ((tx (w.take j)).length - 1) = tx (w.take k))) = true ↔ _
    rw [pre_tx, tx_len, List.length_take, Nat.min_eq_left (by omega), List.take_take]
    rw [Bool.and_eq_true, decide_eq_true_eq, decide_eq_true_eq, tx_inj]
    rw [show min (j - 1) j = j - 1 by omega, take_inj (by omega) hk]
    constructor
    · rintro ⟨h1, h2⟩
      have : j ≠ 0 := fun z => h1 ((tx_nil (by omega)).mpr z)
      omega
    · intro z
      exact ⟨fun y => by have := (tx_nil (w := w) (k := j) (by omega)).mp y; omega, by omega⟩
  rw [this]
  by_cases hlt : k < w.length
  · rw [if_pos (by omega), if_pos hlt]
    show [lastS (tx (w.take (k + 1)))] = _
    unfold lastS
    have e : w.take (k + 1) = w.take k ++ [w.getD k 0] := by rw [List.take_add_one, List.getElem?_eq_getElem hlt]; simp [List.getD, hlt]
    rw [tx_cps, e, List.getLastD_eq_getLast?, List.getLast?_append]
    rfl
  · rw [if_neg (by omega), if_neg hlt]
    rfl
theorem ends_tx (a b : List Nat) (hab : b.length < a.length) : Txt.endswith (tx a) (tx b) = decide (b <:+ a) := by
  rw [ends_cut (by rw [tx_len, tx_len]; exact hab), tx_len, tx_len, cutS_tx]
  rw [show ((a.length : Int) - (b.length : Int)) = ((a.length - b.length : Nat) : Int) by omega, cutL_from]
  rw [Bool.eq_iff_iff, decide_eq_true_eq, decide_eq_true_eq, tx_inj, List.suffix_iff_eq_drop]
  exact eq_comm
theorem below_one (h : Win w al ord) {k : Nat} (hk : k ≤ w.length) : below [tx w] (tx (w.take k)) = ((List.range (w.length + 1)).filter fun j => decide (j < k) && decide (w.take j <:+ w.take k)).map fun j => tx (w.take j) := by
  unfold below
  rw [all_one h, List.filter_map]
  congr 1
  refine List.filter_congr fun j hj => ?_
  have hj := List.mem_range.mp hj
  show (decide ((tx (w.take j)).length < (tx (w.take k)).length) && Txt.endswith (tx (w.take k)) (tx (w.take j))) = _
  rw [tx_len, tx_len, List.length_take, List.length_take, Nat.min_eq_left (by omega), Nat.min_eq_left hk]
  by_cases hlt : j < k
  · rw [ends_tx _ _ (by rw [List.length_take, List.length_take]; omega)]
  · simp [hlt]
theorem last_max {l : List Nat} {m : Nat} (hs : l.Pairwise (· < ·)) (hm : m ∈ l) (hx : ∀ x ∈ l, x ≤ m) : l.getLast? = some m := by
  have hne : l ≠ [] := fun z => by rw [z] at hm; simp at hm
  rw [List.getLast?_eq_some_getLast hne]
  congr 1
  refine Nat.le_antisymm (hx _ (List.getLast_mem hne)) ?_
  obtain ⟨i, hi, e⟩ := List.mem_iff_getElem.mp hm
  rw [List.getLast_eq_getElem, ← e]
  by_cases hil : i = l.length - 1
  · simp only [hil]; exact Nat.le_refl _
  · exact Nat.le_of_lt (List.pairwise_iff_getElem.mp hs i (l.length - 1) hi (by omega) (by omega))
theorem last_one (h : Win w al ord) {k : Nat} (h1 : 1 ≤ k) (hk : k ≤ w.length) : (below [tx w] (tx (w.take k))).getLast? = some (tx (w.take (bd w k))) := by
  rw [below_one h hk, List.getLast?_map]
  have hb := bd_lt (w := w) h1
  rw [last_max (m := bd w k) (List.Pairwise.filter _ List.pairwise_lt_range) (List.mem_filter.mpr ⟨List.mem_range.mpr (by omega), by
    rw [Bool.and_eq_true, decide_eq_true_eq, decide_eq_true_eq]; exact ⟨hb, bd_suf⟩⟩) fun x hx => by
    obtain ⟨_, h2⟩ := List.mem_filter.mp hx
    rw [Bool.and_eq_true, decide_eq_true_eq, decide_eq_true_eq] at h2
    exact bd_max h2.1 h2.2]
  rfl
theorem long_one (h : Win w al ord) {k : Nat} (h1 : 1 ≤ k) (hk : k ≤ w.length) : longE [tx w] (tx (w.take k)) = tx (w.take (bd w k)) := by
  unfold longE
  rw [List.getLastD_eq_getLast?, last_one h h1 hk]
  rfl
theorem mem_tl1 (h : Win w al ord) {k : Nat} (h1 : 1 ≤ k) (hk : k ≤ w.length) : tx (w.take k) ∈ tl [tx w] := (mem_tl h.good).mpr ⟨mem_one h hk, fun z => by have := (tx_nil hk).mp z; omega⟩
theorem keys1 : Keys [tx w] (tl [tx w]) := ⟨tl_nodup _, fun s => Iff.rfl⟩
theorem tab1 (h : Win w al ord) : Tab [tx w] (longE [tx w]) := fun s hs => by
  have := longE_mem h.good hs
  obtain ⟨a, b⟩ := List.mem_filter.mp this
  rw [Bool.and_eq_true, decide_eq_true_eq] at b
  exact ⟨a, b.1⟩
/-- the true table of the word -/
def TT (w : List Nat) : Dt := tK (tl [tx w]) (longE [tx w])
theorem nr_TT : noRef (TT w) = true := by unfold TT tK; rw [nrD]; exact nr_strs
theorem nr_bD (ws : List Str) : noRef (bD ws) = true := by unfold bD; rw [nrD]; exact noRefs_map fun _ _ => by simp
theorem ix_TT (h : Win w al ord) {st : Sto} {k : Nat} (h1 : 1 ≤ k) (hk : k ≤ w.length) : gIx st (TT w) (.str (tx (w.take k))) = some (.str (tx (w.take (bd w k))), st) := by
  unfold TT
  rw [ix_tK (mem_tl1 h h1 hk), long_one h h1 hk]
theorem ix_be (h : Win w al ord) {st : Sto} {k : Nat} (hk : k ≤ w.length) : gIx st (bD [tx w]) (.str (tx (w.take k))) = some (WL (if k < w.length then [sg (w.getD k 0)] else []), st) := by
  rw [ix_bD (mem_one h hk), after_one h hk]
end
end K84

set_option Elab.async false
set_option linter.all false
set_option maxRecDepth 100000
set_option maxHeartbeats 1000000
namespace K84
open PySem PySem.Spec PyProof.Rows L2 HB
section
variable {w al ord txt : List Nat}
theorem let_sp {c : Nat} (h : letB (sg c) = true) : decide ((sg c).cps.toList < (" " : Str).cps.toList) = false ∧ decide (("~" : Str).cps.toList < (sg c).cps.toList) = false := by
  unfold letB at h
  rw [Bool.and_eq_true, Bool.not_eq_true', Bool.not_eq_true'] at h
  refine ⟨?_, h.2⟩
  have h1 := of_decide_eq_false h.1
  refine decide_eq_false fun z => h1 ?_
  have e : (sg c).cps.toList = [c] := rfl
  have e1 : ("!" : Str).cps.toList = [33] := by decide +kernel
  have e2 : (" " : Str).cps.toList = [32] := by decide +kernel
  rw [e, e2] at z
  rw [e, e1]
  rw [List.cons_lt_cons_iff] at z ⊢
  left
  rcases z with z | z
  · omega
  · omega
theorem run_check_text (hl : ∀ c ∈ txt, letB (sg c) = true) : fV F_check_text [.str (tx txt)] = some .non := by
  have H := for_ex (kt := HB.kTup (ksCons (kName 1) (ksCons (kName 2) ksNil))) (g := b1_check_text) (fun p : Nat × Nat => Dt.tup [.int p.2, .str (sg p.1)]) (fun s : Option Dt × Option Dt => [some (.str (tx txt)), s.1, s.2]) (fun _ => []) (fun _ p => (some (.int p.2), some (.str (sg p.1)))) (fun _ => True) txt.zipIdx (none, none) trivial ?_
  · obtain ⟨⟨q1, q2⟩, hl, -⟩ := H
    have e : ∃ r', g_check_text (startD 3 [.str (tx txt)]) [] = some (.nx r' []) := by
      refine ⟨[some (.str (tx txt)), q1, q2], ?_⟩
      simp [g_check_text, startD]
      exact hl
    obtain ⟨r', e⟩ := e
    exact fV_of (b_nx e) (deref_no rfl)
  · rintro ⟨s1, s2⟩ ⟨c, i⟩ hm _
    refine ⟨_, rfl, ?_, trivial⟩
    have hi := List.mem_zipIdx_iff_getElem?.mp hm
    dsimp only at hi
    obtain ⟨h1, h2⟩ := let_sp (hl c (List.mem_of_getElem? hi))
    refine s_ifF (t_nT (t_B (v_chain (x := .str " ") (y := .str (sg c)) (z := .str "~") (st1 := []) (st2 := []) (st3 := []) (st4 := []) rfl (v_var rfl) (by rw [v_leS, h1]; rfl) rfl (by rw [v_leS, h2]; rfl)))) rfl
abbrev eF (w : List Nat) (k c L : Nat) : Evr := [some (bD [tx w]), some (TT w), some (.str (tx (w.take k))), some (.str (sg c)), some (.int L)]
theorem sf_loop (h : Win w al ord) (c : Nat) : ∀ (f k L : Nat), k < f → k ≤ w.length → (∃ L' : Nat, sWh w1_step_from b1_step_from f (eF w k c L) [] = some (.rt (.tup [.str "", .int L']) []) ∧ stp w c f k = 0) ∨ (∃ j L' : Nat, sWh w1_step_from b1_step_from f (eF w k c L) [] = some (.nx (eF w j c L') []) ∧ j < w.length ∧ w.getD j 0 = c ∧ stp w c f k = j + 1)
  | 0, k, L, hf, _ => by omega
  | f + 1, k, L, hf, hk => by
    have n7 := h.n7
    have c0 : w1_step_from (eF w k c L) [] = some (!decide (k < w.length ∧ w.getD k 0 = c), []) := by
      have ki : gInZ true [] (.str (sg c)) (WL (if k < w.length then [sg (w.getD k 0)] else [])) = some (.bl (!decide (sg c ∈ (if k < w.length then [sg (w.getD k 0)] else []))), []) := v_inS (st := []) (x := sg c) (neg := true) rfl
      refine t_B (v_op (v_var rfl) (v_op (v_var rfl) (v_var rfl) (ix_be h hk)) (ki.trans ?_))
      congr 3
      by_cases h1 : k < w.length
      · rw [if_pos h1]
        congr 1
        simp only [List.mem_singleton, sg_inj, h1, true_and]
        exact decide_eq_decide.mpr eq_comm
      · rw [if_neg h1]
        simp [h1]
    unfold stp
    by_cases hm : k < w.length ∧ w.getD k 0 = c
    · rw [decide_eq_true hm] at c0
      rw [if_pos hm]
      exact .inr ⟨k, L, wh_stop c0, hm.1, hm.2, rfl⟩
    · rw [decide_eq_false hm] at c0
      rw [if_neg hm]
      have c1 : cB (eOp2 gEqB (eVar 2) (eC (.str ""))) (eF w k c L) [] = some (decide (k = 0), []) := by
        refine t_B (v_op (v_var rfl) rfl ?_)
        rw [zEqS]
        congr 3
        exact decide_eq_decide.mpr (tx_nil hk)
      by_cases h0 : k = 0
      · rw [if_pos h0]
        rw [decide_eq_true h0] at c1
        left
        refine ⟨L, ?_, rfl⟩
        have b1 : b1_step_from (eF w k c L) [] = some (.rt (.tup [.str "", .int L]) []) := s_seqRt (s_ifT c1 (s_ret (v_toT (v_cons rfl (v_one (v_var rfl))) (by show 2 ≤ _; omega))))
        show (w1_step_from (eF w k c L) []).bind _ = _
        rw [c0]
        show (b1_step_from (eF w k c L) []).bind _ = _
        rw [b1]
        rfl
      · rw [if_neg h0]
        rw [decide_eq_false h0] at c1
        have hb := bd_lt (w := w) (k := k) (by omega)
        have hp : aCons (eOp2 gIx (eVar 1) (eVar 2)) (aCons (eOp2 gAdd (eVar 4) (eC (.int 1))) aNil) (eF w k c L) [] = some ([.str (tx (w.take (bd w k))), .int ((L : Int) + 1)], []) := v_cons (v_op (v_var rfl) (v_var rfl) (ix_TT h (by omega) hk)) (v_one (v_op (v_var rfl) rfl zAddI))
        have b1 : b1_step_from (eF w k c L) [] = some (.nx (eF w (bd w k) c (L + 1)) []) := s_seq (s_ifF c1 rfl) (s_par2 hp)
        rcases sf_loop h c f (bd w k) (L + 1) (by omega) (by omega) with ⟨L', e1, e2⟩ | ⟨j, L', e1, e2, e3, e4⟩
        · exact .inl ⟨L', wh_step c0 b1 e1, e2⟩
        · exact .inr ⟨j, L', wh_step c0 b1 e1, e2, e3, e4⟩
theorem run_step (h : Win w al ord) (u : List Nat) (c : Nat) : ∃ L : Nat, fV F_step_from [bD [tx w], TT w, .str (tx (w.take (mx w u))), .str (sg c)] = some (.tup [.str (tx (w.take (mx w (u ++ [c])))), .int L]) := by
  have hz := line_ge
  have n7 := h.n7
  have n1 := h.n1
  have hk := mx_le (w := w) (u := u)
  obtain ⟨k, ek⟩ : ∃ k, k = mx w u := ⟨_, rfl⟩
  rw [← ek] at hk ⊢
  -- the first step back, behind the word
  obtain ⟨k0, hk0, e0, es⟩ : ∃ k0, k0 ≤ w.length ∧ sIf (cB (eOp2 gEqB (eOp2 gIx (eVar 0) (eVar 2)) (toV (small aNil)))) (sSet 2 (eOp2 gIx (eVar 1) (eVar 2))) sNx [some (bD [tx w]), some (TT w), some (.str (tx (w.take k))), some (.str (sg c)), none] [] = some (.nx [some (bD [tx w]), some (TT w), some (.str (tx (w.take k0))), some (.str (sg c)), none] []) ∧ stp w c 1000 k0 = mx w (u ++ [c]) := by
    have c0 : ∀ l : List Str, (l = [] ∨ ∃ d, l = [sg d]) → gEqB ([] : Sto) (WL l) (.lst []) = some (.bl (decide (l = [])), []) := fun l hl => by
      rcases hl with rfl | ⟨d, rfl⟩
      · exact (zEqLI0 (l := [])).trans rfl
      · have : eqB ([] : Sto) (.lst [.str (sg d)]) (.lst []) = some false := by
          unfold eqB
          rw [deref_no (d := .lst [.str (sg d)]) rfl, deref_no (d := .lst []) rfl]
          rfl
        show (eqB ([] : Sto) (.lst [.str (sg d)]) (.lst [])).map _ = _
        rw [this]
        simp
    have cc : cB (eOp2 gEqB (eOp2 gIx (eVar 0) (eVar 2)) (toV (small aNil))) [some (bD [tx w]), some (TT w), some (.str (tx (w.take k))), some (.str (sg c)), none] [] = some (decide (¬ k < w.length), []) := by
      refine t_B (v_op (v_op (v_var rfl) (v_var rfl) (ix_be h hk)) (v_toV (v_smallN v_nil (by show 0 ≤ _; omega))) ((c0 _ ?_).trans ?_))
      · split
        · exact .inr ⟨_, rfl⟩
        · exact .inl rfl
      · congr 3
        by_cases hlt : k < w.length <;> simp [hlt]
    by_cases hlt : k < w.length
    · rw [decide_eq_false (by simpa using hlt)] at cc
      exact ⟨k, hk, s_ifF cc rfl, by rw [ek]; exact stp_mx n1 c (by omega)⟩
    · rw [decide_eq_true hlt] at cc
      have hkn : k = w.length := by omega
      have hb := bd_lt (w := w) (k := k) (by omega)
      refine ⟨bd w k, by omega, s_ifT cc (s_set (v_op (v_var rfl) (v_var rfl) (ix_TT h (by omega) hk))), ?_⟩
      have := stp_mx (w := w) (u := u) n1 c (f := 1001) (by omega)
      rw [← ek] at this
      rw [← this]
      conv => rhs; unfold stp
      rw [if_neg (by omega), if_neg (by omega)]
  rcases sf_loop h c 1000 k0 1 (by omega) hk0 with ⟨L', e1, e2⟩ | ⟨j, L', e1, e2, e3, e4⟩
  · rw [e2] at es
    refine ⟨L', ?_⟩
    rw [← es]
    have e : g_step_from (startD 5 [bD [tx w], TT w, .str (tx (w.take k)), .str (sg c)]) [] = some (.rt (.tup [.str "", .int L']) []) := s_seq e0 (s_seq (s_set rfl) (s_seqRt e1))
    exact fV_of (b_rt e) (deref_no rfl)
  · rw [e4] at es
    refine ⟨L', ?_⟩
    rw [← es]
    have et : w.take j ++ [c] = w.take (j + 1) := by rw [List.take_add_one, List.getElem?_eq_getElem e2]; simp [List.getD, e2] at e3; simp [e3]
    have e : g_step_from (startD 5 [bD [tx w], TT w, .str (tx (w.take k)), .str (sg c)]) [] = some (.rt (.tup [.str (tx (w.take (j + 1))), .int L']) []) := by
      refine s_seq e0 (s_seq (s_set rfl) (s_seq e1 (s_ret (v_toT (v_cons (v_op (v_var rfl) (v_var rfl) ?_) (v_one (v_var rfl))) (by show 2 ≤ _; omega)))))
      have := add_tx (st := []) (a := w.take j) (b := [c]) (by rw [List.length_take]; simp; omega)
      rw [et] at this
      exact this
    exact fV_of (b_rt e) (deref_no rfl)
end
end K84

set_option Elab.async false
set_option linter.all false
set_option maxRecDepth 100000
set_option maxHeartbeats 1000000
namespace K84
open PySem PySem.Spec PyProof.Rows L2 HB
section
variable {w al ord txt : List Nat}
/-- the states behind the letters -/
def wlk (w : List Nat) : List Nat → List Nat → List Nat
  | _, [] => []
  | u, c :: cs => mx w (u ++ [c]) :: wlk w (u ++ [c]) cs
theorem wlk_eq : ∀ (u cs : List Nat), wlk w u cs = (List.range cs.length).map fun i => mx w (u ++ cs.take (i + 1))
  | u, [] => rfl
  | u, c :: cs => by
    unfold wlk
    rw [wlk_eq (u ++ [c]) cs, List.length_cons, List.range_succ_eq_map, List.map_cons, List.map_map]
    congr 1
    refine List.map_congr_left fun i _ => ?_
    show mx w (u ++ [c] ++ cs.take (i + 1)) = mx w (u ++ (c :: cs).take (i + 1 + 1))
    rw [List.take_succ_cons, List.append_assoc]
    rfl
def SL (w : List Nat) (ks : List Nat) : Dt := .lst (ks.map fun k => .str (tx (w.take k)))
@[simp] theorem nr_SL {ks : List Nat} : noRef (SL w ks) = true := by unfold SL; rw [nrL]; exact noRefs_map fun _ _ => rfl
abbrev eK (w txt : List Nat) (k L : Nat) (v7 v8 : Option Dt) : Evr := [some (WL [tx w]), some (TT w), some (.str (tx txt)), some (bD [tx w]), some (.str (tx (w.take k))), some (.int L), some (.ref 0), v7, v8]
theorem wi_loop (h : Win w al ord) : ∀ (cs u : List Nat) (L : Nat) (ks : List Nat) (v7 v8 : Option Dt), ks.length + cs.length ≤ 10000 → ∃ (k' L' : Nat) (v7' v8' : Option Dt), sForGo (kName 7) b1_walk_in (cs.map fun c => .str (sg c)) (eK w txt (mx w u) L v7 v8) [some (SL w ks)] = some (.nx (eK w txt k' L' v7' v8') [some (SL w (ks ++ wlk w u cs))])
  | [], u, L, ks, v7, v8, _ => ⟨mx w u, L, v7, v8, by unfold wlk; rw [List.append_nil]; rfl⟩
  | c :: cs, u, L, ks, v7, v8, hl => by
    have hz := line_ge
    rw [List.length_cons] at hl
    obtain ⟨M, e1⟩ := run_step h u c
    obtain ⟨k', L', v7', v8', e2⟩ := wi_loop h cs (u ++ [c]) (L + M) (ks ++ [mx w (u ++ [c])]) (some (.str (sg c))) (some (.int M)) (by rw [List.length_append]; simp; omega)
    refine ⟨k', L', v7', v8', ?_⟩
    have ea : ks ++ wlk w u (c :: cs) = ks ++ [mx w (u ++ [c])] ++ wlk w (u ++ [c]) cs := by rw [List.append_assoc]; rfl
    rw [ea, List.map_cons]
    have nrs : noRefs [bD [tx w], TT w, .str (tx (w.take (mx w u))), .str (sg c)] = true := by
      rw [nrCons, nr_bD, nrCons, nr_TT]
      simp
    have s1 : sAsg (HB.kTup (ksCons (kName 4) (ksCons (kName 8) ksNil))) (eN (gF 4 (liftV (fV F_step_from))) (aCons (eVar 3) (aCons (eVar 1) (aCons (eVar 4) (aCons (eVar 7) aNil))))) (eK w txt (mx w u) L (some (.str (sg c))) v8) [some (SL w ks)] = some (.nx (eK w txt (mx w (u ++ [c])) L (some (.str (sg c))) (some (.int M))) [some (SL w ks)]) :=
      s_asg (v_N (v_cons (v_var rfl) (v_cons (v_var rfl) (v_cons (v_var rfl) (v_one (v_var rfl))))) (v_gF rfl (v_V nrs e1))) rfl
    have s2 : sAug 5 gAugA (eVar 8) (eK w txt (mx w (u ++ [c])) L (some (.str (sg c))) (some (.int M))) [some (SL w ks)] = some (.nx (eK w txt (mx w (u ++ [c])) (L + M) (some (.str (sg c))) (some (.int M))) [some (SL w ks)]) :=
      s_aug (i := 5) (d := .int L) (z := .int ((L + M : Nat) : Int)) rfl (v_var rfl) rfl
    have s3 : sEx (eM isL gApp (eVar 6) (aCons (eVar 4) aNil)) (eK w txt (mx w (u ++ [c])) (L + M) (some (.str (sg c))) (some (.int M))) [some (SL w ks)] = some (.nx (eK w txt (mx w (u ++ [c])) (L + M) (some (.str (sg c))) (some (.int M))) [some (SL w (ks ++ [mx w (u ++ [c])]))]) := by
      have e := s_ex (v_app (r := eK w txt (mx w (u ++ [c])) (L + M) (some (.str (sg c))) (some (.int M))) (fo := eVar 6) (fs := aCons (eVar 4) aNil) (st := [some (SL w ks)]) (k := 0) (ds := ks.map fun k => .str (tx (w.take k))) (v_var rfl) rfl (v_one (v_var rfl)) rfl (by rw [List.length_map]; omega))
      rw [e]
      unfold SL
      rw [List.map_append]
      rfl
    exact for_cons (r1 := eK w txt (mx w u) L (some (.str (sg c))) v8) rfl (s_seq s1 (s_seq s2 s3)) e2
theorem run_walk_in (h : Win w al ord) (hl : txt.length ≤ 10000) : ∃ L : Nat, fV F_walk_in [WL [tx w], TT w, .str (tx txt)] = some (.tup [SL w (wlk w [] txt), .int L]) := by
  have hz := line_ge
  obtain ⟨k', L', v7', v8', e⟩ := wi_loop (txt := txt) h txt [] 0 [] none none (by simp; omega)
  rw [mx_nil, List.nil_append] at e
  refine ⟨L', ?_⟩
  have e2 : F_walk_in [WL [tx w], TT w, .str (tx txt)] [] = some (.tup [.ref 0, .int L'], [some (SL w (wlk w [] txt))]) := by
    refine b_rt ?_
    refine s_seq (r1 := eK w txt 0 0 none none) (st1 := [some (SL w [])]) (s_asg (v_toT (v_cons (x := bD [tx w]) (st1 := []) (by exact v_N (v_one (v_var rfl)) (v_gF rfl (v_V (by simp) (run_behind h.good)))) (v_cons (x := .str "") (st1 := []) rfl (v_cons (x := .int 0) (st1 := []) rfl (v_one (v_toR (v_smallN v_nil (by show 0 ≤ _; omega))))))) (by show 4 ≤ _; omega)) rfl) ?_
    exact s_seq (s_for (v_iE (v_var rfl) zItT) e) (s_ret (v_toT (v_cons (v_var rfl) (v_one (v_var rfl))) (by show 2 ≤ _; omega)))
  refine fV_of e2 ?_
  have e := deref_ref (st := [some (SL w (wlk w [] txt))]) (n := 4) (i := 0) (d := SL w (wlk w [] txt)) rfl nr_SL
  have n0 : noRef (.ref 0) = false := by unfold noRef; rfl
  simp [deref, derefs, e, n0]
theorem nr_WT : noRefs [WL [tx w], TT w] = true := by rw [nrCons, nrCons, nr_TT]; simp
theorem nr_WTS : noRefs [WL [tx w], TT w, .str (tx txt)] = true := by rw [nrCons, nrCons, nr_TT]; simp
theorem run_walk (h : Win w al ord) (hl : txt.length ≤ 10000) (ht : ∀ c ∈ txt, letB (sg c) = true) : fV F_walk [WL [tx w], TT w, .str (tx txt)] = some (SL w (wlk w [] txt)) := by
  obtain ⟨L, e⟩ := run_walk_in h hl
  refine fV_of (b_rt (d := SL w (wlk w [] txt)) (st1 := []) ?_) (deref_no nr_SL)
  refine s_seq (s_ex (v_N (v_cons (v_var rfl) (v_one (v_var rfl))) (v_gF rfl (v_V nr_WT (run_check_search h.good keys1 (tab1 h)))))) ?_
  refine s_seq (s_ex (v_N (v_one (v_var rfl)) (v_gF rfl (v_V rfl (run_check_text ht))))) ?_
  exact s_ret (v_op (v_N (v_cons (v_var rfl) (v_cons (v_var rfl) (v_one (v_var rfl)))) (v_gF rfl (v_V nr_WTS e))) rfl rfl)
/-- the finds -/
def fdl (w : List Nat) (ks : List Nat) : List (Nat × Nat) := ks.zipIdx.filter fun p => decide (p.1 = w.length)
def FL (w : List Nat) (ks : List Nat) : Dt := .lst ((fdl w ks).map fun p => .tup [.int ((p.2 : Int) + 1), .str (tx (w.take p.1))])
theorem run_finds_in (h : Win w al ord) {ks : List Nat} (hk : ∀ k ∈ ks, k ≤ w.length) (hl : ks.length ≤ 10000) : fV F_finds_in [WL [tx w], SL w ks] = some (FL w ks) := by
  have hz := line_ge
  have en1 : en [SL w ks] = some (ks.zipIdx.map fun p : Nat × Nat => Dt.tup [.int p.2, .str (tx (w.take p.1))]) := by
    show some (enumL _) = _
    unfold enumL
    rw [List.zipIdx_map, List.map_map]
    rfl
  have hlc : lcGo (HB.kTup (ksCons (kName 2) (ksCons (kName 3) ksNil))) c1_finds_in e1_finds_in [some (WL [tx w]), some (SL w ks), none, none] (ks.zipIdx.map fun p : Nat × Nat => Dt.tup [.int p.2, .str (tx (w.take p.1))]) [] = some ((fdl w ks).map fun p => .tup [.int ((p.2 : Int) + 1), .str (tx (w.take p.1))], []) :=
    lcGo_pure _ _ _ _ fun p hp => ⟨[some (WL [tx w]), some (SL w ks), some (.int p.2), some (.str (tx (w.take p.1)))], rfl, by
      have hkp : p.1 ≤ w.length := hk _ (List.mem_of_getElem? (List.mem_zipIdx_iff_getElem?.mp hp))
      have ki : gInZ false [] (.str (tx (w.take p.1))) (WL [tx w]) = some (.bl (decide (tx (w.take p.1) ∈ [tx w])), []) := v_inS (st := []) (x := tx (w.take p.1)) (neg := false) rfl
      refine t_B (v_op (v_var rfl) (v_var rfl) (ki.trans ?_))
      congr 3
      refine decide_eq_decide.mpr ?_
      rw [List.mem_singleton, tx_inj]
      constructor
      · intro z
        have := congrArg List.length z
        rw [List.length_take] at this
        omega
      · intro z
        rw [z, List.take_length], fun _ => v_toT (v_cons (v_op (v_var rfl) rfl zAddI) (v_one (v_var rfl))) (by show 2 ≤ _; omega)⟩
  have hfl : (fdl w ks).length ≤ 10000 := by
    unfold fdl
    refine Nat.le_trans (List.length_filter_le _ _) ?_
    rw [List.length_zipIdx]
    exact hl
  have e : g_finds_in (startD 4 [WL [tx w], SL w ks]) [] = some (.rt (.ref 0) [some (FL w ks)]) := s_ret (v_toR0 (v_lc (own := [2, 3]) (v_iR (v_one (v_var rfl)) en1) hlc (by rw [List.length_map]; omega)))
  exact fV_lst (b_rt e) rfl (noRefs_map fun _ _ => by simp)
theorem wlk_le : ∀ (u cs : List Nat), ∀ k ∈ wlk w u cs, k ≤ w.length := fun u cs k hk => by
  rw [wlk_eq] at hk
  obtain ⟨i, _, rfl⟩ := List.mem_map.mp hk
  exact mx_le
theorem wlk_len (u cs : List Nat) : (wlk w u cs).length = cs.length := by rw [wlk_eq]; simp
theorem run_finds1 (h : Win w al ord) (hl : txt.length ≤ 10000) (ht : ∀ c ∈ txt, letB (sg c) = true) : fV F_finds [WL [tx w], TT w, .str (tx txt)] = some (FL w (wlk w [] txt)) := by
  obtain ⟨L, e⟩ := run_walk_in h hl
  have hF : noRef (FL w (wlk w [] txt)) = true := by unfold FL; rw [nrL]; exact noRefs_map fun _ _ => by simp
  refine fV_of (b_rt (d := FL w (wlk w [] txt)) (st1 := []) ?_) (deref_no hF)
  refine s_seq (s_ex (v_N (v_cons (v_var rfl) (v_one (v_var rfl))) (v_gF rfl (v_V nr_WT (run_check_search h.good keys1 (tab1 h)))))) ?_
  refine s_seq (s_ex (v_N (v_one (v_var rfl)) (v_gF rfl (v_V rfl (run_check_text ht))))) ?_
  exact s_ret (v_N (v_cons (v_var rfl) (v_one (v_op (v_N (v_cons (v_var rfl) (v_cons (v_var rfl) (v_one (v_var rfl)))) (v_gF rfl (v_V nr_WTS e))) rfl rfl))) (v_gF rfl (v_V (by simp) (run_finds_in h (wlk_le _ _) (by rw [wlk_len]; exact hl)))))
theorem run_ends1 (h : Win w al ord) : fV F_ends [WL [tx w], .str (tx w)] = some (WL (below [tx w] (tx w))) := by
  have hm : tx w ∈ allSt [tx w] := by have := mem_one h (k := w.length) (Nat.le_refl _); rwa [List.take_length] at this
  refine fV_of (b_rt (d := WL (below [tx w] (tx w))) (st1 := []) ?_) (deref_no (by simp))
  refine s_seq (s_ex (v_N (v_one (v_var rfl)) (v_gF rfl (v_V (by simp) (run_check_words h.good))))) ?_
  refine s_seq (s_ex (v_N (v_cons (v_var rfl) (v_one (v_var rfl))) (v_gF rfl (v_V (by simp) (run_check_state h.good hm))))) ?_
  exact s_ret (v_N (v_cons (v_var rfl) (v_one (v_var rfl))) (v_gF rfl (v_V (by simp) (run_ends h.good hm))))
theorem run_safe_skips (h : Win w al ord) : fV F_safe_skips [.str (tx w), OD ord, .str (tx al)] = some (tabD (st0 w ord) (srw w al ord)) := by
  refine fV_of (b_rt (d := tabD (st0 w ord) (srw w al ord)) (st1 := []) ?_) (deref_no nr_tabD)
  refine s_seq (s_ex (v_N (v_cons (v_var rfl) (v_cons (v_var rfl) (v_one (v_var rfl)))) (v_gF rfl (v_V (by simp) (run_check_window h))))) ?_
  exact s_ret (v_N (v_cons (v_var rfl) (v_cons (v_var rfl) (v_one (v_var rfl)))) (v_gF rfl (v_V (by simp) (run_safe_in h))))
end
end K84

set_option Elab.async false
set_option linter.all false
set_option maxRecDepth 100000
set_option maxHeartbeats 4000000
namespace K84
open PySem PySem.Spec PyProof.Rows L2 HB
theorem at_last {l : List Dt} {d : Dt} : atI (l ++ [d]) (-1) = some d := by
  unfold atI ixN
  rw [if_neg (by decide), if_pos (by simp; omega)]
  show (l ++ [d])[(-1 + (((l ++ [d]).length : Nat) : Int)).toNat]? = _
  have : (-1 + (((l ++ [d]).length : Nat) : Int)).toNat = l.length := by simp; omega
  rw [this, List.getElem?_append_right (Nat.le_refl _)]
  simp
section
variable {w al ord txt : List Nat}
theorem win_up (h : Win w al ord) : Win w al (up w.length) := by
  have n7 := h.n7
  obtain ⟨u1, u2, u3, u4⟩ := up_ok w.length (by omega)
  exact ⟨h.n1, h.n7, h.la, h.na, h.a5, h.sub, u1, u2, u3, fun q h1 h2 => u4 q (by omega) h1 h2⟩
theorem win_dn (h : Win w al ord) : Win w al (dn w.length) := by
  have n7 := h.n7
  obtain ⟨u1, u2, u3, u4⟩ := dn_ok w.length (by omega)
  exact ⟨h.n1, h.n7, h.la, h.na, h.a5, h.sub, u1, u2, u3, fun q h1 h2 => u4 q (by omega) h1 h2⟩
theorem up_get {n i : Nat} (h : i < n) : (up n)[i]? = some (i + 1) := by unfold up; rw [List.getElem?_map, List.getElem?_range h]; show some (1 + i) = _; rw [Nat.add_comm]
theorem dn_get {n i : Nat} (h : i < n) : (dn n)[i]? = some (n - i) := by unfold dn; rw [List.getElem?_map, List.getElem?_range h]; rfl
theorem sn_up {n i : Nat} (h : i ≤ n) (q : Nat × Nat) : q ∈ sn w ((up n).take i) ↔ 1 ≤ q.1 ∧ q.1 ≤ i ∧ q.2 = wAt w q.1 := by
  unfold sn
  rw [List.mem_map]
  constructor
  · rintro ⟨p, hp, rfl⟩
    obtain ⟨j, hj, e⟩ := List.mem_take_iff_getElem.mp hp
    simp [up] at e hj
    subst e
    exact ⟨by omega, by omega, rfl⟩
  · rintro ⟨h1, h2, h3⟩
    refine ⟨q.1, List.mem_take_iff_getElem.mpr ⟨q.1 - 1, by simp [up]; omega, by simp [up]; omega⟩, ?_⟩
    rw [← h3]
theorem sn_dn {n i : Nat} (h : i < n) (q : Nat × Nat) : q ∈ sn w ((dn n).take i) ↔ n - i < q.1 ∧ q.1 ≤ n ∧ q.2 = wAt w q.1 := by
  unfold sn
  rw [List.mem_map]
  constructor
  · rintro ⟨p, hp, rfl⟩
    obtain ⟨j, hj, e⟩ := List.mem_take_iff_getElem.mp hp
    simp [dn] at e hj
    subst e
    exact ⟨by omega, by omega, rfl⟩
  · rintro ⟨h1, h2, h3⟩
    refine ⟨q.1, List.mem_take_iff_getElem.mpr ⟨n - q.1, by simp [dn]; omega, by simp [dn]; omega⟩, ?_⟩
    rw [← h3]
theorem row_at (h : Win w al ord) {i p : Nat} (hp : ord[i]? = some p) : (srw w al ord)[i]? = some (oth w (sl al) p, fun c => lsk w (sn w (ord.take i) ++ [(p, c)])) := by
  have := srows_get (w := w) (al := sl al) ord [] i p hp
  unfold srw
  simpa using this
theorem ix_tab (h : Win w al ord) {st : Sto} {i p c : Nat} (hp : ord[i]? = some p) (hc : c ∈ al) (hne : c ≠ wAt w p) {E : Evr} {fa fb fc : SE} (ha : fa E st = some (tabD (st0 w ord) (srw w al ord), st)) (hb : fb E st = some (.int (1 + (i : Nat)), st)) (hcc : fc E st = some (.str (sg c), st)) : eOp2 gIx (eOp2 gIx fa fb) fc E st = some (.int (lsk w (sn w (ord.take i) ++ [(p, c)])), st) := by
  have hr := row_at h hp
  have hm : c ∈ oth w (sl al) p := by unfold oth; rw [List.mem_filter, (sl_perm al).mem_iff]; simp [hc, hne]
  have := ix_row (st := st) (r := (oth w (sl al) p, fun c => lsk w (sn w (ord.take i) ++ [(p, c)]))) (c := c) hm
  exact v_op (v_op ha hb (ixL (d := rowD (oth w (sl al) p, fun c => lsk w (sn w (ord.take i) ++ [(p, c)]))) (i + 1) (by omega) (by simp [hr]))) hcc this
theorem left_val (h : Win w al ord) {i c : Nat} (hi : i < w.length) (hne : c ≠ wAt w (i + 1)) : lsk w (sn w ((up w.length).take i) ++ [(i + 1, c)]) + mx w (w.take i ++ [c]) = i + 1 := by
  have n1 := h.n1
  have ul : (w.take i ++ [c]).length = i + 1 := by rw [List.length_append, List.length_take]; simp; omega
  have hs := mx_suf (w := w) (u := w.take i ++ [c])
  have hl := hs.length_le
  have hm := mx_le (w := w) (u := w.take i ++ [c])
  rw [List.length_take, ul] at hl
  have hlt : mx w (w.take i ++ [c]) < i + 1 := by
    refine Nat.lt_of_le_of_ne (by omega) fun z => ?_
    rw [z] at hs
    have := ((suf_snoc (w := w) (u := w.take i) (c := c) hi).mp hs).2
    apply hne
    unfold wAt
    rw [show i + 1 - 1 = i by omega]
    exact this.symm
  have := lsk_left (w := w) (u := w.take i ++ [c]) (ps := sn w ((up w.length).take i) ++ [(i + 1, c)]) n1 (by omega) (by omega) (fun q => by
    rw [List.mem_append, sn_up (by omega), ul]
    constructor
    · rintro (⟨h1, h2, h3⟩ | z)
      · refine ⟨h1, by omega, ?_⟩
        rw [h3]
        unfold wAt
        rw [List.getD, List.getD, List.getElem?_append_left (by rw [List.length_take]; omega), List.getElem?_take_of_lt (by omega)]
      · simp at z
        rw [z]
        refine ⟨by show 1 ≤ i + 1; omega, by show i + 1 ≤ i + 1; omega, ?_⟩
        show c = (w.take i ++ [c]).getD (i + 1 - 1) 0
        rw [List.getD, List.getElem?_append_right (by rw [List.length_take]; omega), List.length_take, show i + 1 - 1 - min i w.length = 0 by omega]
        rfl
    · rintro ⟨h1, h2, h3⟩
      by_cases e : q.1 = i + 1
      · right
        rw [e, List.getD, List.getElem?_append_right (by rw [List.length_take]; omega), List.length_take, show i + 1 - 1 - min i w.length = 0 by omega] at h3
        have h3 : q.2 = c := h3
        simp
        rw [← e, ← h3]
      · left
        refine ⟨h1, by omega, ?_⟩
        rw [h3]
        unfold wAt
        rw [List.getD, List.getD, List.getElem?_append_left (by rw [List.length_take]; omega), List.getElem?_take_of_lt (by omega)]) (m := mx w (w.take i ++ [c])) (by omega) hs (fun k hk hks => mx_max (by omega) hks)
  omega
theorem left_end (h : Win w al ord) : lsk w (sn w (up w.length)) + bd w w.length = w.length := by
  have n1 := h.n1
  have hb := bd_lt (w := w) (k := w.length) n1
  have hs := bd_suf (w := w) (k := w.length)
  rw [List.take_length] at hs
  have hu : sn w (up w.length) = sn w ((up w.length).take w.length) := by rw [List.take_of_length_le (by unfold up; simp)]
  have := lsk_left (w := w) (u := w) (ps := sn w (up w.length)) n1 (Nat.le_refl _) n1 (fun q => by
    rw [hu, sn_up (Nat.le_refl _)]
    rfl) (m := bd w w.length) hb hs (fun k hk hks => bd_max hk (by rw [List.take_length]; exact hks))
  omega
theorem run_left (h0 : Win w al ord) : fV F__law_left_right [.str (tx w), .str (tx al)] = some (.bl true) := by
  have hz := line_ge
  have h := win_up h0
  have n7 := h.n7
  have n1 := h.n1
  let TB : Dt := tabD (st0 w (up w.length)) (srw w al (up w.length))
  let E (v4 v5 v6 : Option Dt) : Evr := [some (.str (tx w)), some (.str (tx al)), some (TT w), some TB, v4, v5, v6]
  have inner : ∀ (i : Nat), i < w.length → ∀ v5 v6, ∃ v5' v6', b2__law_left_right (E (some (.int (1 + (i : Nat)))) v5 v6) [] = some (.nx (E (some (.int (1 + (i : Nat)))) v5' v6') []) := fun i hi v5 v6 => by
    obtain ⟨⟨q5, q6⟩, hq, -⟩ := for_any (kt := kName 5) (g := b1__law_left_right) (fun c : Nat => Dt.str (sg c)) (fun s : Option Dt × Option Dt => E (some (.int (1 + (i : Nat)))) s.1 s.2) (fun _ => []) (fun _ => True) al (v5, v6) trivial fun s c hc _ => by
      have c0 : cB (eOp2 gNeB (eVar 5) (eOp2 gIx (eVar 0) (eOp2 gMin (eVar 4) (eC (.int 1))))) (E (some (.int (1 + (i : Nat)))) (some (.str (sg c))) s.2) [] = some (!decide (c = wAt w (i + 1)), []) :=
        t_B (v_op (v_var rfl) (v_op (v_var rfl) (v_op (v_var rfl) rfl zMin) (ix_w (p := i + 1) h (by omega) (by omega) (by omega))) (by rw [zNeS]; simp only [sg_inj]))
      by_cases hcw : c = wAt w (i + 1)
      · rw [decide_eq_true hcw] at c0
        exact ⟨_, (some (.str (sg c)), s.2), rfl, s_ifF c0 rfl, trivial⟩
      · rw [decide_eq_false hcw] at c0
        let u := w.take i ++ [c]
        have ul : u.length = i + 1 := by simp only [u]; rw [List.length_append, List.length_take]; simp; omega
        have hu : ∀ d ∈ u, letB (sg d) = true := fun d hd => by
          rcases List.mem_append.mp hd with z | z
          · exact h.la d (h.sub d (List.mem_of_mem_take z))
          · simp at z; rw [z]; exact h.la c hc
        have ew := run_walk h (txt := u) (by omega) hu
        have el : wlk w [] u = (wlk w [] u).dropLast ++ [mx w u] := by
          have hne : wlk w [] u ≠ [] := fun z => by have := wlk_len (w := w) [] u; rw [z, ul] at this; simp at this
          have : (wlk w [] u).getLast hne = mx w u := by
            rw [List.getLast_eq_getElem]
            have e : (wlk w [] u)[(wlk w [] u).length - 1]? = some (mx w u) := by
              rw [wlk_len, wlk_eq, List.getElem?_map, List.getElem?_range (by omega)]
              show some (mx w ([] ++ u.take (u.length - 1 + 1))) = _
              rw [List.nil_append, show u.length - 1 + 1 = u.length by omega, List.take_length]
            rw [List.getElem?_eq_getElem (by rw [wlk_len]; omega)] at e
            exact Option.some.inj e
          rw [← this]
          exact (List.dropLast_concat_getLast hne).symm
        have hml := mx_le (w := w) (u := u)
        have lv := left_val h0 hi hcw
        have s1 : sSet 6 (eOp2 gIx (eN (gF 3 (liftV (fV F_walk))) (aCons (toV (small (aCons (eVar 0) aNil))) (aCons (eVar 2) (aCons (eOp2 gAdd (eSl (eVar 0) oNo (oE (eOp2 gMin (eVar 4) (eC (.int 1))))) (eVar 5)) aNil)))) (eNeg (eC (.int 1)))) (E (some (.int (1 + (i : Nat)))) (some (.str (sg c))) s.2) [] = some (.nx (E (some (.int (1 + (i : Nat)))) (some (.str (sg c))) (some (.str (tx (w.take (mx w u)))))) []) := by
          refine s_set (v_op (x := SL w (wlk w [] u)) (y := .int (-1)) (st1 := []) (st2 := []) (v_N (ds := [WL [tx w], TT w, .str (tx u)]) (st1 := []) (v_cons (v_toV (v_smallN (v_one (v_var rfl)) (by show 1 ≤ _; omega))) (v_cons (v_var rfl) (v_one (v_op (x := .str (tx (w.take i))) (st1 := []) (v_sl (v_var rfl) rfl (v_oE (i := (i : Int)) (v_op (v_var rfl) rfl (by rw [zMin]; congr 3; omega))) (by rw [zSlT h.wz, cutL_to])) (v_var rfl) ?_)))) (v_gF rfl (v_V nr_WTS ew))) rfl ?_)
          · exact add_tx (st := []) (a := w.take i) (b := [c]) (by rw [List.length_take]; simp; omega)
          · unfold SL
            rw [el, List.map_append]
            exact zIx at_last
        have c2 : cB (eOp2 gNeB (eOp2 gIx (eOp2 gIx (eVar 3) (eVar 4)) (eVar 5)) (eOp2 gMin (eVar 4) (eN gLen (aCons (eVar 6) aNil)))) (E (some (.int (1 + (i : Nat)))) (some (.str (sg c))) (some (.str (tx (w.take (mx w u)))))) [] = some (false, []) := by
          refine t_B (v_op (ix_tab h (up_get hi) hc hcw (v_var rfl) (v_var rfl) (v_var rfl)) (v_op (v_var rfl) (v_N (v_one (v_var rfl)) (zLenT (by rw [List.length_take]; omega))) zMin) (neI ?_))
          rw [List.length_take, Nat.min_eq_left hml]
          show ((lsk w (sn w ((up w.length).take i) ++ [(i + 1, c)]) : Nat) : Int) = 1 + (i : Int) - ((mx w (w.take i ++ [c]) : Nat) : Int)
          omega
        exact ⟨_, (some (.str (sg c)), some (.str (tx (w.take (mx w u))))), rfl, s_ifT c0 (s_seq s1 (s_ifF c2 rfl)), trivial⟩
    exact ⟨q5, q6, s_for (v_iE (v_var rfl) zItT) hq⟩
  obtain ⟨⟨q4, q5, q6⟩, hq, -⟩ := for_any (kt := kName 4) (g := b2__law_left_right) (fun i : Nat => Dt.int (1 + (i : Nat))) (fun s : Option Dt × Option Dt × Option Dt => E s.1 s.2.1 s.2.2) (fun _ => []) (fun _ => True) (List.range w.length) (none, none, none) trivial fun s i hi _ => by
    obtain ⟨v5', v6', e⟩ := inner i (List.mem_range.mp hi) s.2.1 s.2.2
    exact ⟨_, (some (.int (1 + (i : Nat))), v5', v6'), rfl, e, trivial⟩
  have hbl : (below [tx w] (tx w)).getLast? = some (tx (w.take (bd w w.length))) := by have := last_one h (k := w.length) n1 (Nat.le_refl _); rwa [List.take_length] at this
  have hb := bd_lt (w := w) (k := w.length) n1
  have le := left_end h0
  have e : g__law_left_right (startD 7 [.str (tx w), .str (tx al)]) [] = some (.rt (.bl true) []) := by
    refine s_seq (r1 := [some (.str (tx w)), some (.str (tx al)), some (TT w), none, none, none, none]) (st1 := []) (s_set (v_N (ds := [WL [tx w]]) (st1 := []) (v_one (v_toV (v_smallN (v_one (v_var rfl)) (by show 1 ≤ _; omega)))) (v_gF rfl (v_V (by simp) (run_true_table h.good))))) ?_
    refine s_seq (r1 := E none none none) (st1 := []) (s_set (v_N (v_cons (v_var rfl) (v_cons (v_lr2 (n := w.length) rfl (v_op (v_N (v_one (v_var rfl)) (zLenT h.wz)) rfl zAddI) rfl (by omega)) (v_one (v_var rfl)))) (v_gF rfl (v_V (by simp) (run_safe_skips h))))) ?_
    refine s_seq (s_for (v_iR (v_cons rfl (v_one (v_op (v_N (v_one (v_var rfl)) (zLenT h.wz)) rfl zAddI))) (rg_one (by omega))) hq) ?_
    have hne : below [tx w] (tx w) ≠ [] := fun z => by rw [z] at hbl; simp at hbl
    have hbe : below [tx w] (tx w) = (below [tx w] (tx w)).dropLast ++ [tx (w.take (bd w w.length))] := by
      rw [List.getLast?_eq_some_getLast hne] at hbl
      rw [← Option.some.inj hbl]
      exact (List.dropLast_concat_getLast hne).symm
    have hix : gIx ([] : Sto) (WL (below [tx w] (tx w))) (.int (-1)) = some (.str (tx (w.take (bd w w.length))), []) := by
      unfold WL
      rw [hbe, List.map_append]
      exact zIx at_last
    refine s_ret (v_op (x := .int (st0 w (up w.length))) (y := .int ((w.length : Int) - ((bd w w.length : Nat) : Int))) (st1 := []) (st2 := []) (v_op (v_var rfl) rfl (ixL (d := .int (st0 w (up w.length))) 0 rfl rfl)) (v_op (v_N (v_one (v_var rfl)) (zLenT h.wz)) (v_N (v_one (v_op (y := .int (-1)) (st2 := []) (v_N (ds := [WL [tx w], .str (tx w)]) (st1 := []) (v_cons (v_toV (v_smallN (v_one (v_var rfl)) (by show 1 ≤ _; omega))) (v_one (v_var rfl))) (v_gF rfl (v_V (by simp) (run_ends1 h)))) rfl hix)) (zLenT (by rw [List.length_take]; omega))) ?_) ?_)
    · rw [zMin, List.length_take, Nat.min_eq_left (by omega)]
    · rw [zEqI]
      congr 3
      refine decide_eq_true ?_
      show ((lsk w (sn w (up w.length)) : Nat) : Int) = _
      omega
  exact fV_of (b_rt e) (deref_no rfl)
end
end K84

set_option Elab.async false
set_option linter.all false
set_option maxRecDepth 100000
set_option maxHeartbeats 4000000
namespace K84
open PySem PySem.Spec PyProof.Rows L2 HB
section
variable {w al ord txt : List Nat}
theorem back_ps {i c : Nat} (hi : i < w.length) (q : Nat × Nat) : q ∈ sn w ((dn w.length).take i) ++ [(w.length - i, c)] ↔ w.length - i ≤ q.1 ∧ q.1 ≤ w.length ∧ q.2 = if q.1 = w.length - i then c else wAt w q.1 := by
  rw [List.mem_append, sn_dn hi]
  constructor
  · rintro (⟨h1, h2, h3⟩ | z)
    · exact ⟨by omega, h2, by rw [if_neg (by omega)]; exact h3⟩
    · simp at z
      rw [z]
      exact ⟨Nat.le_refl _, by show w.length - i ≤ _; omega, by simp⟩
  · rintro ⟨h1, h2, h3⟩
    by_cases e : q.1 = w.length - i
    · right
      rw [if_pos e] at h3
      simp
      rw [← e, ← h3]
    · left
      rw [if_neg e] at h3
      exact ⟨by omega, h2, h3⟩
theorem run_back (h0 : Win w al ord) : fV F__law_back_right [.str (tx w), .str (tx al)] = some (.bl true) := by
  have hz := line_ge
  have h := win_dn h0
  have n7 := h.n7
  have n1 := h.n1
  let TB : Dt := tabD (st0 w (dn w.length)) (srw w al (dn w.length))
  let E (v3 v4 v5 v6 v7 v8 v9 : Option Dt) : Evr := [some (.str (tx w)), some (.str (tx al)), some TB, v3, v4, v5, v6, v7, v8, v9]
  -- far by far
  have fars : ∀ (p c : Nat), 1 ≤ p → p ≤ w.length → ∀ (v3 v5 : Option Dt) (is gs : List Nat) (v8 v9 : Option Dt), (∀ i ∈ is, i < w.length) → gs.length + is.length ≤ 100 → ∃ v8' v9', sForGo (kName 8) b1__law_back_right (is.map fun i : Nat => .int (1 + (i : Nat))) (E v3 (some (.int p)) v5 (some (.str (tx (c :: w.drop p)))) (some (.lst (gs.map fun i : Nat => .int (1 + (i : Nat))))) v8 v9) [] = some (.nx (E v3 (some (.int p)) v5 (some (.str (tx (c :: w.drop p)))) (some (.lst ((gs ++ is.filter fun i => agr w p c (1 + i)).map fun i : Nat => .int (1 + (i : Nat))))) v8' v9') []) := by
    intro p c p1 p2 v3 v5 is
    induction is with
    | nil => intro gs v8 v9 _ _; exact ⟨v8, v9, by rw [List.filter_nil, List.append_nil]; rfl⟩
    | cons i is ih =>
      intro gs v8 v9 hi hl
      rw [List.length_cons] at hl
      have hin := hi i (by simp)
      let A : List Nat := (w.drop (p - 1 - (1 + i))).take (w.length - (1 + i) - (p - 1 - (1 + i)))
      let S : List Nat := c :: w.drop p
      have Al : A.length = w.length - (1 + i) - (p - 1 - (1 + i)) := by simp only [A]; rw [List.length_take, List.length_drop]; omega
      have Sl : S.length = w.length - p + 1 := by simp [S]
      have s1 : sSet 9 (eSl (eVar 0) (oE (eN gMax (aCons (eC (.int 0)) (aCons (eOp2 gMin (eOp2 gMin (eVar 4) (eC (.int 1))) (eVar 8)) aNil)))) (oE (eOp2 gMin (eN gLen (aCons (eVar 0) aNil)) (eVar 8)))) (E v3 (some (.int p)) v5 (some (.str (tx S))) (some (.lst (gs.map fun i : Nat => .int (1 + (i : Nat))))) (some (.int (1 + (i : Nat)))) v9) [] = some (.nx (E v3 (some (.int p)) v5 (some (.str (tx S))) (some (.lst (gs.map fun i : Nat => .int (1 + (i : Nat))))) (some (.int (1 + (i : Nat)))) (some (.str (tx A)))) []) := by
        refine s_set (v_sl (v_var rfl) (v_oE (i := ((p - 1 - (1 + i) : Nat) : Int)) (v_N (v_cons rfl (v_one (v_op (v_op (v_var rfl) rfl zMin) (v_var rfl) zMin))) ?_)) (v_oE (i := ((w.length - (1 + i) : Nat) : Int)) (v_op (v_N (v_one (v_var rfl)) (zLenT h.wz)) (v_var rfl) (by rw [zMin]; congr 3; omega))) ?_)
        · show some (Dt.int (if ((p : Int) - 1 - (1 + (i : Int))) > 0 then ((p : Int) - 1 - (1 + (i : Int))) else 0), ([] : Sto)) = _
          congr 3
          split <;> omega
        · rw [zSlT h.wz, cutL_at _ _ _ (by omega), Nat.min_eq_left (by omega)]
      have c0 : eOp2 gEqB (eSl (eVar 6) (oE (eOp2 gMin (eN gLen (aCons (eVar 6) aNil)) (eN gLen (aCons (eVar 9) aNil)))) oNo) (eVar 9) (E v3 (some (.int p)) v5 (some (.str (tx S))) (some (.lst (gs.map fun i : Nat => .int (1 + (i : Nat))))) (some (.int (1 + (i : Nat)))) (some (.str (tx A)))) [] = some (.bl (agr w p c (1 + i)), []) := by
        refine v_op (x := .str (tx (S.drop (S.length - A.length)))) (st1 := []) (v_sl (v_var rfl) (v_oE (i := ((S.length - A.length : Nat) : Int)) (v_op (v_N (v_one (v_var rfl)) (zLenT (by omega))) (v_N (v_one (v_var rfl)) (zLenT (by omega))) (by rw [zMin]; congr 3; omega))) rfl (by rw [zSlT (by omega), cutL_from])) (v_var rfl) ?_
        rw [zEqS]
        congr 3
        unfold agr
        dsimp only
        exact decide_eq_decide.mpr tx_inj
      have s2 : sSet 7 (eOp2 gAdd (eVar 7) (eOp2 gMulZ (toV (small (aCons (eVar 8) aNil))) (eN gIntB (aCons (eOp2 gEqB (eSl (eVar 6) (oE (eOp2 gMin (eN gLen (aCons (eVar 6) aNil)) (eN gLen (aCons (eVar 9) aNil)))) oNo) (eVar 9)) aNil)))) (E v3 (some (.int p)) v5 (some (.str (tx S))) (some (.lst (gs.map fun i : Nat => .int (1 + (i : Nat))))) (some (.int (1 + (i : Nat)))) (some (.str (tx A)))) [] = some (.nx (E v3 (some (.int p)) v5 (some (.str (tx S))) (some (.lst ((gs ++ if agr w p c (1 + i) = true then [i] else []).map fun i : Nat => .int (1 + (i : Nat))))) (some (.int (1 + (i : Nat)))) (some (.str (tx A)))) []) := by
        refine s_set (v_op (y := .lst ((if agr w p c (1 + i) = true then [i] else []).map fun i : Nat => .int (1 + (i : Nat)))) (st2 := []) (v_var rfl) (v_op (y := .int (if agr w p c (1 + i) = true then 1 else 0)) (st2 := []) (v_toV (v_smallN (v_one (v_var rfl)) (by show 1 ≤ _; omega))) (v_N (v_one c0) (by cases agr w p c (1 + i) <;> rfl)) ?_) ?_)
        · cases hb : agr w p c (1 + i) with
          | true =>
            show (if -(2 ^ 63) ≤ (1 : Int) ∧ (1 : Int) < 2 ^ 63 ∧ [Dt.int (1 + (i : Nat))].length * (1 : Int).toNat ≤ sizeLine then some (Dt.lst (List.replicate (1 : Int).toNat [Dt.int (1 + (i : Nat))]).flatten, ([] : Sto)) else none) = _
            rw [if_pos ⟨by decide, by decide, by show 1 * 1 ≤ _; omega⟩]
            rfl
          | false =>
            show (if -(2 ^ 63) ≤ (0 : Int) ∧ (0 : Int) < 2 ^ 63 ∧ [Dt.int (1 + (i : Nat))].length * (0 : Int).toNat ≤ sizeLine then some (Dt.lst (List.replicate (0 : Int).toNat [Dt.int (1 + (i : Nat))]).flatten, ([] : Sto)) else none) = _
            rw [if_pos ⟨by decide, by decide, by show 1 * 0 ≤ _; omega⟩]
            rfl
        · show (if (gs.map fun i : Nat => Dt.int (1 + (i : Nat))).length + ((if agr w p c (1 + i) = true then [i] else []).map fun i : Nat => Dt.int (1 + (i : Nat))).length ≤ sizeLine then some (Dt.lst ((gs.map fun i : Nat => Dt.int (1 + (i : Nat))) ++ (if agr w p c (1 + i) = true then [i] else []).map fun i : Nat => Dt.int (1 + (i : Nat))), ([] : Sto)) else none) = _
          have : (if agr w p c (1 + i) = true then [i] else []).length ≤ 1 := by split <;> simp
          rw [if_pos (by rw [List.length_map, List.length_map]; omega), List.map_append]
      obtain ⟨v8', v9', e⟩ := ih (gs ++ if agr w p c (1 + i) = true then [i] else []) (some (.int (1 + (i : Nat)))) (some (.str (tx A))) (fun j hj => hi j (by simp [hj])) (by
        rw [List.length_append]
        have : (if agr w p c (1 + i) = true then [i] else []).length ≤ 1 := by split <;> simp
        omega)
      refine ⟨v8', v9', ?_⟩
      have ef : gs ++ (i :: is).filter (fun i => agr w p c (1 + i)) = (gs ++ if agr w p c (1 + i) = true then [i] else []) ++ is.filter fun i => agr w p c (1 + i) := by
        rw [List.append_assoc]
        congr 1
        cases hb : agr w p c (1 + i) with
        | true => rw [List.filter_cons_of_pos (by simp [hb])]; rfl
        | false => rw [List.filter_cons_of_neg (by simp [hb])]; rfl
      rw [ef, List.map_cons]
      exact for_cons (r1 := E v3 (some (.int p)) v5 (some (.str (tx S))) (some (.lst (gs.map fun i : Nat => .int (1 + (i : Nat))))) (some (.int (1 + (i : Nat)))) v9) rfl (s_seq s1 s2) e
  have inner : ∀ (i : Nat), i < w.length → ∀ v5 v6 v7 v8 v9, ∃ v5' v6' v7' v8' v9', sFor (iE itS (eVar 1)) (kName 5) b2__law_back_right (E (some (.int (1 + (i : Nat)))) (some (.int ((w.length - i : Nat) : Int))) v5 v6 v7 v8 v9) [] = some (.nx (E (some (.int (1 + (i : Nat)))) (some (.int ((w.length - i : Nat) : Int))) v5' v6' v7' v8' v9') []) := fun i hi v5 v6 v7 v8 v9 => by
    let p := w.length - i
    have p1 : 1 ≤ p := by simp only [p]; omega
    have p2 : p ≤ w.length := by simp only [p]; omega
    obtain ⟨⟨q5, q6, q7, q8, q9⟩, hq, -⟩ := for_any (kt := kName 5) (g := b2__law_back_right) (fun c : Nat => Dt.str (sg c)) (fun s : Option Dt × Option Dt × Option Dt × Option Dt × Option Dt => E (some (.int (1 + (i : Nat)))) (some (.int (p : Int))) s.1 s.2.1 s.2.2.1 s.2.2.2.1 s.2.2.2.2) (fun _ => []) (fun _ => True) al (v5, v6, v7, v8, v9) trivial fun s c hc _ => by
      have c0 : cB (eOp2 gNeB (eVar 5) (eOp2 gIx (eVar 0) (eOp2 gMin (eVar 4) (eC (.int 1))))) (E (some (.int (1 + (i : Nat)))) (some (.int (p : Int))) (some (.str (sg c))) s.2.1 s.2.2.1 s.2.2.2.1 s.2.2.2.2) [] = some (!decide (c = wAt w p), []) :=
        t_B (v_op (v_var rfl) (v_op (v_var rfl) (v_op (v_var rfl) rfl zMin) (ix_w h rfl p1 p2)) (by rw [zNeS]; simp only [sg_inj]))
      by_cases hcw : c = wAt w p
      · rw [decide_eq_true hcw] at c0
        exact ⟨_, (some (.str (sg c)), s.2.1, s.2.2.1, s.2.2.2.1, s.2.2.2.2), rfl, s_ifF c0 rfl, trivial⟩
      · rw [decide_eq_false hcw] at c0
        let S : List Nat := c :: w.drop p
        have s1 : sSet 6 (eOp2 gAdd (eVar 5) (eSl (eVar 0) (oE (eVar 4)) oNo)) (E (some (.int (1 + (i : Nat)))) (some (.int (p : Int))) (some (.str (sg c))) s.2.1 s.2.2.1 s.2.2.2.1 s.2.2.2.2) [] = some (.nx (E (some (.int (1 + (i : Nat)))) (some (.int (p : Int))) (some (.str (sg c))) (some (.str (tx S))) s.2.2.1 s.2.2.2.1 s.2.2.2.2) []) := by
          refine s_set (v_op (y := .str (tx (w.drop p))) (st2 := []) (v_var rfl) (v_sl (v_var rfl) (v_oE (v_var rfl)) rfl (by rw [zSlT h.wz, cutL_from])) ?_)
          exact add_tx (st := []) (a := [c]) (b := w.drop p) (by rw [List.length_drop]; simp; omega)
        obtain ⟨v8', v9', ef⟩ := fars p c p1 p2 (some (.int (1 + (i : Nat)))) (some (.str (sg c))) (List.range w.length) [] s.2.2.2.1 s.2.2.2.2 (fun j hj => List.mem_range.mp hj) (by simp; omega)
        rw [List.nil_append] at ef
        -- the least one
        let ps := sn w ((dn w.length).take i) ++ [(p, c)]
        have hub : ∀ q ∈ ps, q.1 ≤ w.length := fun q hq => ((back_ps hi q).mp hq).2.1
        have hfe : (List.range w.length).filter (fun i => agr w p c (1 + i)) = (List.range w.length).filter fun i => ps.all (fitB w (1 + i)) := by
          refine List.filter_congr fun j hj => ?_
          have := List.mem_range.mp hj
          exact (agr_fit p1 p2 (by omega) (by omega) fun q => back_ps hi q).symm
        obtain ⟨k, fr, hk⟩ := lsk_mem (w := w) (ps := ps) n1 hub
        have el : lsk w ps = 1 + k := by unfold lsk; rw [hk]; rfl
        rw [hfe, hk] at ef
        have c2 : cB (eOp2 gNeB (eOp2 gIx (eOp2 gIx (eVar 2) (eVar 3)) (eVar 5)) (eOp2 gIx (eVar 7) (eC (.int 0)))) (E (some (.int (1 + (i : Nat)))) (some (.int (p : Int))) (some (.str (sg c))) (some (.str (tx S))) (some (.lst ((k :: fr).map fun i : Nat => .int (1 + (i : Nat))))) v8' v9') [] = some (false, []) := by
          refine t_B (v_op (ix_tab h (dn_get hi) hc hcw (v_var rfl) (v_var rfl) (v_var rfl)) (v_op (v_var rfl) rfl (ixL (d := .int (1 + (k : Nat))) 0 rfl rfl)) (neI ?_))
          show ((lsk w ps : Nat) : Int) = 1 + (k : Int)
          rw [el]
          omega
        refine ⟨_, (some (.str (sg c)), some (.str (tx S)), some (.lst ((k :: fr).map fun i : Nat => .int (1 + (i : Nat)))), v8', v9'), rfl, s_ifT c0 (s_seq s1 (s_seq (r1 := E (some (.int (1 + (i : Nat)))) (some (.int (p : Int))) (some (.str (sg c))) (some (.str (tx S))) (some (.lst [])) s.2.2.2.1 s.2.2.2.2) (st1 := []) (s_set (v_toV (v_smallN v_nil (by show 0 ≤ _; omega)))) (s_seq (s_for (v_iR (v_cons rfl (v_one (v_op (v_N (v_one (v_var rfl)) (zLenT h.wz)) rfl zAddI))) (rg_one (by omega))) ef) (s_ifF c2 rfl)))), trivial⟩
    exact ⟨q5, q6, q7, q8, q9, s_for (v_iE (v_var rfl) zItT) hq⟩
  obtain ⟨⟨q3, q4, q5, q6, q7, q8, q9⟩, hq, -⟩ := for_any (kt := kName 3) (g := b3__law_back_right) (fun i : Nat => Dt.int (1 + (i : Nat))) (fun s : Option Dt × Option Dt × Option Dt × Option Dt × Option Dt × Option Dt × Option Dt => E s.1 s.2.1 s.2.2.1 s.2.2.2.1 s.2.2.2.2.1 s.2.2.2.2.2.1 s.2.2.2.2.2.2) (fun _ => []) (fun _ => True) (List.range w.length) (none, none, none, none, none, none, none) trivial fun s i hi _ => by
    have hi := List.mem_range.mp hi
    obtain ⟨v5', v6', v7', v8', v9', e⟩ := inner i hi s.2.2.1 s.2.2.2.1 s.2.2.2.2.1 s.2.2.2.2.2.1 s.2.2.2.2.2.2
    refine ⟨_, (some (.int (1 + (i : Nat))), some (.int ((w.length - i : Nat) : Int)), v5', v6', v7', v8', v9'), rfl, s_seq (r1 := E (some (.int (1 + (i : Nat)))) (some (.int ((w.length - i : Nat) : Int))) s.2.2.1 s.2.2.2.1 s.2.2.2.2.1 s.2.2.2.2.2.1 s.2.2.2.2.2.2) (st1 := []) (s_set (v_op (v_op (v_N (v_one (v_var rfl)) (zLenT h.wz)) rfl zAddI) (v_var rfl) (by rw [zMin]; congr 3; omega))) e, trivial⟩
  have e : g__law_back_right (startD 10 [.str (tx w), .str (tx al)]) [] = some (.rt (.bl true) []) := by
    refine s_seq (r1 := E none none none none none none none) (st1 := []) (s_set (v_N (v_cons (v_var rfl) (v_cons (v_ldn (n := w.length) (v_N (v_one (v_var rfl)) (zLenT h.wz)) rfl rfl rfl (by omega)) (v_one (v_var rfl)))) (v_gF rfl (v_V (by simp) (run_safe_skips h))))) ?_
    refine s_seq (s_for (v_iR (v_cons rfl (v_one (v_op (v_N (v_one (v_var rfl)) (zLenT h.wz)) rfl zAddI))) (rg_one (by omega))) hq) (s_ret rfl)
  exact fV_of (b_rt e) (deref_no rfl)
theorem same_list (h : Win w al ord) (tt : Tx w al txt) : (res w ord (st0 w ord) (srw w al ord) txt).1 = (fdl w (wlk w [] txt)).map fun p => p.2 + 1 := by
  have tz := tt.z
  have n1 := h.n1
  have ts := tb_safe h
  have hs : ∀ b, b + w.length ≤ txt.length → 1 ≤ skp w ord (st0 w ord) (srw w al ord) txt b := fun b hb => (skp_ok h ts tt hb).1
  have er : (res w ord (st0 w ord) (srw w al ord) txt).1 = ((wk (skp w ord (st0 w ord) (srw w al ord) txt) w.length txt.length 1000 0).filter fun b => decide (fm w ord txt b = w.length)).map (· + w.length) := by unfold res; rw [srch_fd, List.nil_append]
  refine sorted_ext ?_ ?_ fun x => ?_
  · rw [er, List.pairwise_map]
    refine (List.Pairwise.filter _ (wk_sorted hs 1000 0)).imp fun z => ?_
    omega
  · rw [List.pairwise_map]
    unfold fdl
    refine List.Pairwise.filter _ ?_
    have : ((wlk w [] txt).zipIdx.map Prod.snd).Pairwise (· < ·) := by rw [List.zipIdx_map_snd]; exact List.pairwise_lt_range'
    rw [List.pairwise_map] at this
    exact this.imp fun z => by omega
  · have hr : x ∈ (fdl w (wlk w [] txt)).map (fun p => p.2 + 1) ↔ ∃ i, i < txt.length ∧ mx w (txt.take (i + 1)) = w.length ∧ x = i + 1 := by
      rw [List.mem_map]
      unfold fdl
      constructor
      · rintro ⟨⟨k, i⟩, hp, rfl⟩
        obtain ⟨h1, h2⟩ := List.mem_filter.mp hp
        have h1 := List.mem_zipIdx_iff_getElem?.mp h1
        have hi := (List.getElem?_eq_some_iff.mp h1).1
        rw [wlk_len] at hi
        rw [wlk_eq, List.getElem?_map, List.getElem?_range hi] at h1
        have h1 : mx w ([] ++ txt.take (i + 1)) = k := Option.some.inj h1
        rw [List.nil_append] at h1
        refine ⟨i, hi, ?_, rfl⟩
        rw [h1]
        exact of_decide_eq_true h2
      · rintro ⟨i, hi, hm, rfl⟩
        refine ⟨(w.length, i), List.mem_filter.mpr ⟨List.mem_zipIdx_iff_getElem?.mpr ?_, by simp⟩, rfl⟩
        rw [wlk_eq, List.getElem?_map, List.getElem?_range hi]
        show some (mx w ([] ++ txt.take (i + 1))) = _
        rw [List.nil_append, hm]
    rw [hr]
    constructor
    · intro hx
      rw [er, List.mem_map] at hx
      obtain ⟨b, hb, rfl⟩ := hx
      obtain ⟨h1, h2⟩ := List.mem_filter.mp hb
      have hv := (wk_ge _ _ _ h1).2
      have ho := fm_occ h.cov h.ol hv (of_decide_eq_true h2)
      refine ⟨b + w.length - 1, by omega, (occ_mx (by omega) n1).mpr ⟨b, by omega, ho⟩, by omega⟩
    · rintro ⟨i, hi, hm, rfl⟩
      obtain ⟨b, hb, ho⟩ := (occ_mx hi n1).mp hm
      rw [hb]
      refine no_miss h.ol h.ob n1 (by omega) (fun a ha => ⟨hs a ha, ?_⟩) ho
      exact Nat.le_of_eq (skp_safe h.ol a)
theorem win_perm (h : Win w al ord) {l : List Nat} (hp : l.Perm (up w.length)) : Win w al l := by
  have u := win_up h
  exact ⟨h.n1, h.n7, h.la, h.na, h.a5, h.sub, by rw [hp.length_eq, u.ol], hp.nodup_iff.mpr u.on, fun p hpm => u.ob p (hp.mem_iff.mp hpm), fun q h1 h2 => hp.mem_iff.mpr (u.cov q h1 h2)⟩
theorem run_same (h0 : Win w al ord) (x : Drw) (hx : x.k ≤ 50000) : ∃ x' : Drw, fE F__law_same_right x.dt [.str (tx w), .str (tx al)] = some (.bl true, x'.dt) := by
  have hz := line_ge
  have n7 := h0.n7
  have ul : (up w.length).length = w.length := by unfold up; simp
  obtain ⟨l, x1, e1, hp, k1⟩ := shuf_int (up w.length) (by omega) x (by omega)
  have h := win_perm h0 hp
  obtain ⟨txt, x2, e2, tt, k2⟩ := run_over h (m := 30) (by omega) x1 (by omega)
  have tz := tt.z
  have e3 := run_finds1 h (txt := txt) (by omega) (fun c hc => h.la c (tt.sub c hc))
  have e4 := run_findsV h (tb_safe h) tt
  rw [same_list h tt] at e4
  have e5 := run_safe_skips h
  have e6 := run_true_table h.good
  refine ⟨x2, ?_⟩
  let D : List Nat := (fdl w (wlk w [] txt)).map fun p => p.2 + 1
  let E (v3 v4 v5 : Option Dt) : Evr := [some (.ref 0), some (.str (tx w)), some (.str (tx al)), v3, v4, v5, none, none]
  have hlc : lcGo (HB.kTup (ksCons (kName 6) (ksCons (kName 7) ksNil))) cYes e1__law_same_right (E (some (OD l)) (some (.str (tx txt))) none) ((fdl w (wlk w [] txt)).map fun p => .tup [.int ((p.2 : Int) + 1), .str (tx (w.take p.1))]) [some x2.dt] = some (D.map fun p : Nat => .int p, [some x2.dt]) := by
    simp only [D]
    rw [List.map_map]
    exact lcGo_map _ _ _ fun p hp => ⟨[some (.ref 0), some (.str (tx w)), some (.str (tx al)), some (OD l), some (.str (tx txt)), none, some (.int ((p.2 : Int) + 1)), some (.str (tx (w.take p.1)))], rfl, v_var rfl⟩
  have hDl : D.length ≤ 10000 := by
    simp only [D]
    rw [List.length_map]
    unfold fdl
    refine Nat.le_trans (List.length_filter_le _ _) ?_
    rw [List.length_zipIdx, wlk_len]
    omega
  have e : g__law_same_right (startD 8 [.ref 0, .str (tx w), .str (tx al)]) [some x.dt] = some (.rt (.bl true) [some x2.dt]) := by
    refine s_seq (r1 := E (some (OD l)) none none) (st1 := [some x1.dt]) (by exact s_set (v_N (v_cons (v_var rfl) (v_one (v_lr2 (n := w.length) rfl (v_op (v_N (v_one (v_var rfl)) (zLenT h.wz)) rfl zAddI) rfl (by omega)))) (v_gF rfl (v_Ee (i := 0) (st := [some x.dt]) (ds := [OD (up w.length)]) (c := x.dt) (by simp) rfl rfl e1)))) ?_
    refine s_seq (r1 := E (some (OD l)) (some (.str (tx txt))) none) (st1 := [some x2.dt]) (by exact s_set (v_N (v_cons (v_var rfl) (v_cons (v_var rfl) (v_cons (v_var rfl) (v_one rfl)))) (v_gF rfl (v_Ee (i := 0) (st := [some x1.dt]) (ds := [.str (tx w), .str (tx al), .int (30 : Nat)]) (c := x1.dt) (by simp) rfl rfl e2)))) ?_
    refine s_seq (r1 := E (some (OD l)) (some (.str (tx txt))) (some (IL D))) (st1 := [some x2.dt]) ?_ ?_
    · have a1 : eN (gF 1 (liftV (fV F_true_table))) (aCons (toV (small (aCons (eVar 1) aNil))) aNil) (E (some (OD l)) (some (.str (tx txt))) none) [some x2.dt] = some (TT w, [some x2.dt]) := v_N (ds := [WL [tx w]]) (st1 := [some x2.dt]) (v_one (v_toV (v_smallN (v_one (v_var rfl)) (by show 1 ≤ _; omega)))) (v_gF rfl (v_V (by simp) e6))
      have a2 : eN (gF 3 (liftV (fV F_finds))) (aCons (toV (small (aCons (eVar 1) aNil))) (aCons (eN (gF 1 (liftV (fV F_true_table))) (aCons (toV (small (aCons (eVar 1) aNil))) aNil)) (aCons (eVar 4) aNil))) (E (some (OD l)) (some (.str (tx txt))) none) [some x2.dt] = some (FL w (wlk w [] txt), [some x2.dt]) := v_N (ds := [WL [tx w], TT w, .str (tx txt)]) (st1 := [some x2.dt]) (v_cons (v_toV (v_smallN (v_one (v_var rfl)) (by show 1 ≤ _; omega))) (v_cons a1 (v_one (v_var rfl)))) (v_gF rfl (v_V nr_WTS e3))
      exact s_set (v_toV (v_lc (r := E (some (OD l)) (some (.str (tx txt))) none) (own := [6, 7]) (v_iE a2 rfl) hlc (by rw [List.length_map]; omega)))
    have a3 : eN (gF 3 (liftV (fV F_safe_skips))) (aCons (eVar 1) (aCons (eVar 3) (aCons (eVar 2) aNil))) (E (some (OD l)) (some (.str (tx txt))) (some (IL D))) [some x2.dt] = some (tabD (st0 w l) (srw w al l), [some x2.dt]) := v_N (v_cons (v_var rfl) (v_cons (v_var rfl) (v_one (v_var rfl)))) (v_gF rfl (v_V (by simp) e5))
    refine s_ret (v_op (v_N (v_cons (v_var rfl) (v_cons (v_var rfl) (v_cons (v_var rfl) (v_cons a3 (v_one (v_var rfl)))))) (v_gF rfl (v_V (by simp) e4))) (v_var rfl) ?_)
    exact (zEqLI (l := D) (m := D)).trans (by rw [decide_eq_true rfl])
  exact fE_of (b_rt0 e) rfl rfl (deref_no rfl)
end
end K84

set_option Elab.async false
set_option linter.all false
set_option maxRecDepth 100000
set_option maxHeartbeats 1000000
namespace K84
open PySem PySem.Spec PyProof.Rows L2 HB
theorem draws_lc {r0 r1 r2 r3 r4 : Option Dt} : ∀ (cs done : List Int), lcGo (kName 5) cYes fd_law [r0, r1, r2, r3, r4, none] (cs.map Dt.int) (dst done) = some ((List.range' done.length cs.length).map Dt.ref, dst (done ++ cs))
  | [], done => by rw [List.append_nil]; rfl
  | c :: cs, done => by
    have ih := draws_lc (r0 := r0) (r1 := r1) (r2 := r2) (r3 := r3) (r4 := r4) cs (done ++ [c])
    rw [List.length_append, List.append_assoc] at ih
    rw [List.map_cons, List.length_cons, List.range'_succ, List.map_cons]
    have e : fd_law [r0, r1, r2, r3, r4, some (.int c)] (dst done) = some (.ref (dst done).length, dst done ++ [some (drw0 c).dt]) := v_N (v_one (v_var rfl)) (v_gF rfl (v_R (m := fR F__law_draws) (d := (drw0 c).dt) rfl (run_draws c)))
    have e2 : dst done ++ [some (drw0 c).dt] = dst (done ++ [c]) := by simp [dst]
    rw [e2, List.length_map] at e
    exact lcGo_cons rfl rfl e ih
/-- only slot i of the store is another -/
def Oth (i : Nat) (st st' : Sto) (x' : Drw) : Prop := st'[i]? = some (some x'.dt) ∧ ∀ j, j ≠ i → st'[j]? = st[j]?
theorem Oth.trans {i : Nat} {st st1 st2 : Sto} {x1 x2 : Drw} (h1 : Oth i st st1 x1) (h2 : Oth i st1 st2 x2) : Oth i st st2 x2 := ⟨h2.1, fun j hj => (h2.2 j hj).trans (h1.2 j hj)⟩
theorem Oth.of {i : Nat} {st : Sto} {x x' : Drw} (h : st[i]? = some (some x.dt)) : Oth i st (st.set i (some x'.dt)) x' := ⟨by rw [List.getElem?_set_self (List.getElem?_eq_some_iff.mp h).1], fun j hj => by rw [List.getElem?_set_ne (fun z => hj z.symm)]⟩
theorem body_law {r0 v2 v3 v4 : Option Dt} {i : Nat} {st : Sto} {x : Drw} (hx : x.k = 0) (hi : st[i]? = some (some x.dt)) : ∃ v2' v3' v4' st', gb_law [r0, some (.ref i), v2, v3, v4, none] st = some (.nx [r0, some (.ref i), v2', v3', v4', none] st') ∧ ∀ j, j ≠ i → st'[j]? = st[j]? := by
  obtain ⟨w, al, ord, x1, e1, h, a9, k1⟩ := run_window x (by omega)
  have o1 := Oth.of (x' := x1) hi
  obtain ⟨x2, e2⟩ := run_same h x1 (by omega)
  have o2 := Oth.of (x' := x2) o1.1
  refine ⟨some (.str (tx w)), some (OD ord), some (.str (tx al)), _, ?_, (o1.trans o2).2⟩
  let E : Evr := [r0, some (.ref i), some (.str (tx w)), some (OD ord), some (.str (tx al)), none]
  refine s_seq (r1 := E) (st1 := st.set i (some x1.dt)) (s_asg (v_N (v_cons (v_var rfl) (v_one rfl)) (v_gF rfl (v_Ee (ds := [.int 7]) (c := x.dt) rfl hi rfl e1))) rfl) ?_
  have c1 : eN (gF 2 (liftV (fV F__law_left_right))) (aCons (eVar 2) (aCons (eVar 4) aNil)) E (st.set i (some x1.dt)) = some (.bl true, st.set i (some x1.dt)) := v_N (v_cons (v_var rfl) (v_one (v_var rfl))) (v_gF rfl (v_V (by simp) (run_left h)))
  have c2 : eN (gF 2 (liftV (fV F__law_back_right))) (aCons (eVar 2) (aCons (eVar 4) aNil)) E (st.set i (some x1.dt)) = some (.bl true, st.set i (some x1.dt)) := v_N (v_cons (v_var rfl) (v_one (v_var rfl))) (v_gF rfl (v_V (by simp) (run_back h)))
  have c3 : eN (gF 3 (liftE (fE F__law_same_right))) (aCons (eVar 1) (aCons (eVar 2) (aCons (eVar 4) aNil))) E (st.set i (some x1.dt)) = some (.bl true, (st.set i (some x1.dt)).set i (some x2.dt)) :=
    v_N (v_cons (v_var rfl) (v_cons (v_var rfl) (v_one (v_var rfl)))) (v_gF rfl (v_Ee (ds := [.str (tx w), .str (tx al)]) (c := x1.dt) (by simp) o1.1 rfl e2))
  exact s_seq (s_ifF (t_orF (t_nT (t_B c1)) (t_nT (t_B c2))) rfl) (s_ifF (t_nT (t_B c3)) rfl)
theorem loop_law {r0 : Option Dt} : ∀ (k i : Nat) (st : Sto) (y z2 z3 z4 : Option Dt), (∀ j, i ≤ j → j < i + k → ∃ x : Drw, x.k = 0 ∧ st[j]? = some (some x.dt)) → ∃ y' z2' z3' z4' st', sForGo (kName 1) gb_law ((List.range' i k).map Dt.ref) [r0, y, z2, z3, z4, none] st = some (.nx [r0, y', z2', z3', z4', none] st')
  | 0, i, st, y, z2, z3, z4, _ => ⟨y, z2, z3, z4, st, rfl⟩
  | k + 1, i, st, y, z2, z3, z4, h => by
    obtain ⟨x, hx, hi⟩ := h i (Nat.le_refl _) (by omega)
    obtain ⟨u2, u3, u4, st1, e1, e2⟩ := body_law (r0 := r0) (v2 := z2) (v3 := z3) (v4 := z4) hx hi
    obtain ⟨y', q2, q3, q4, st', e3⟩ := loop_law (r0 := r0) k (i + 1) st1 (some (.ref i)) u2 u3 u4 fun j h1 h2 => by
      obtain ⟨w, hw, hj⟩ := h j (by omega) (by omega)
      exact ⟨w, hw, by rw [e2 j (by omega)]; exact hj⟩
    refine ⟨y', q2, q3, q4, st', ?_⟩
    rw [List.range'_succ, List.map_cons]
    exact for_cons (r1 := [r0, some (.ref i), z2, z3, z4, none]) rfl e1 e3
theorem win_by {w al : List Nat} (n1 : 1 ≤ w.length) (n7 : w.length ≤ 7) (la : ∀ c ∈ al, letB (sg c) = true) (na : al.Nodup) (a5 : al.length ≤ 1000) (sub : ∀ c ∈ w, c ∈ al) : Win w al (up w.length) := by
  obtain ⟨u1, u2, u3, u4⟩ := up_ok w.length (by omega)
  exact ⟨n1, n7, la, na, a5, sub, u1, u2, u3, fun q h1 h2 => u4 q (by omega) h1 h2⟩
theorem winA : Win [97, 98, 97, 97, 98] [97, 98, 99] (up 5) := win_by (by decide) (by decide) (by decide +kernel) (by decide) (by decide) (by decide)
theorem winB : Win [97, 97, 97, 97, 97, 97, 97] [97, 98] (up 7) := win_by (by decide) (by decide) (by decide +kernel) (by decide) (by decide) (by decide)
theorem winC : Win [97, 97, 98, 97, 97, 98, 97] [97, 98] (up 7) := win_by (by decide) (by decide) (by decide +kernel) (by decide) (by decide) (by decide)
theorem and3 {fa fb fc : SE} {E : Evr} {st : Sto} (a1 : fa E st = some (.bl true, st)) (a2 : fb E st = some (.bl true, st)) (a3 : fc E st = some (.bl true, st)) : sRet (eAndV fa (eAndV fb fc)) E st = some (.rt (.bl true) st) := s_ret (v_and a1 (v_and a2 a3))
theorem gr_ok (r0 r1 r2 r3 r4 : Option Dt) (st : Sto) : ∃ st', gr_law [r0, r1, r2, r3, r4, none] st = some (.rt (.bl true) st') := by
  let E : Evr := [r0, r1, r2, r3, r4, none]
  have a1 : eN (gF 2 (liftV (fV F__law_left_right))) (aCons (eC (.str "abaab")) (aCons (eC (.str "abc")) aNil)) E st = some (.bl true, st) := v_N (ds := [.str (tx [97, 98, 97, 97, 98]), .str (tx [97, 98, 99])]) (st1 := st) (v_cons rfl (v_one rfl)) (v_gF rfl (v_V (by simp) (run_left winA)))
  have a2 : eN (gF 2 (liftV (fV F__law_left_right))) (aCons (eC (.str "aaaaaaa")) (aCons (eC (.str "ab")) aNil)) E st = some (.bl true, st) := v_N (ds := [.str (tx [97, 97, 97, 97, 97, 97, 97]), .str (tx [97, 98])]) (st1 := st) (v_cons rfl (v_one rfl)) (v_gF rfl (v_V (by simp) (run_left winB)))
  have a3 : eN (gF 2 (liftV (fV F__law_back_right))) (aCons (eC (.str "aabaaba")) (aCons (eC (.str "ab")) aNil)) E st = some (.bl true, st) := v_N (ds := [.str (tx [97, 97, 98, 97, 97, 98, 97]), .str (tx [97, 98])]) (st1 := st) (v_cons rfl (v_one rfl)) (v_gF rfl (v_V (by simp) (run_back winC)))
  exact ⟨st, and3 a1 a2 a3⟩
theorem law_ok (ns : List Int) : ∃ st', gLaw 1 5 6 fz_law fd_law gb_law gr_law ns (List.replicate 6 none) [] = some (.rt (.bl true) st') := by
  let cs : List Int := ns.take 6 ++ [0]
  have hl : cs.length ≤ 7 := by show (ns.take 6 ++ [0]).length ≤ 7; simp; omega
  have hz := line_ge
  rw [show List.replicate 6 (none : Option Dt) = [none, none, none, none, none, none] from rfl]
  have e1 : eOp2 gAdd (eScr 6 ns) fz_law [none, none, none, none, none, none] [] = some (.lst (cs.map Dt.int), []) := by
    have c : cutL (ns.map Dt.int) none (some 6) = (ns.take 6).map Dt.int := cutL_map Dt.int ns 6
    refine v_op (x := .lst ((ns.take 6).map Dt.int)) (st1 := []) (by unfold eScr; rw [c]) (y := .lst [.int 0]) (st2 := []) rfl ?_
    show (if ((ns.take 6).map Dt.int).length + [Dt.int 0].length ≤ sizeLine then some (Dt.lst ((ns.take 6).map Dt.int ++ [Dt.int 0]), ([] : Sto)) else none) = _
    rw [if_pos (by rw [List.length_map, List.length_take]; show _ + 1 ≤ _; omega)]
    show _ = some (Dt.lst ((ns.take 6 ++ [0]).map Dt.int), [])
    rw [List.map_append]
    rfl
  have e2 : lc (iE itL (eOp2 gAdd (eScr 6 ns) fz_law)) [5] (kName 5) cYes fd_law [none, none, none, none, none, none] [] = some ((List.range' 0 cs.length).map Dt.ref, dst cs) := by
    unfold lc
    rw [v_iE e1 (xs := cs.map Dt.int) rfl]
    have d := draws_lc (r0 := none) (r1 := none) (r2 := none) (r3 := none) (r4 := none) cs []
    show ((lcGo (kName 5) cYes fd_law [none, none, none, none, none, none] (cs.map Dt.int) (dst [])).bind fun z => if z.1.length ≤ sizeLine then some z else none) = _
    rw [d]
    refine if_pos ?_
    rw [List.length_map, List.length_range']
    omega
  obtain ⟨y', z2, z3, z4, st', e3⟩ := loop_law (r0 := none) cs.length 0 (dst cs) none none none none fun j _ h2 => by
    have hj : j < cs.length := by omega
    refine ⟨drw0 cs[j], rfl, ?_⟩
    rw [List.getElem?_map, List.getElem?_eq_getElem hj]
    rfl
  obtain ⟨st'', e4⟩ := gr_ok none y' z2 z3 z4 st'
  refine ⟨st'', ?_⟩
  unfold gLaw
  exact s_seq (s_for (v_iE (v_toV e2) rfl) e3) e4
end K84

set_option Elab.async false
set_option linter.all false
set_option maxRecDepth 100000
set_option maxHeartbeats 0
/-! printed by ph.py: the head's facts by names, the defs joined. -/
namespace K84
open PySem PySem.Spec PyProof.Rows L2 HB
def d_is_whole : He.DefD := ⟨("is_whole", none), "is_whole", "is_whole", defArgs s_is_whole, defBody s_is_whole, defScope s_is_whole, [], []⟩
def d_is_letter : He.DefD := ⟨("is_letter", none), "is_letter", "is_letter", defArgs s_is_letter, defBody s_is_letter, defScope s_is_letter, [], []⟩
def d_check_words : He.DefD := ⟨("check_words", none), "check_words", "check_words", defArgs s_check_words, defBody s_check_words, defScope s_check_words, [], []⟩
def d_check_text : He.DefD := ⟨("check_text", none), "check_text", "check_text", defArgs s_check_text, defBody s_check_text, defScope s_check_text, [], []⟩
def d_check_letters : He.DefD := ⟨("check_letters", none), "check_letters", "check_letters", defArgs s_check_letters, defBody s_check_letters, defScope s_check_letters, [], []⟩
def d_all_states : He.DefD := ⟨("all_states", none), "all_states", "all_states", defArgs s_all_states, defBody s_all_states, defScope s_all_states, [], []⟩
def d_letters_behind : He.DefD := ⟨("letters_behind", none), "letters_behind", "letters_behind", defArgs s_letters_behind, defBody s_letters_behind, defScope s_letters_behind, [], []⟩
def d_check_state : He.DefD := ⟨("check_state", none), "check_state", "check_state", defArgs s_check_state, defBody s_check_state, defScope s_check_state, [], []⟩
def d_ends_in : He.DefD := ⟨("ends_in", none), "ends_in", "ends_in", defArgs s_ends_in, defBody s_ends_in, defScope s_ends_in, [], []⟩
def d_ends : He.DefD := ⟨("ends", none), "ends", "ends", defArgs s_ends, defBody s_ends, defScope s_ends, [], []⟩
def d_check_table : He.DefD := ⟨("check_table", none), "check_table", "check_table", defArgs s_check_table, defBody s_check_table, defScope s_check_table, [], []⟩
def d_check_search : He.DefD := ⟨("check_search", none), "check_search", "check_search", defArgs s_check_search, defBody s_check_search, defScope s_check_search, [], []⟩
def d_true_in : He.DefD := ⟨("true_in", none), "true_in", "true_in", defArgs s_true_in, defBody s_true_in, defScope s_true_in, [], []⟩
def d_true_table : He.DefD := ⟨("true_table", none), "true_table", "true_table", defArgs s_true_table, defBody s_true_table, defScope s_true_table, [], []⟩
def d_step_from : He.DefD := ⟨("step_from", none), "step_from", "step_from", defArgs s_step_from, defBody s_step_from, defScope s_step_from, [], []⟩
def d_walk_in : He.DefD := ⟨("walk_in", none), "walk_in", "walk_in", defArgs s_walk_in, defBody s_walk_in, defScope s_walk_in, [], []⟩
def d_finds_in : He.DefD := ⟨("finds_in", none), "finds_in", "finds_in", defArgs s_finds_in, defBody s_finds_in, defScope s_finds_in, [], []⟩
def d_walk : He.DefD := ⟨("walk", none), "walk", "walk", defArgs s_walk, defBody s_walk, defScope s_walk, [], []⟩
def d_finds : He.DefD := ⟨("finds", none), "finds", "finds", defArgs s_finds, defBody s_finds, defScope s_finds, [], []⟩
def d_check_order : He.DefD := ⟨("check_order", none), "check_order", "check_order", defArgs s_check_order, defBody s_check_order, defScope s_check_order, [], []⟩
def d_check_window : He.DefD := ⟨("check_window", none), "check_window", "check_window", defArgs s_check_window, defBody s_check_window, defScope s_check_window, [], []⟩
def d_is_skip : He.DefD := ⟨("is_skip", none), "is_skip", "is_skip", defArgs s_is_skip, defBody s_is_skip, defScope s_is_skip, [], []⟩
def d_check_skips : He.DefD := ⟨("check_skips", none), "check_skips", "check_skips", defArgs s_check_skips, defBody s_check_skips, defScope s_check_skips, [], []⟩
def d_check_all : He.DefD := ⟨("check_all", none), "check_all", "check_all", defArgs s_check_all, defBody s_check_all, defScope s_check_all, [], []⟩
def d_fits : He.DefD := ⟨("fits", none), "fits", "fits", defArgs s_fits, defBody s_fits, defScope s_fits, [], []⟩
def d_safe_skip : He.DefD := ⟨("safe_skip", none), "safe_skip", "safe_skip", defArgs s_safe_skip, defBody s_safe_skip, defScope s_safe_skip, [], []⟩
def d_safe_in : He.DefD := ⟨("safe_in", none), "safe_in", "safe_in", defArgs s_safe_in, defBody s_safe_in, defScope s_safe_in, [], []⟩
def d_window_at : He.DefD := ⟨("window_at", none), "window_at", "window_at", defArgs s_window_at, defBody s_window_at, defScope s_window_at, [], []⟩
def d_search_in : He.DefD := ⟨("search_in", none), "search_in", "search_in", defArgs s_search_in, defBody s_search_in, defScope s_search_in, [], []⟩
def d_check_over : He.DefD := ⟨("check_over", none), "check_over", "check_over", defArgs s_check_over, defBody s_check_over, defScope s_check_over, [], []⟩
def d_safe_skips : He.DefD := ⟨("safe_skips", none), "safe_skips", "safe_skips", defArgs s_safe_skips, defBody s_safe_skips, defScope s_safe_skips, [], []⟩
def d_finds_by_skips : He.DefD := ⟨("finds_by_skips", none), "finds_by_skips", "finds_by_skips", defArgs s_finds_by_skips, defBody s_finds_by_skips, defScope s_finds_by_skips, [], []⟩
def d__law_draws : He.DefD := ⟨("_law_draws", none), "_law_draws", "_law_draws", defArgs s__law_draws, defBody s__law_draws, defScope s__law_draws, [], []⟩
def d__law_next : He.DefD := ⟨("_law_next", none), "_law_next", "_law_next", defArgs s__law_next, defBody s__law_next, defScope s__law_next, [], []⟩
def d__law_shuffled : He.DefD := ⟨("_law_shuffled", none), "_law_shuffled", "_law_shuffled", defArgs s__law_shuffled, defBody s__law_shuffled, defScope s__law_shuffled, [], []⟩
def d__law_window : He.DefD := ⟨("_law_window", none), "_law_window", "_law_window", defArgs s__law_window, defBody s__law_window, defScope s__law_window, [], []⟩
def d__law_over : He.DefD := ⟨("_law_over", none), "_law_over", "_law_over", defArgs s__law_over, defBody s__law_over, defScope s__law_over, [], []⟩
def d__law_left_right : He.DefD := ⟨("_law_left_right", none), "_law_left_right", "_law_left_right", defArgs s__law_left_right, defBody s__law_left_right, defScope s__law_left_right, [], []⟩
def d__law_back_right : He.DefD := ⟨("_law_back_right", none), "_law_back_right", "_law_back_right", defArgs s__law_back_right, defBody s__law_back_right, defScope s__law_back_right, [], []⟩
def d__law_same_right : He.DefD := ⟨("_law_same_right", none), "_law_same_right", "_law_same_right", defArgs s__law_same_right, defBody s__law_same_right, defScope s__law_same_right, [], []⟩
def d_law : He.DefD := ⟨("law", none), "law", "law", defArgs s_law, defBody s_law, defScope s_law, [], []⟩
def fns : List He.DefD := [d_is_whole, d_is_letter, d_check_words, d_check_text, d_check_letters, d_all_states, d_letters_behind, d_check_state, d_ends_in, d_ends, d_check_table, d_check_search, d_true_in, d_true_table, d_step_from, d_walk_in, d_finds_in, d_walk, d_finds, d_check_order, d_check_window, d_is_skip, d_check_skips, d_check_all, d_fits, d_safe_skip, d_safe_in, d_window_at, d_search_in, d_check_over, d_safe_skips, d_finds_by_skips, d__law_draws, d__law_next, d__law_shuffled, d__law_window, d__law_over, d__law_left_right, d__law_back_right, d__law_same_right, d_law]
def fas : List He.Fa := [.glo "is_whole", .glo "is_letter", .glo "check_words", .glo "check_text", .glo "check_letters", .glo "all_states", .glo "letters_behind", .glo "check_state", .glo "ends_in", .glo "ends", .glo "check_table", .glo "check_search", .glo "true_in", .glo "true_table", .glo "step_from", .glo "walk_in", .glo "finds_in", .glo "walk", .glo "finds", .glo "check_order", .glo "check_window", .glo "is_skip", .glo "check_skips", .glo "check_all", .glo "fits", .glo "safe_skip", .glo "safe_in", .glo "window_at", .glo "search_in", .glo "check_over", .glo "safe_skips", .glo "finds_by_skips", .glo "_law_draws", .glo "_law_next", .glo "_law_shuffled", .glo "_law_window", .glo "_law_over", .glo "_law_left_right", .glo "_law_back_right", .glo "_law_same_right", .glo "law", .free "all", .free "bool", .free "dict", .free "enumerate", .free "int", .free "isinstance", .free "len", .free "list", .free "max", .free "range", .free "sorted", .free "str", .int "MOST_LETTERS" 7, .int "MOST_WORDS" 5]
abbrev hk : PySem.W.Hook := hookT 2 fas fns ["all_states"]
def ob (s : PySem.W.SharedT) : He.AlD × Bool := obT 2 fas fns ["all_states"] (HandSHeadRun.getT s)
theorem ob_eq (s : PySem.W.SharedT) : ob s = hk.obs s.abs := obT_eq (HandSHeadRun.getT_eq s)
abbrev R : PySem.W.OpenRow := PySem.W.OpenLaw.row PySem.Challenge.rw_halfback_k84_whole_from_the_left
def loose : List Str := (["InvalidWords", "InvalidTable", "InvalidText", "InvalidLetters", "InvalidOrder", "InvalidSkips", "UnknownState", "MOST_WORDS", "MOST_LETTERS", "is_whole", "is_letter", "check_words", "check_text", "check_letters", "all_states", "letters_behind", "check_state", "ends_in", "ends", "check_table"] : List Str) ++ (["check_search", "true_in", "true_table", "step_from", "walk_in", "finds_in", "walk", "finds", "check_order", "check_window", "is_skip", "check_skips", "check_all", "fits", "safe_skip", "safe_in", "window_at", "search_in", "check_over", "safe_skips"] : List Str) ++ (["finds_by_skips", "_law_draws", "_law_next", "_law_shuffled", "_law_window", "_law_least", "_law_safe", "_law_rows", "_law_search", "_law_over", "_law_left_right", "_law_back_right", "_law_same_right"] : List Str)
theorem run (w : World) : HandSHeadRun.RunEq R (PySem.W.view R.prog [59]) hk ob 4000 loose w := by
  intro os
  kernel_rfl
theorem facts {w : World} {K : PySem.W.Frag} {h : Heap} {mg : Str → Option Value} {f : Addr} (X : K.In h) (G : h.Ns mainGlobals mg) (hfa : mg ("law" : Str) = some (.ref f)) (c : He.SaysD fas fns K) (tb : ∀ x ∈ (["all_states"] : List Str), ∃ c R, TabD K h x c R) :
    LawAt PySem.Challenge.rw_halfback_k84_whole_from_the_left w K 8 63 "_law_script" mg f h := by
  obtain ⟨fd_is_whole, D_is_whole⟩ := c.def_ 0 (d := d_is_whole) rfl
  obtain ⟨fd_is_letter, D_is_letter⟩ := c.def_ 1 (d := d_is_letter) rfl
  obtain ⟨fd_check_words, D_check_words⟩ := c.def_ 2 (d := d_check_words) rfl
  obtain ⟨fd_check_text, D_check_text⟩ := c.def_ 3 (d := d_check_text) rfl
  obtain ⟨fd_check_letters, D_check_letters⟩ := c.def_ 4 (d := d_check_letters) rfl
  obtain ⟨fd_all_states, D_all_states⟩ := c.def_ 5 (d := d_all_states) rfl
  obtain ⟨fd_letters_behind, D_letters_behind⟩ := c.def_ 6 (d := d_letters_behind) rfl
  obtain ⟨fd_check_state, D_check_state⟩ := c.def_ 7 (d := d_check_state) rfl
  obtain ⟨fd_ends_in, D_ends_in⟩ := c.def_ 8 (d := d_ends_in) rfl
  obtain ⟨fd_ends, D_ends⟩ := c.def_ 9 (d := d_ends) rfl
  obtain ⟨fd_check_table, D_check_table⟩ := c.def_ 10 (d := d_check_table) rfl
  obtain ⟨fd_check_search, D_check_search⟩ := c.def_ 11 (d := d_check_search) rfl
  obtain ⟨fd_true_in, D_true_in⟩ := c.def_ 12 (d := d_true_in) rfl
  obtain ⟨fd_true_table, D_true_table⟩ := c.def_ 13 (d := d_true_table) rfl
  obtain ⟨fd_step_from, D_step_from⟩ := c.def_ 14 (d := d_step_from) rfl
  obtain ⟨fd_walk_in, D_walk_in⟩ := c.def_ 15 (d := d_walk_in) rfl
  obtain ⟨fd_finds_in, D_finds_in⟩ := c.def_ 16 (d := d_finds_in) rfl
  obtain ⟨fd_walk, D_walk⟩ := c.def_ 17 (d := d_walk) rfl
  obtain ⟨fd_finds, D_finds⟩ := c.def_ 18 (d := d_finds) rfl
  obtain ⟨fd_check_order, D_check_order⟩ := c.def_ 19 (d := d_check_order) rfl
  obtain ⟨fd_check_window, D_check_window⟩ := c.def_ 20 (d := d_check_window) rfl
  obtain ⟨fd_is_skip, D_is_skip⟩ := c.def_ 21 (d := d_is_skip) rfl
  obtain ⟨fd_check_skips, D_check_skips⟩ := c.def_ 22 (d := d_check_skips) rfl
  obtain ⟨fd_check_all, D_check_all⟩ := c.def_ 23 (d := d_check_all) rfl
  obtain ⟨fd_fits, D_fits⟩ := c.def_ 24 (d := d_fits) rfl
  obtain ⟨fd_safe_skip, D_safe_skip⟩ := c.def_ 25 (d := d_safe_skip) rfl
  obtain ⟨fd_safe_in, D_safe_in⟩ := c.def_ 26 (d := d_safe_in) rfl
  obtain ⟨fd_window_at, D_window_at⟩ := c.def_ 27 (d := d_window_at) rfl
  obtain ⟨fd_search_in, D_search_in⟩ := c.def_ 28 (d := d_search_in) rfl
  obtain ⟨fd_check_over, D_check_over⟩ := c.def_ 29 (d := d_check_over) rfl
  obtain ⟨fd_safe_skips, D_safe_skips⟩ := c.def_ 30 (d := d_safe_skips) rfl
  obtain ⟨fd_finds_by_skips, D_finds_by_skips⟩ := c.def_ 31 (d := d_finds_by_skips) rfl
  obtain ⟨fd__law_draws, D__law_draws⟩ := c.def_ 32 (d := d__law_draws) rfl
  obtain ⟨fd__law_next, D__law_next⟩ := c.def_ 33 (d := d__law_next) rfl
  obtain ⟨fd__law_shuffled, D__law_shuffled⟩ := c.def_ 34 (d := d__law_shuffled) rfl
  obtain ⟨fd__law_window, D__law_window⟩ := c.def_ 35 (d := d__law_window) rfl
  obtain ⟨fd__law_over, D__law_over⟩ := c.def_ 36 (d := d__law_over) rfl
  obtain ⟨fd__law_left_right, D__law_left_right⟩ := c.def_ 37 (d := d__law_left_right) rfl
  obtain ⟨fd__law_back_right, D__law_back_right⟩ := c.def_ 38 (d := d__law_back_right) rfl
  obtain ⟨fd__law_same_right, D__law_same_right⟩ := c.def_ 39 (d := d__law_same_right) rfl
  obtain ⟨fd_law, D_law⟩ := c.def_ 40 (d := d_law) rfl
  have m_is_whole_ : mg "is_whole" = some (.ref (He.ga K "is_whole")) := He.glo_ok X G (c.fact 0 (f := .glo "is_whole") rfl)
  have m_is_letter_ : mg "is_letter" = some (.ref (He.ga K "is_letter")) := He.glo_ok X G (c.fact 1 (f := .glo "is_letter") rfl)
  have m_check_words_ : mg "check_words" = some (.ref (He.ga K "check_words")) := He.glo_ok X G (c.fact 2 (f := .glo "check_words") rfl)
  have m_check_text_ : mg "check_text" = some (.ref (He.ga K "check_text")) := He.glo_ok X G (c.fact 3 (f := .glo "check_text") rfl)
  have m_check_letters_ : mg "check_letters" = some (.ref (He.ga K "check_letters")) := He.glo_ok X G (c.fact 4 (f := .glo "check_letters") rfl)
  have m_all_states_ : mg "all_states" = some (.ref (He.ga K "all_states")) := He.glo_ok X G (c.fact 5 (f := .glo "all_states") rfl)
  have m_letters_behind_ : mg "letters_behind" = some (.ref (He.ga K "letters_behind")) := He.glo_ok X G (c.fact 6 (f := .glo "letters_behind") rfl)
  have m_check_state_ : mg "check_state" = some (.ref (He.ga K "check_state")) := He.glo_ok X G (c.fact 7 (f := .glo "check_state") rfl)
  have m_ends_in_ : mg "ends_in" = some (.ref (He.ga K "ends_in")) := He.glo_ok X G (c.fact 8 (f := .glo "ends_in") rfl)
  have m_ends_ : mg "ends" = some (.ref (He.ga K "ends")) := He.glo_ok X G (c.fact 9 (f := .glo "ends") rfl)
  have m_check_table_ : mg "check_table" = some (.ref (He.ga K "check_table")) := He.glo_ok X G (c.fact 10 (f := .glo "check_table") rfl)
  have m_check_search_ : mg "check_search" = some (.ref (He.ga K "check_search")) := He.glo_ok X G (c.fact 11 (f := .glo "check_search") rfl)
  have m_true_in_ : mg "true_in" = some (.ref (He.ga K "true_in")) := He.glo_ok X G (c.fact 12 (f := .glo "true_in") rfl)
  have m_true_table_ : mg "true_table" = some (.ref (He.ga K "true_table")) := He.glo_ok X G (c.fact 13 (f := .glo "true_table") rfl)
  have m_step_from_ : mg "step_from" = some (.ref (He.ga K "step_from")) := He.glo_ok X G (c.fact 14 (f := .glo "step_from") rfl)
  have m_walk_in_ : mg "walk_in" = some (.ref (He.ga K "walk_in")) := He.glo_ok X G (c.fact 15 (f := .glo "walk_in") rfl)
  have m_finds_in_ : mg "finds_in" = some (.ref (He.ga K "finds_in")) := He.glo_ok X G (c.fact 16 (f := .glo "finds_in") rfl)
  have m_walk_ : mg "walk" = some (.ref (He.ga K "walk")) := He.glo_ok X G (c.fact 17 (f := .glo "walk") rfl)
  have m_finds_ : mg "finds" = some (.ref (He.ga K "finds")) := He.glo_ok X G (c.fact 18 (f := .glo "finds") rfl)
  have m_check_order_ : mg "check_order" = some (.ref (He.ga K "check_order")) := He.glo_ok X G (c.fact 19 (f := .glo "check_order") rfl)
  have m_check_window_ : mg "check_window" = some (.ref (He.ga K "check_window")) := He.glo_ok X G (c.fact 20 (f := .glo "check_window") rfl)
  have m_is_skip_ : mg "is_skip" = some (.ref (He.ga K "is_skip")) := He.glo_ok X G (c.fact 21 (f := .glo "is_skip") rfl)
  have m_check_skips_ : mg "check_skips" = some (.ref (He.ga K "check_skips")) := He.glo_ok X G (c.fact 22 (f := .glo "check_skips") rfl)
  have m_check_all_ : mg "check_all" = some (.ref (He.ga K "check_all")) := He.glo_ok X G (c.fact 23 (f := .glo "check_all") rfl)
  have m_fits_ : mg "fits" = some (.ref (He.ga K "fits")) := He.glo_ok X G (c.fact 24 (f := .glo "fits") rfl)
  have m_safe_skip_ : mg "safe_skip" = some (.ref (He.ga K "safe_skip")) := He.glo_ok X G (c.fact 25 (f := .glo "safe_skip") rfl)
  have m_safe_in_ : mg "safe_in" = some (.ref (He.ga K "safe_in")) := He.glo_ok X G (c.fact 26 (f := .glo "safe_in") rfl)
  have m_window_at_ : mg "window_at" = some (.ref (He.ga K "window_at")) := He.glo_ok X G (c.fact 27 (f := .glo "window_at") rfl)
  have m_search_in_ : mg "search_in" = some (.ref (He.ga K "search_in")) := He.glo_ok X G (c.fact 28 (f := .glo "search_in") rfl)
  have m_check_over_ : mg "check_over" = some (.ref (He.ga K "check_over")) := He.glo_ok X G (c.fact 29 (f := .glo "check_over") rfl)
  have m_safe_skips_ : mg "safe_skips" = some (.ref (He.ga K "safe_skips")) := He.glo_ok X G (c.fact 30 (f := .glo "safe_skips") rfl)
  have m_finds_by_skips_ : mg "finds_by_skips" = some (.ref (He.ga K "finds_by_skips")) := He.glo_ok X G (c.fact 31 (f := .glo "finds_by_skips") rfl)
  have m__law_draws_ : mg "_law_draws" = some (.ref (He.ga K "_law_draws")) := He.glo_ok X G (c.fact 32 (f := .glo "_law_draws") rfl)
  have m__law_next_ : mg "_law_next" = some (.ref (He.ga K "_law_next")) := He.glo_ok X G (c.fact 33 (f := .glo "_law_next") rfl)
  have m__law_shuffled_ : mg "_law_shuffled" = some (.ref (He.ga K "_law_shuffled")) := He.glo_ok X G (c.fact 34 (f := .glo "_law_shuffled") rfl)
  have m__law_window_ : mg "_law_window" = some (.ref (He.ga K "_law_window")) := He.glo_ok X G (c.fact 35 (f := .glo "_law_window") rfl)
  have m__law_over_ : mg "_law_over" = some (.ref (He.ga K "_law_over")) := He.glo_ok X G (c.fact 36 (f := .glo "_law_over") rfl)
  have m__law_left_right_ : mg "_law_left_right" = some (.ref (He.ga K "_law_left_right")) := He.glo_ok X G (c.fact 37 (f := .glo "_law_left_right") rfl)
  have m__law_back_right_ : mg "_law_back_right" = some (.ref (He.ga K "_law_back_right")) := He.glo_ok X G (c.fact 38 (f := .glo "_law_back_right") rfl)
  have m__law_same_right_ : mg "_law_same_right" = some (.ref (He.ga K "_law_same_right")) := He.glo_ok X G (c.fact 39 (f := .glo "_law_same_right") rfl)
  have m_law_ : mg "law" = some (.ref (He.ga K "law")) := He.glo_ok X G (c.fact 40 (f := .glo "law") rfl)
  have n_all : mg "all" = none := He.free_ok X G (c.fact 41 (f := .free "all") rfl)
  have n_bool : mg "bool" = none := He.free_ok X G (c.fact 42 (f := .free "bool") rfl)
  have n_dict : mg "dict" = none := He.free_ok X G (c.fact 43 (f := .free "dict") rfl)
  have n_enumerate : mg "enumerate" = none := He.free_ok X G (c.fact 44 (f := .free "enumerate") rfl)
  have n_int : mg "int" = none := He.free_ok X G (c.fact 45 (f := .free "int") rfl)
  have n_isinstance : mg "isinstance" = none := He.free_ok X G (c.fact 46 (f := .free "isinstance") rfl)
  have n_len : mg "len" = none := He.free_ok X G (c.fact 47 (f := .free "len") rfl)
  have n_list : mg "list" = none := He.free_ok X G (c.fact 48 (f := .free "list") rfl)
  have n_max : mg "max" = none := He.free_ok X G (c.fact 49 (f := .free "max") rfl)
  have n_range : mg "range" = none := He.free_ok X G (c.fact 50 (f := .free "range") rfl)
  have n_sorted : mg "sorted" = none := He.free_ok X G (c.fact 51 (f := .free "sorted") rfl)
  have n_str : mg "str" = none := He.free_ok X G (c.fact 52 (f := .free "str") rfl)
  obtain ⟨t_MOST_LETTERS, i_MOST_LETTERS⟩ := He.int_ok X G (c.fact 53 (f := .int "MOST_LETTERS" 7) rfl)
  obtain ⟨t_MOST_WORDS, i_MOST_WORDS⟩ := He.int_ok X G (c.fact 54 (f := .int "MOST_WORDS" 5) rfl)
  obtain ⟨c_all_states, R_all_states, T_all_states⟩ := tb "all_states" (by simp)
  have e := hfa.symm.trans m_law_
  cases e
  have bl := FunD.bindsA (ps := ["_law_script"]) D_law fun _ _ _ _ _ _ us hl => match us, hl with | [_], _ => rfl
  refine ⟨fd_law, [(c_all_states, R_all_states)], SpL [(R_all_states, ("all_states" : Str) ++ ".<locals>." ++ "<lambda>")] K fun _ => True, ?_, ?_, ?_, fun s u => bl s [u] rfl, fun H a ns _ _ hH hS => ⟨a, ns, rfl, ?_, hS, trivial, fun _ => rfl⟩, fun base KB GB TB => ?_⟩
  · exact fun p hp => by simp only [List.mem_singleton] at hp; subst hp; exact T_all_states.tab
  · exact fun p hp => by simp only [List.mem_singleton] at hp; subst hp; exact T_all_states.no
  · exact fun p hp => by simp only [List.mem_singleton] at hp; subst hp; exact T_all_states.hd
  · intro p hp
    simp only [List.mem_singleton] at hp; subst hp
    exact LamX.TabS.nil (hH (c_all_states, R_all_states) (by simp))
  have TB1 := TB (c_all_states, R_all_states) (by simp)
  have hc1 : fd_all_states.code = .ref c_all_states := by
    obtain ⟨oc, od, fd', osl, e1, e2⟩ := T_all_states.fn
    obtain ⟨oc2, od2, dV, kV, doc, pm, an, cdv, ct, osl2, e3, lk, _⟩ := D_all_states.ex
    have lk' : K.lookup (He.ga K "all_states") = some ⟨oc2, od2, .func fd_all_states, osl2⟩ := lk
    rw [e1] at lk'
    cases lk'
    exact e2
  have G_is_whole := ok_is_whole (T := [(R_all_states, ("all_states" : Str) ++ ".<locals>." ++ "<lambda>")]) (P := PySem.Challenge.pw_halfback_k84_whole_from_the_left) (w := w) (mg := mg) (base := base) D_is_whole n_bool n_int n_isinstance
  have cV_is_whole := GP.of D_is_whole m_is_whole_ (gfn_V G_is_whole) (fun _ _ _ _ _ _ us hl => match us, hl with | [_], _ => rfl)
  have G_is_letter := ok_is_letter (T := [(R_all_states, ("all_states" : Str) ++ ".<locals>." ++ "<lambda>")]) (P := PySem.Challenge.pw_halfback_k84_whole_from_the_left) (w := w) (mg := mg) (base := base) D_is_letter 
  have cV_is_letter := GP.of D_is_letter m_is_letter_ (gfn_V G_is_letter) (fun _ _ _ _ _ _ us hl => match us, hl with | [_], _ => rfl)
  have G_check_words := ok_check_words (T := [(R_all_states, ("all_states" : Str) ++ ".<locals>." ++ "<lambda>")]) (P := PySem.Challenge.pw_halfback_k84_whole_from_the_left) (w := w) (mg := mg) (base := base) D_check_words cV_is_letter n_all n_enumerate n_isinstance n_len n_list n_str i_MOST_LETTERS i_MOST_WORDS
  have cV_check_words := GP.of D_check_words m_check_words_ (gfn_V G_check_words) (fun _ _ _ _ _ _ us hl => match us, hl with | [_], _ => rfl)
  have G_check_text := ok_check_text (T := [(R_all_states, ("all_states" : Str) ++ ".<locals>." ++ "<lambda>")]) (P := PySem.Challenge.pw_halfback_k84_whole_from_the_left) (w := w) (mg := mg) (base := base) D_check_text n_enumerate n_isinstance n_str
  have cV_check_text := GP.of D_check_text m_check_text_ (gfn_V G_check_text) (fun _ _ _ _ _ _ us hl => match us, hl with | [_], _ => rfl)
  have G_check_letters := ok_check_letters (T := [(R_all_states, ("all_states" : Str) ++ ".<locals>." ++ "<lambda>")]) (P := PySem.Challenge.pw_halfback_k84_whole_from_the_left) (w := w) (mg := mg) (base := base) D_check_letters cV_is_letter n_all n_enumerate n_isinstance n_str
  have cV_check_letters := GP.of D_check_letters m_check_letters_ (gfn_V G_check_letters) (fun _ _ _ _ _ _ us hl => match us, hl with | [_, _], _ => rfl)
  have G_all_states := ok_all_states (T := [(R_all_states, ("all_states" : Str) ++ ".<locals>." ++ "<lambda>")]) (P := PySem.Challenge.pw_halfback_k84_whole_from_the_left) (w := w) (mg := mg) (base := base) D_all_states TB1 hc1 (by simp) (by simp) n_len n_range n_sorted
  have cV_all_states := GP.of D_all_states m_all_states_ (gfn_V G_all_states) (fun _ _ _ _ _ _ us hl => match us, hl with | [_], _ => rfl)
  have G_letters_behind := ok_letters_behind (T := [(R_all_states, ("all_states" : Str) ++ ".<locals>." ++ "<lambda>")]) (P := PySem.Challenge.pw_halfback_k84_whole_from_the_left) (w := w) (mg := mg) (base := base) D_letters_behind cV_all_states
  have cV_letters_behind := GP.of D_letters_behind m_letters_behind_ (gfn_V G_letters_behind) (fun _ _ _ _ _ _ us hl => match us, hl with | [_], _ => rfl)
  have G_check_state := ok_check_state (T := [(R_all_states, ("all_states" : Str) ++ ".<locals>." ++ "<lambda>")]) (P := PySem.Challenge.pw_halfback_k84_whole_from_the_left) (w := w) (mg := mg) (base := base) D_check_state cV_all_states n_isinstance n_str
  have cV_check_state := GP.of D_check_state m_check_state_ (gfn_V G_check_state) (fun _ _ _ _ _ _ us hl => match us, hl with | [_, _], _ => rfl)
  have G_ends_in := ok_ends_in (T := [(R_all_states, ("all_states" : Str) ++ ".<locals>." ++ "<lambda>")]) (P := PySem.Challenge.pw_halfback_k84_whole_from_the_left) (w := w) (mg := mg) (base := base) D_ends_in cV_all_states n_len
  have cV_ends_in := GP.of D_ends_in m_ends_in_ (gfn_V G_ends_in) (fun _ _ _ _ _ _ us hl => match us, hl with | [_, _], _ => rfl)
  have G_ends := ok_ends (T := [(R_all_states, ("all_states" : Str) ++ ".<locals>." ++ "<lambda>")]) (P := PySem.Challenge.pw_halfback_k84_whole_from_the_left) (w := w) (mg := mg) (base := base) D_ends cV_check_words cV_check_state cV_ends_in
  have cV_ends := GP.of D_ends m_ends_ (gfn_V G_ends) (fun _ _ _ _ _ _ us hl => match us, hl with | [_, _], _ => rfl)
  have G_check_table := ok_check_table (T := [(R_all_states, ("all_states" : Str) ++ ".<locals>." ++ "<lambda>")]) (P := PySem.Challenge.pw_halfback_k84_whole_from_the_left) (w := w) (mg := mg) (base := base) D_check_table cV_all_states n_all n_dict n_isinstance n_len n_str
  have cV_check_table := GP.of D_check_table m_check_table_ (gfn_V G_check_table) (fun _ _ _ _ _ _ us hl => match us, hl with | [_, _], _ => rfl)
  have G_check_search := ok_check_search (T := [(R_all_states, ("all_states" : Str) ++ ".<locals>." ++ "<lambda>")]) (P := PySem.Challenge.pw_halfback_k84_whole_from_the_left) (w := w) (mg := mg) (base := base) D_check_search cV_check_words cV_check_table
  have cV_check_search := GP.of D_check_search m_check_search_ (gfn_V G_check_search) (fun _ _ _ _ _ _ us hl => match us, hl with | [_, _], _ => rfl)
  have G_true_in := ok_true_in (T := [(R_all_states, ("all_states" : Str) ++ ".<locals>." ++ "<lambda>")]) (P := PySem.Challenge.pw_halfback_k84_whole_from_the_left) (w := w) (mg := mg) (base := base) D_true_in cV_all_states cV_ends_in
  have cR_true_in := GP.of D_true_in m_true_in_ (gfn_R G_true_in) (fun _ _ _ _ _ _ us hl => match us, hl with | [_], _ => rfl)
  have G_true_table := ok_true_table (T := [(R_all_states, ("all_states" : Str) ++ ".<locals>." ++ "<lambda>")]) (P := PySem.Challenge.pw_halfback_k84_whole_from_the_left) (w := w) (mg := mg) (base := base) D_true_table cV_check_words cR_true_in
  have cV_true_table := GP.of D_true_table m_true_table_ (gfn_V G_true_table) (fun _ _ _ _ _ _ us hl => match us, hl with | [_], _ => rfl)
  have G_step_from := ok_step_from (T := [(R_all_states, ("all_states" : Str) ++ ".<locals>." ++ "<lambda>")]) (P := PySem.Challenge.pw_halfback_k84_whole_from_the_left) (w := w) (mg := mg) (base := base) D_step_from 
  have cV_step_from := GP.of D_step_from m_step_from_ (gfn_V G_step_from) (fun _ _ _ _ _ _ us hl => match us, hl with | [_, _, _, _], _ => rfl)
  have G_walk_in := ok_walk_in (T := [(R_all_states, ("all_states" : Str) ++ ".<locals>." ++ "<lambda>")]) (P := PySem.Challenge.pw_halfback_k84_whole_from_the_left) (w := w) (mg := mg) (base := base) D_walk_in cV_letters_behind cV_step_from
  have cV_walk_in := GP.of D_walk_in m_walk_in_ (gfn_V G_walk_in) (fun _ _ _ _ _ _ us hl => match us, hl with | [_, _, _], _ => rfl)
  have G_finds_in := ok_finds_in (T := [(R_all_states, ("all_states" : Str) ++ ".<locals>." ++ "<lambda>")]) (P := PySem.Challenge.pw_halfback_k84_whole_from_the_left) (w := w) (mg := mg) (base := base) D_finds_in n_enumerate
  have cV_finds_in := GP.of D_finds_in m_finds_in_ (gfn_V G_finds_in) (fun _ _ _ _ _ _ us hl => match us, hl with | [_, _], _ => rfl)
  have G_walk := ok_walk (T := [(R_all_states, ("all_states" : Str) ++ ".<locals>." ++ "<lambda>")]) (P := PySem.Challenge.pw_halfback_k84_whole_from_the_left) (w := w) (mg := mg) (base := base) D_walk cV_check_search cV_check_text cV_walk_in
  have cV_walk := GP.of D_walk m_walk_ (gfn_V G_walk) (fun _ _ _ _ _ _ us hl => match us, hl with | [_, _, _], _ => rfl)
  have G_finds := ok_finds (T := [(R_all_states, ("all_states" : Str) ++ ".<locals>." ++ "<lambda>")]) (P := PySem.Challenge.pw_halfback_k84_whole_from_the_left) (w := w) (mg := mg) (base := base) D_finds cV_check_search cV_check_text cV_finds_in cV_walk_in
  have cV_finds := GP.of D_finds m_finds_ (gfn_V G_finds) (fun _ _ _ _ _ _ us hl => match us, hl with | [_, _, _], _ => rfl)
  have G_check_order := ok_check_order (T := [(R_all_states, ("all_states" : Str) ++ ".<locals>." ++ "<lambda>")]) (P := PySem.Challenge.pw_halfback_k84_whole_from_the_left) (w := w) (mg := mg) (base := base) D_check_order cV_is_whole n_enumerate n_isinstance n_len n_list
  have cV_check_order := GP.of D_check_order m_check_order_ (gfn_V G_check_order) (fun _ _ _ _ _ _ us hl => match us, hl with | [_, _], _ => rfl)
  have G_check_window := ok_check_window (T := [(R_all_states, ("all_states" : Str) ++ ".<locals>." ++ "<lambda>")]) (P := PySem.Challenge.pw_halfback_k84_whole_from_the_left) (w := w) (mg := mg) (base := base) D_check_window cV_check_words cV_check_order cV_check_letters
  have cV_check_window := GP.of D_check_window m_check_window_ (gfn_V G_check_window) (fun _ _ _ _ _ _ us hl => match us, hl with | [_, _, _], _ => rfl)
  have G_is_skip := ok_is_skip (T := [(R_all_states, ("all_states" : Str) ++ ".<locals>." ++ "<lambda>")]) (P := PySem.Challenge.pw_halfback_k84_whole_from_the_left) (w := w) (mg := mg) (base := base) D_is_skip cV_is_whole n_len
  have cV_is_skip := GP.of D_is_skip m_is_skip_ (gfn_V G_is_skip) (fun _ _ _ _ _ _ us hl => match us, hl with | [_, _], _ => rfl)
  have G_check_skips := ok_check_skips (T := [(R_all_states, ("all_states" : Str) ++ ".<locals>." ++ "<lambda>")]) (P := PySem.Challenge.pw_halfback_k84_whole_from_the_left) (w := w) (mg := mg) (base := base) D_check_skips cV_is_skip n_all n_dict n_isinstance n_len n_list n_range n_sorted
  have cV_check_skips := GP.of D_check_skips m_check_skips_ (gfn_V G_check_skips) (fun _ _ _ _ _ _ us hl => match us, hl with | [_, _, _, _], _ => rfl)
  have G_check_all := ok_check_all (T := [(R_all_states, ("all_states" : Str) ++ ".<locals>." ++ "<lambda>")]) (P := PySem.Challenge.pw_halfback_k84_whole_from_the_left) (w := w) (mg := mg) (base := base) D_check_all cV_check_window cV_check_skips
  have cV_check_all := GP.of D_check_all m_check_all_ (gfn_V G_check_all) (fun _ _ _ _ _ _ us hl => match us, hl with | [_, _, _, _], _ => rfl)
  have G_fits := ok_fits (T := [(R_all_states, ("all_states" : Str) ++ ".<locals>." ++ "<lambda>")]) (P := PySem.Challenge.pw_halfback_k84_whole_from_the_left) (w := w) (mg := mg) (base := base) D_fits n_all
  have cV_fits := GP.of D_fits m_fits_ (gfn_V G_fits) (fun _ _ _ _ _ _ us hl => match us, hl with | [_, _, _], _ => rfl)
  have G_safe_skip := ok_safe_skip (T := [(R_all_states, ("all_states" : Str) ++ ".<locals>." ++ "<lambda>")]) (P := PySem.Challenge.pw_halfback_k84_whole_from_the_left) (w := w) (mg := mg) (base := base) D_safe_skip cV_fits n_len n_range
  have cV_safe_skip := GP.of D_safe_skip m_safe_skip_ (gfn_V G_safe_skip) (fun _ _ _ _ _ _ us hl => match us, hl with | [_, _], _ => rfl)
  have G_safe_in := ok_safe_in (T := [(R_all_states, ("all_states" : Str) ++ ".<locals>." ++ "<lambda>")]) (P := PySem.Challenge.pw_halfback_k84_whole_from_the_left) (w := w) (mg := mg) (base := base) D_safe_in cV_safe_skip n_sorted
  have cV_safe_in := GP.of D_safe_in m_safe_in_ (gfn_V G_safe_in) (fun _ _ _ _ _ _ us hl => match us, hl with | [_, _, _], _ => rfl)
  have G_window_at := ok_window_at (T := [(R_all_states, ("all_states" : Str) ++ ".<locals>." ++ "<lambda>")]) (P := PySem.Challenge.pw_halfback_k84_whole_from_the_left) (w := w) (mg := mg) (base := base) D_window_at n_enumerate n_len
  have cV_window_at := GP.of D_window_at m_window_at_ (gfn_V G_window_at) (fun _ _ _ _ _ _ us hl => match us, hl with | [_, _, _, _, _], _ => rfl)
  have G_search_in := ok_search_in (T := [(R_all_states, ("all_states" : Str) ++ ".<locals>." ++ "<lambda>")]) (P := PySem.Challenge.pw_halfback_k84_whole_from_the_left) (w := w) (mg := mg) (base := base) D_search_in cV_window_at n_len
  have craw_search_in := GP.of D_search_in m_search_in_ G_search_in (fun _ _ _ _ _ _ us hl => match us, hl with | [_, _, _, _], _ => rfl)
  have G_check_over := ok_check_over (T := [(R_all_states, ("all_states" : Str) ++ ".<locals>." ++ "<lambda>")]) (P := PySem.Challenge.pw_halfback_k84_whole_from_the_left) (w := w) (mg := mg) (base := base) D_check_over n_enumerate n_isinstance n_str
  have cV_check_over := GP.of D_check_over m_check_over_ (gfn_V G_check_over) (fun _ _ _ _ _ _ us hl => match us, hl with | [_, _], _ => rfl)
  have G_safe_skips := ok_safe_skips (T := [(R_all_states, ("all_states" : Str) ++ ".<locals>." ++ "<lambda>")]) (P := PySem.Challenge.pw_halfback_k84_whole_from_the_left) (w := w) (mg := mg) (base := base) D_safe_skips cV_check_window cV_safe_in
  have cV_safe_skips := GP.of D_safe_skips m_safe_skips_ (gfn_V G_safe_skips) (fun _ _ _ _ _ _ us hl => match us, hl with | [_, _, _], _ => rfl)
  have G_finds_by_skips := ok_finds_by_skips (T := [(R_all_states, ("all_states" : Str) ++ ".<locals>." ++ "<lambda>")]) (P := PySem.Challenge.pw_halfback_k84_whole_from_the_left) (w := w) (mg := mg) (base := base) D_finds_by_skips cV_check_all cV_check_over craw_search_in
  have cV_finds_by_skips := GP.of D_finds_by_skips m_finds_by_skips_ (gfn_V G_finds_by_skips) (fun _ _ _ _ _ _ us hl => match us, hl with | [_, _, _, _, _], _ => rfl)
  have G__law_draws := ok__law_draws (T := [(R_all_states, ("all_states" : Str) ++ ".<locals>." ++ "<lambda>")]) (P := PySem.Challenge.pw_halfback_k84_whole_from_the_left) (w := w) (mg := mg) (base := base) D__law_draws n_int
  have cR__law_draws := GP.of D__law_draws m__law_draws_ (gfn_R G__law_draws) (fun _ _ _ _ _ _ us hl => match us, hl with | [_], _ => rfl)
  have G__law_next := ok__law_next (T := [(R_all_states, ("all_states" : Str) ++ ".<locals>." ++ "<lambda>")]) (P := PySem.Challenge.pw_halfback_k84_whole_from_the_left) (w := w) (mg := mg) (base := base) D__law_next n_int
  have cE__law_next := GP.of D__law_next m__law_next_ (gfn_E G__law_next) (fun _ _ _ _ _ _ us hl => match us, hl with | [_], _ => rfl)
  have G__law_shuffled := ok__law_shuffled (T := [(R_all_states, ("all_states" : Str) ++ ".<locals>." ++ "<lambda>")]) (P := PySem.Challenge.pw_halfback_k84_whole_from_the_left) (w := w) (mg := mg) (base := base) D__law_shuffled cE__law_next n_int n_len n_list
  have cE__law_shuffled := GP.of D__law_shuffled m__law_shuffled_ (gfn_E G__law_shuffled) (fun _ _ _ _ _ _ us hl => match us, hl with | [_, _], _ => rfl)
  have G__law_window := ok__law_window (T := [(R_all_states, ("all_states" : Str) ++ ".<locals>." ++ "<lambda>")]) (P := PySem.Challenge.pw_halfback_k84_whole_from_the_left) (w := w) (mg := mg) (base := base) D__law_window cE__law_next cE__law_shuffled n_int n_len n_list n_range
  have cE__law_window := GP.of D__law_window m__law_window_ (gfn_E G__law_window) (fun _ _ _ _ _ _ us hl => match us, hl with | [_, _], _ => rfl)
  have G__law_over := ok__law_over (T := [(R_all_states, ("all_states" : Str) ++ ".<locals>." ++ "<lambda>")]) (P := PySem.Challenge.pw_halfback_k84_whole_from_the_left) (w := w) (mg := mg) (base := base) D__law_over cE__law_next n_int n_len n_range
  have cE__law_over := GP.of D__law_over m__law_over_ (gfn_E G__law_over) (fun _ _ _ _ _ _ us hl => match us, hl with | [_, _, _, _], _ => rfl)
  have G__law_left_right := ok__law_left_right (T := [(R_all_states, ("all_states" : Str) ++ ".<locals>." ++ "<lambda>")]) (P := PySem.Challenge.pw_halfback_k84_whole_from_the_left) (w := w) (mg := mg) (base := base) D__law_left_right cV_true_table cV_safe_skips cV_walk cV_ends n_len n_list n_range
  have cV__law_left_right := GP.of D__law_left_right m__law_left_right_ (gfn_V G__law_left_right) (fun _ _ _ _ _ _ us hl => match us, hl with | [_, _], _ => rfl)
  have G__law_back_right := ok__law_back_right (T := [(R_all_states, ("all_states" : Str) ++ ".<locals>." ++ "<lambda>")]) (P := PySem.Challenge.pw_halfback_k84_whole_from_the_left) (w := w) (mg := mg) (base := base) D__law_back_right cV_safe_skips n_int n_len n_list n_max n_range
  have cV__law_back_right := GP.of D__law_back_right m__law_back_right_ (gfn_V G__law_back_right) (fun _ _ _ _ _ _ us hl => match us, hl with | [_, _], _ => rfl)
  have G__law_same_right := ok__law_same_right (T := [(R_all_states, ("all_states" : Str) ++ ".<locals>." ++ "<lambda>")]) (P := PySem.Challenge.pw_halfback_k84_whole_from_the_left) (w := w) (mg := mg) (base := base) D__law_same_right cE__law_shuffled cE__law_over cV_finds cV_true_table cV_finds_by_skips cV_safe_skips n_len n_list n_range
  have cE__law_same_right := GP.of D__law_same_right m__law_same_right_ (gfn_E G__law_same_right) (fun _ _ _ _ _ _ us hl => match us, hl with | [_, _, _], _ => rfl)
  exact ok_law D_law cR__law_draws cE__law_window cV__law_back_right cV__law_left_right cE__law_same_right fun ns _ => law_ok ns
end K84
open PySem PySem.W PySem.Calls PyProof.Rows
theorem PySem.Challenge.cw_halfback_k84_whole_from_the_left_holds : PySem.Challenge.rw_halfback_k84_whole_from_the_left.Holds := by
  w_on; o_law
  refine HandSHeadRun.head_any (r := OpenLaw.row PySem.Challenge.rw_halfback_k84_whole_from_the_left) (q := view (OpenLaw.row PySem.Challenge.rw_halfback_k84_whole_from_the_left).prog [59]) (H := K84.hk) (ob := K84.ob) (M := 4000) (loose := K84.loose) (d := HandSHeadRun.topDef (OpenLaw.row PySem.Challenge.rw_halfback_k84_whole_from_the_left).prog 59) (kwd := []) K84.ob_eq
    (by kernel_rfl) (fun s => by kernel_rfl) K84.run (by kernel_rfl) (by kernel_rfl) (by kernel_rfl) (by rfl) (by first | assumption | decide +kernel) (by decide +kernel) ⟨rfl, rfl, rfl, rfl, rfl, by decide +kernel⟩ ?hw ?hc
  case hw => w_witness2
  case hc =>
    refine HB.walk_goE (l := PySem.Challenge.rw_halfback_k84_whole_from_the_left) (n := 63) (k := 8) (x := "_law_script") rfl (by decide) (by kernel_rfl) ⟨rfl, by decide, by decide⟩ ?F
    intro w mg fa h Y G hmg0
    obtain ⟨K, KX, c, tb⟩ := Y
    have hmg : mg ("law" : PySem.Str) = some (.ref fa) := by
      have e : (HandSHeadRun.topDef (OpenLaw.row PySem.Challenge.rw_halfback_k84_whole_from_the_left).prog 59).name = ("law" : PySem.Str) := by kernel_rfl
      rw [← e]
      exact hmg0
    exact ⟨K, KX, K84.facts KX G hmg c tb⟩

