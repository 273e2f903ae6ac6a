import PyProof.Rows.All
import Wide.All
import OpenK.AllK
import Wide.FinOn
import HandS.ForMost
import HandS.Walk
import HandS.Lambda
import HandS.Flow
import HandS.Defaults
import HandS.IsInst
import HandS.DictComp
import PyProof.ReprNest
import PyProof.ReprDict
import HandS.Set
import HandS.SetFor
import HandS.SetTxt0
import HandS.Strs
import HandS.More
import KE.SortData
import KE.SortKeyHeap
import HandS.SortKw
import HandS.EndTab
import HandS.Words
import HandS.Head0
import HandS.Head1
import HandS.Head2
import HandS.HeadEnd
import HandS.HeadHook1
import HandS.HeadHook2
import HandS.DeepEq
import HandS.Conv
import HandS.ListItems
import HandS.Style
import HandS.Finally
import PySem.Challenge.RW_halfback_k03_tables_and_shortcuts
set_option Elab.async false
set_option linter.all false
set_option maxRecDepth 100000
set_option maxHeartbeats 1000000
/-! HB, part a: data told of the heap, worlds of live objects, the judgements DE, DT, DA, DS. -/
namespace HB
open PySem PySem.Spec PyProof.Rows L2

/-- plain data; ref k: the k-th live object -/
inductive Dt where
  | non | bl (b : Bool) | int (i : Int) | str (x : Str) | ref (k : Nat)
  | lst (ds : List Dt) | tup (ds : List Dt) | dic (ks : List Key) (ds : List Dt)

abbrev Sto := List (Option Dt)

mutual
def Den (L : List Addr) (B : Addr → Prop) (H : Hp) : Dt → V → Prop
  | .non, v => v = .non
  | .bl b, v => v = .bl b
  | .int i, v => v = .int i
  | .str x, v => v = .str x
  | .ref k, v => ∃ a, L[k]? = some a ∧ v = .ref a
  | .lst ds, v => ∃ a vs, v = .ref a ∧ ¬ B a ∧ H a = some (.lst vs) ∧ Dens L B H ds vs
  | .tup ds, v => ∃ a vs, v = .ref a ∧ H a = some (.tup vs) ∧ Dens L B H ds vs
  | .dic ks ds, v => ∃ a vs, v = .ref a ∧ ¬ B a ∧ Rd H a (.dK (ks.zip vs)) ∧ ks.length = vs.length ∧ Dens L B H ds vs
def Dens (L : List Addr) (B : Addr → Prop) (H : Hp) : List Dt → List V → Prop
  | [], vs => vs = []
  | d :: ds, vs => ∃ v r, vs = v :: r ∧ Den L B H d v ∧ Dens L B H ds r
end

theorem Dens.cons {L : List Addr} {B : Addr → Prop} {H : Hp} {d : Dt} {ds : List Dt} {v : V} {vs : List V} (h : Den L B H d v) (t : Dens L B H ds vs) : Dens L B H (d :: ds) (v :: vs) := by
  unfold Dens; exact ⟨v, vs, rfl, h, t⟩
theorem Dens.nil {L : List Addr} {B : Addr → Prop} {H : Hp} : Dens L B H [] [] := by unfold Dens; rfl
theorem Dens.uncons {L : List Addr} {B : Addr → Prop} {H : Hp} {d : Dt} {ds : List Dt} {vs : List V} (h : Dens L B H (d :: ds) vs) : ∃ v r, vs = v :: r ∧ Den L B H d v ∧ Dens L B H ds r := by
  unfold Dens at h; exact h
theorem Dens.len {L : List Addr} {B : Addr → Prop} {H : Hp} : ∀ {ds : List Dt} {vs : List V}, Dens L B H ds vs → ds.length = vs.length
  | [], vs, h => by unfold Dens at h; subst h; rfl
  | d :: ds, vs, h => by
    obtain ⟨v, r, rfl, _, t⟩ := h.uncons
    simp [Dens.len t]
theorem Dens.get {L : List Addr} {B : Addr → Prop} {H : Hp} : ∀ {ds : List Dt} {vs : List V} {i : Nat} {d : Dt}, Dens L B H ds vs → ds[i]? = some d → ∃ v, vs[i]? = some v ∧ Den L B H d v
  | [], _, _, _, _, e => by simp at e
  | d :: ds, vs, 0, x, h, e => by
    obtain ⟨v, r, rfl, q, _⟩ := h.uncons
    simp at e; subst e
    exact ⟨v, rfl, q⟩
  | d :: ds, vs, i + 1, x, h, e => by
    obtain ⟨v, r, rfl, _, t⟩ := h.uncons
    obtain ⟨u, h1, h2⟩ := Dens.get (i := i) t (by simpa using e)
    exact ⟨u, by simpa using h1, h2⟩
theorem Dens.getV {L : List Addr} {B : Addr → Prop} {H : Hp} {ds : List Dt} {vs : List V} {i : Nat} {v : V} (h : Dens L B H ds vs) (e : vs[i]? = some v) : ∃ d, ds[i]? = some d ∧ Den L B H d v := by
  have hl := h.len
  have hi : i < ds.length := by
    have := (List.getElem?_eq_some_iff.mp e).1
    omega
  obtain ⟨u, h1, h2⟩ := h.get (List.getElem?_eq_getElem hi)
  rw [e] at h1; cases h1
  exact ⟨_, List.getElem?_eq_getElem hi, h2⟩
theorem Dens.append {L : List Addr} {B : Addr → Prop} {H : Hp} : ∀ {ds es : List Dt} {vs us : List V}, Dens L B H ds vs → Dens L B H es us → Dens L B H (ds ++ es) (vs ++ us)
  | [], _, vs, _, h, t => by unfold Dens at h; subst h; exact t
  | d :: ds, es, vs, us, h, t => by
    obtain ⟨v, r, rfl, q, h⟩ := h.uncons
    exact .cons q (Dens.append h t)
theorem Dens.drop {L : List Addr} {B : Addr → Prop} {H : Hp} : ∀ {ds : List Dt} {vs : List V} (n : Nat), Dens L B H ds vs → Dens L B H (ds.drop n) (vs.drop n)
  | _, _, 0, h => h
  | [], vs, n + 1, h => by unfold Dens at h; subst h; exact .nil
  | d :: ds, vs, n + 1, h => by
    obtain ⟨v, r, rfl, _, t⟩ := h.uncons
    exact Dens.drop n t
theorem Dens.take {L : List Addr} {B : Addr → Prop} {H : Hp} : ∀ {ds : List Dt} {vs : List V} (n : Nat), Dens L B H ds vs → Dens L B H (ds.take n) (vs.take n)
  | _, _, 0, h => .nil
  | [], vs, n + 1, h => by unfold Dens at h; subst h; exact .nil
  | d :: ds, vs, n + 1, h => by
    obtain ⟨v, r, rfl, q, t⟩ := h.uncons
    exact .cons q (Dens.take n t)
theorem Dens.set {L : List Addr} {B : Addr → Prop} {H : Hp} {d : Dt} {v : V} (q : Den L B H d v) : ∀ {ds : List Dt} {vs : List V} (n : Nat), Dens L B H ds vs → Dens L B H (ds.set n d) (vs.set n v)
  | [], vs, _, h => by unfold Dens at h; subst h; exact .nil
  | e :: ds, vs, 0, h => by
    obtain ⟨w, r, rfl, _, t⟩ := h.uncons
    exact .cons q t
  | e :: ds, vs, n + 1, h => by
    obtain ⟨w, r, rfl, p, t⟩ := h.uncons
    exact .cons p (Dens.set q n t)
theorem Dens.reverse {L : List Addr} {B : Addr → Prop} {H : Hp} : ∀ {ds : List Dt} {vs : List V}, Dens L B H ds vs → Dens L B H ds.reverse vs.reverse
  | [], vs, h => by unfold Dens at h; subst h; exact .nil
  | d :: ds, vs, h => by
    obtain ⟨v, r, rfl, q, t⟩ := h.uncons
    rw [List.reverse_cons, List.reverse_cons]
    exact (Dens.reverse t).append (.cons q .nil)

theorem rd_ne {H : Hp} {a : Addr} {u : HO} (h : Rd H a u) : H a ≠ none := by
  rcases h with h | ⟨x, h⟩ <;> rw [h] <;> simp
theorem rd_of {H H' : Hp} {a : Addr} {u : HO} (h : Rd H a u) (k : ∀ o, H a = some o → H' a = some o) : Rd H' a u := by
  rcases h with h | ⟨x, h⟩
  · exact .inl (k _ h)
  · exact .inr ⟨x, k _ h⟩

/-- the k-th object of L is live -/
def Liv (L : List Addr) (st : Sto) (a : Addr) : Prop := ∃ (k : Nat) (d : Dt), L[k]? = some a ∧ st[k]? = some (some d)
def Bad (Z : Addr → Prop) (L : List Addr) (st : Sto) (a : Addr) : Prop := Z a ∨ Liv L st a
def OwnO (L : List Addr) (B : Addr → Prop) (H : Hp) (o : HO) : Dt → Prop
  | .lst ds => ∃ vs, o = .lst vs ∧ Dens L B H ds vs
  | .dic ks ds => ∃ vs, o = .dK (ks.zip vs) ∧ ks.length = vs.length ∧ Dens L B H ds vs
  | _ => False
theorem OwnO.imp {L L' : List Addr} {B B' : Addr → Prop} {H H' : Hp} {o : HO} (f : ∀ ds vs, Dens L B H ds vs → Dens L' B' H' ds vs) : ∀ {d : Dt}, OwnO L B H o d → OwnO L' B' H' o d
  | .lst _, h => by obtain ⟨vs, e, t⟩ := h; exact ⟨vs, e, f _ _ t⟩
  | .dic _ _, h => by obtain ⟨vs, e, el, t⟩ := h; exact ⟨vs, e, el, f _ _ t⟩
theorem OwnO.kind {L : List Addr} {B : Addr → Prop} {H : Hp} {o : HO} : ∀ {d : Dt}, OwnO L B H o d → (∃ xs, o = .lst xs) ∨ ∃ kvs, o = .dK kvs
  | .lst _, h => by obtain ⟨vs, e, t⟩ := h; exact .inl ⟨vs, e⟩
  | .dic _ _, h => by obtain ⟨vs, e, el, t⟩ := h; exact .inr ⟨_, e⟩
def OwnAt (L : List Addr) (B : Addr → Prop) (H : Hp) (a : Addr) (d : Dt) : Prop := ∃ o, H a = some o ∧ OwnO L B H o d
/-- the world: tables of code objects, live objects and what they hold, Z not to be touched -/
structure Wd (T : List (Addr × Str)) (Z : Addr → Prop) (L : List Addr) (st : Sto) (H : Hp) : Prop where
  tabs : LamX.Tabs T H
  len : L.length = st.length
  inj : ∀ (i j : Nat) (a : Addr) (d e : Dt), L[i]? = some a → L[j]? = some a → st[i]? = some (some d) → st[j]? = some (some e) → i = j
  own : ∀ (k : Nat) (a : Addr) (d : Dt), L[k]? = some a → st[k]? = some (some d) → ¬ Z a ∧ OwnAt L (Bad Z L st) H a d
  zt : ∀ a, Z a → H a ≠ none
/-- from one world to a later one -/
structure Afz (T : List (Addr × Str)) (Z : Addr → Prop) (L : List Addr) (st : Sto) (H : Hp) (Z' : Addr → Prop) (L' : List Addr) (st' : Sto) (H' : Hp) : Prop where
  wd : Wd T Z' L' st' H'
  pre : ∃ M, L' = L ++ M
  kp : ∀ b o, H b = some o → ¬ Liv L st b → (∀ ps, o ≠ .tbl ps) → H' b = some o
  nw : ∀ a, Liv L' st' a → Liv L st a ∨ H a = none
  trk : ∀ b, H b ≠ none → H' b ≠ none
  tp : ∀ b xs, H b = some (.tup xs) → H' b = some (.tup xs)
  fr : ∀ (k : Nat) (a : Addr), L.length ≤ k → L'[k]? = some a → H a = none
  zs : ∀ a, Z' a → Z a ∨ H a = none
abbrev Af (T : List (Addr × Str)) (Z : Addr → Prop) (L : List Addr) (st : Sto) (H : Hp) (L' : List Addr) (st' : Sto) (H' : Hp) : Prop := Afz T Z L st H Z L' st' H'
section
variable {T : List (Addr × Str)} {Z Z' Z'' : Addr → Prop} {L L' L'' : List Addr} {st st' st'' : Sto} {H H' H'' : Hp}
theorem Afz.refl (w : Wd T Z L st H) : Af T Z L st H L st H := ⟨w, ⟨[], by simp⟩, fun b o h _ _ => h, fun a h => .inl h, fun _ h => h, fun _ _ h => h, fun k a h e => absurd (List.getElem?_eq_some_iff.mp e).1 (by omega), fun a z => .inl z⟩
theorem OwnAt.ne {B : Addr → Prop} {a : Addr} {d : Dt} (h : OwnAt L B H a d) : H a ≠ none := by
  obtain ⟨o, e, _⟩ := h; rw [e]; simp
theorem Wd.livTrk (w : Wd T Z L st H) {a : Addr} (h : Liv L st a) : H a ≠ none := by
  obtain ⟨k, d, h1, h2⟩ := h
  exact (w.own k a d h1 h2).2.ne
theorem Afz.trans (h : Afz T Z L st H Z' L' st' H') (g : Afz T Z' L' st' H' Z'' L'' st'' H'') : Afz T Z L st H Z'' L'' st'' H'' := by
  refine ⟨g.wd, ?_, fun b o e nl nt => ?_, fun a l => ?_, fun b e => g.trk b (h.trk b e), fun b xs e => g.tp b xs (h.tp b xs e), fun k a hk e => ?_, fun a z => ?_⟩
  · obtain ⟨M, rfl⟩ := h.pre
    obtain ⟨N, rfl⟩ := g.pre
    exact ⟨M ++ N, by simp⟩
  · have e' := h.kp b o e nl nt
    have nl' : ¬ Liv L' st' b := fun z => by
      rcases h.nw b z with z | z
      · exact nl z
      · rw [e] at z; cases z
    exact g.kp b o e' nl' nt
  · rcases g.nw a l with z | z
    · exact h.nw a z
    · right
      cases q : H a with
      | none => rfl
      | some o => exact absurd z (h.trk a (by rw [q]; simp))
  · by_cases hl : L'.length ≤ k
    · have z := g.fr k a hl e
      cases q : H a with
      | none => rfl
      | some o => exact absurd z (h.trk a (by rw [q]; simp))
    · obtain ⟨N, rfl⟩ := g.pre
      rw [List.getElem?_append_left (by omega)] at e
      exact h.fr k a hk e
  · rcases g.zs a z with z | z
    · exact h.zs a z
    · right
      cases q : H a with
      | none => rfl
      | some o => exact absurd z (h.trk a (by rw [q]; simp))
theorem Afz.ix (h : Afz T Z L st H Z' L' st' H') {k : Nat} {a : Addr} (e : L[k]? = some a) : L'[k]? = some a := by
  obtain ⟨M, rfl⟩ := h.pre
  rw [List.getElem?_append_left (List.getElem?_eq_some_iff.mp e).1]
  exact e
theorem Afz.bad (h : Afz T Z L st H Z' L' st' H') {a : Addr} (t : H a ≠ none) (n : ¬ Bad Z L st a) : ¬ Bad Z' L' st' a := fun z => by
  rcases z with z | z
  · exact (h.zs a z).elim (fun z => n (.inl z)) t
  · rcases h.nw a z with z | z
    · exact n (.inr z)
    · exact t z
mutual
theorem Den.keep (h : Afz T Z L st H Z' L' st' H') : ∀ {d : Dt} {v : V}, Den L (Bad Z L st) H d v → Den L' (Bad Z' L' st') H' d v
  | .non, _, q => by unfold Den at q ⊢; exact q
  | .bl _, _, q => by unfold Den at q ⊢; exact q
  | .int _, _, q => by unfold Den at q ⊢; exact q
  | .str _, _, q => by unfold Den at q ⊢; exact q
  | .ref _, _, q => by
    unfold Den at q ⊢
    obtain ⟨a, e, r⟩ := q
    exact ⟨a, h.ix e, r⟩
  | .lst ds, _, q => by
    unfold Den at q ⊢
    obtain ⟨a, vs, r, nb, e, t⟩ := q
    exact ⟨a, vs, r, h.bad (by rw [e]; simp) nb, h.kp a _ e (fun z => nb (.inr z)) (fun ps z => by cases z), Dens.keep h t⟩
  | .tup ds, _, q => by
    unfold Den at q ⊢
    obtain ⟨a, vs, r, e, t⟩ := q
    exact ⟨a, vs, r, h.tp a vs e, Dens.keep h t⟩
  | .dic ks ds, _, q => by
    unfold Den at q ⊢
    obtain ⟨a, vs, r, nb, e, el, t⟩ := q
    exact ⟨a, vs, r, h.bad (rd_ne e) nb, rd_of e fun o eo => h.kp a o eo (fun z => nb (.inr z)) (fun ps z => by
      subst z
      rcases e with e | ⟨x, e⟩ <;> rw [eo] at e <;> cases e), el, Dens.keep h t⟩
theorem Dens.keep (h : Afz T Z L st H Z' L' st' H') : ∀ {ds : List Dt} {vs : List V}, Dens L (Bad Z L st) H ds vs → Dens L' (Bad Z' L' st') H' ds vs
  | [], _, q => by unfold Dens at q ⊢; exact q
  | d :: ds, _, q => by
    obtain ⟨v, r, rfl, p, t⟩ := q.uncons
    exact .cons (Den.keep h p) (Dens.keep h t)
end
end
end HB

set_option Elab.async false
set_option linter.all false
set_option maxRecDepth 100000
set_option maxHeartbeats 1000000
/-! HB, part b: readings of the hand layer told by plain functions: Sim. -/
namespace HB
open PySem PySem.Spec PyProof.Rows L2

/-! ### changes of the heap -/
section
variable {T : List (Addr × Str)} {Z Z' B B' : Addr → Prop} {L L' : List Addr} {st st' : Sto} {H H' : Hp} {a p : Addr} {o : HO}
mutual
theorem Den.mono (hb : ∀ a, B' a → B a) : ∀ {d : Dt} {v : V}, Den L B H d v → Den L B' H d v
  | .non, _, q => by unfold Den at q ⊢; exact q
  | .bl _, _, q => by unfold Den at q ⊢; exact q
  | .int _, _, q => by unfold Den at q ⊢; exact q
  | .str _, _, q => by unfold Den at q ⊢; exact q
  | .ref _, _, q => by unfold Den at q ⊢; exact q
  | .lst ds, _, q => by
    unfold Den at q ⊢
    obtain ⟨a, vs, r, nb, e, t⟩ := q
    exact ⟨a, vs, r, fun z => nb (hb a z), e, Dens.mono hb t⟩
  | .tup ds, _, q => by
    unfold Den at q ⊢
    obtain ⟨a, vs, r, e, t⟩ := q
    exact ⟨a, vs, r, e, Dens.mono hb t⟩
  | .dic ks ds, _, q => by
    unfold Den at q ⊢
    obtain ⟨a, vs, r, nb, e, el, t⟩ := q
    exact ⟨a, vs, r, fun z => nb (hb a z), e, el, Dens.mono hb t⟩
theorem Dens.mono (hb : ∀ a, B' a → B a) : ∀ {ds : List Dt} {vs : List V}, Dens L B H ds vs → Dens L B' H ds vs
  | [], _, q => by unfold Dens at q ⊢; exact q
  | d :: ds, _, q => by
    obtain ⟨v, r, rfl, p, t⟩ := q.uncons
    exact .cons (Den.mono hb p) (Dens.mono hb t)
end
mutual
theorem Den.chg (hb : B a) (ht : ∀ xs, H a ≠ some (.tup xs)) : ∀ {d : Dt} {v : V}, Den L B H d v → Den L B (upd H a o) d v
  | .non, _, q => by unfold Den at q ⊢; exact q
  | .bl _, _, q => by unfold Den at q ⊢; exact q
  | .int _, _, q => by unfold Den at q ⊢; exact q
  | .str _, _, q => by unfold Den at q ⊢; exact q
  | .ref _, _, q => by unfold Den at q ⊢; exact q
  | .lst ds, _, q => by
    unfold Den at q ⊢
    obtain ⟨b, vs, r, nb, e, t⟩ := q
    exact ⟨b, vs, r, nb, by rw [upd_ne (fun z => nb (by rw [z]; exact hb))]; exact e, Dens.chg hb ht t⟩
  | .tup ds, _, q => by
    unfold Den at q ⊢
    obtain ⟨b, vs, r, e, t⟩ := q
    exact ⟨b, vs, r, by rw [upd_ne (fun z => ht vs (by rw [← z]; exact e))]; exact e, Dens.chg hb ht t⟩
  | .dic ks ds, _, q => by
    unfold Den at q ⊢
    obtain ⟨b, vs, r, nb, e, el, t⟩ := q
    exact ⟨b, vs, r, nb, rd_of e fun o eo => by rw [upd_ne (fun z => nb (by rw [z]; exact hb))]; exact eo, el, Dens.chg hb ht t⟩
theorem Dens.chg (hb : B a) (ht : ∀ xs, H a ≠ some (.tup xs)) : ∀ {ds : List Dt} {vs : List V}, Dens L B H ds vs → Dens L B (upd H a o) ds vs
  | [], _, q => by unfold Dens at q ⊢; exact q
  | d :: ds, _, q => by
    obtain ⟨v, r, rfl, p, t⟩ := q.uncons
    exact .cons (Den.chg hb ht p) (Dens.chg hb ht t)
end
theorem tabs_upd (ht : LamX.Tabs T H) (hn : ∀ u, H a = some u → (∃ xs, u = .lst xs) ∨ ∃ kvs, u = .dK kvs) : LamX.Tabs T (upd H a o) := by
  intro q hq
  obtain ⟨ps, h1, h2, h3⟩ := ht q hq
  have n1 : q.1 ≠ a := fun z => by
    rcases hn _ (by rw [← z]; exact h1) with ⟨xs, e⟩ | ⟨kvs, e⟩ <;> cases e
  refine ⟨ps, by rw [upd_ne n1]; exact h1, h2, fun pos cv hc => ?_⟩
  obtain ⟨c, e1, e2⟩ := h3 pos cv hc
  refine ⟨c, e1, ?_⟩
  have n2 : c ≠ a := fun z => by
    rcases hn _ (by rw [← z]; exact e2) with ⟨xs, e⟩ | ⟨kvs, e⟩ <;> (unfold LamX.CodeO at e; cases e)
  rw [upd_ne n2]; exact e2
theorem tabs_ext (ht : LamX.Tabs T H) (e : ∀ b o, H b = some o → H' b = some o) : LamX.Tabs T H' := ht.ext e
theorem Wd.notLiv (w : Wd T Z L st H) (h : H p = none) : ¬ Liv L st p := fun z => w.livTrk z h
theorem Wd.notBad (w : Wd T Z L st H) (h : H p = none) : ¬ Bad Z L st p := fun z => z.elim (fun z => w.zt p z h) (w.notLiv h)
theorem same_upd (h : H p = none) : ∀ b u, H b = some u → upd H p o b = some u := fun b u e => by
  rw [upd_ne (ne_of_none e h)]; exact e
mutual
theorem Den.stay (k : ∀ b u, H b = some u → (∀ ps, u ≠ .tbl ps) → H' b = some u) : ∀ {d : Dt} {v : V}, Den L B H d v → Den L B H' d v
  | .non, _, q => by unfold Den at q ⊢; exact q
  | .bl _, _, q => by unfold Den at q ⊢; exact q
  | .int _, _, q => by unfold Den at q ⊢; exact q
  | .str _, _, q => by unfold Den at q ⊢; exact q
  | .ref _, _, q => by unfold Den at q ⊢; exact q
  | .lst ds, _, q => by
    unfold Den at q ⊢
    obtain ⟨b, vs, r, nb, e, t⟩ := q
    exact ⟨b, vs, r, nb, k _ _ e (fun ps z => by cases z), Dens.stay k t⟩
  | .tup ds, _, q => by
    unfold Den at q ⊢
    obtain ⟨b, vs, r, e, t⟩ := q
    exact ⟨b, vs, r, k _ _ e (fun ps z => by cases z), Dens.stay k t⟩
  | .dic ks ds, _, q => by
    unfold Den at q ⊢
    obtain ⟨b, vs, r, nb, e, el, t⟩ := q
    exact ⟨b, vs, r, nb, rd_of e fun o eo => k b o eo (fun ps z => by subst z; rcases e with e | ⟨x, e⟩ <;> rw [eo] at e <;> cases e), el, Dens.stay k t⟩
theorem Dens.stay (k : ∀ b u, H b = some u → (∀ ps, u ≠ .tbl ps) → H' b = some u) : ∀ {ds : List Dt} {vs : List V}, Dens L B H ds vs → Dens L B H' ds vs
  | [], _, q => by unfold Dens at q ⊢; exact q
  | d :: ds, _, q => by
    obtain ⟨v, r, rfl, p, t⟩ := q.uncons
    exact .cons (Den.stay k p) (Dens.stay k t)
end
theorem Den.ext (k : ∀ b u, H b = some u → H' b = some u) {d : Dt} {v : V} (h : Den L B H d v) : Den L B H' d v := h.stay fun b u e _ => k b u e
theorem Dens.ext (k : ∀ b u, H b = some u → H' b = some u) {d : List Dt} {v : List V} (h : Dens L B H d v) : Dens L B H' d v := h.stay fun b u e _ => k b u e
theorem OwnAt.ext (k : ∀ b u, H b = some u → H' b = some u) {d : Dt} (h : OwnAt L B H a d) : OwnAt L B H' a d := by
  obtain ⟨o, e, t⟩ := h
  exact ⟨o, k _ _ e, t.imp fun _ _ q => q.ext k⟩
/-- more objects, nothing changed -/
theorem Wd.ext (w : Wd T Z L st H) (k : ∀ b u, H b = some u → H' b = some u) : Wd T Z L st H' :=
  ⟨w.tabs.ext k, w.len, w.inj, fun i b d h1 h2 => ⟨(w.own i b d h1 h2).1, (w.own i b d h1 h2).2.ext k⟩, fun b z e => by
    cases q : H b with
    | none => exact w.zt b z q
    | some u => rw [k b u q] at e; cases e⟩
theorem Afz.ext (w : Wd T Z L st H) (k : ∀ b u, H b = some u → H' b = some u) : Af T Z L st H L st H' :=
  ⟨w.ext k, ⟨[], by simp⟩, fun b u e _ _ => k b u e, fun _ h => .inl h, fun b n e => (by
    cases q : H b with
    | none => exact n q
    | some u => rw [k b u q] at e; cases e), fun b xs e => k b _ e, fun k a h e => absurd (List.getElem?_eq_some_iff.mp e).1 (by omega), fun a z => .inl z⟩
theorem Afz.new (w : Wd T Z L st H) (h : H p = none) : Af T Z L st H L st (upd H p o) := Afz.ext w (same_upd h)
/-- a by-value list just made -/
theorem Den.newL (w : Wd T Z L st H) (h : H p = none) {ds : List Dt} {vs : List V} (t : Dens L (Bad Z L st) H ds vs) : Den L (Bad Z L st) (upd H p (.lst vs)) (.lst ds) (.ref p) := by
  unfold Den
  exact ⟨p, vs, rfl, w.notBad h, upd_same, t.ext (same_upd h)⟩
theorem Den.newT (w : Wd T Z L st H) (h : H p = none) {ds : List Dt} {vs : List V} (t : Dens L (Bad Z L st) H ds vs) : Den L (Bad Z L st) (upd H p (.tup vs)) (.tup ds) (.ref p) := by
  unfold Den
  exact ⟨p, vs, rfl, upd_same, t.ext (same_upd h)⟩
theorem Den.newD (w : Wd T Z L st H) (h : H p = none) {ks : List Key} {ds : List Dt} {vs : List V} (hl : ks.length = vs.length) (t : Dens L (Bad Z L st) H ds vs) : Den L (Bad Z L st) (upd H p (.dK (ks.zip vs))) (.dic ks ds) (.ref p) := by
  unfold Den
  exact ⟨p, vs, rfl, w.notBad h, .inl upd_same, hl, t.ext (same_upd h)⟩
end

/-! ### one more address not to be touched -/
section
variable {T : List (Addr × Str)} {Z B : Addr → Prop} {L : List Addr} {st : Sto} {H : Hp} {a : Addr} {o : HO}
def zAnd (Z : Addr → Prop) (a : Addr) : Addr → Prop := fun b => Z b ∨ b = a
mutual
theorem Den.away (hn : H a = none) : ∀ {d : Dt} {v : V}, Den L B H d v → Den L (fun b => B b ∨ b = a) H d v
  | .non, _, q => by unfold Den at q ⊢; exact q
  | .bl _, _, q => by unfold Den at q ⊢; exact q
  | .int _, _, q => by unfold Den at q ⊢; exact q
  | .str _, _, q => by unfold Den at q ⊢; exact q
  | .ref _, _, q => by unfold Den at q ⊢; exact q
  | .lst ds, _, q => by
    unfold Den at q ⊢
    obtain ⟨b, vs, r, nb, e, t⟩ := q
    exact ⟨b, vs, r, fun z => z.elim nb (ne_of_none e hn), e, Dens.away hn t⟩
  | .tup ds, _, q => by
    unfold Den at q ⊢
    obtain ⟨b, vs, r, e, t⟩ := q
    exact ⟨b, vs, r, e, Dens.away hn t⟩
  | .dic ks ds, _, q => by
    unfold Den at q ⊢
    obtain ⟨b, vs, r, nb, e, el, t⟩ := q
    exact ⟨b, vs, r, fun z => z.elim nb (fun y => rd_ne e (by rw [y]; exact hn)), e, el, Dens.away hn t⟩
theorem Dens.away (hn : H a = none) : ∀ {ds : List Dt} {vs : List V}, Dens L B H ds vs → Dens L (fun b => B b ∨ b = a) H ds vs
  | [], _, q => by unfold Dens at q ⊢; exact q
  | d :: ds, _, q => by
    obtain ⟨v, r, rfl, p, t⟩ := q.uncons
    exact .cons (Den.away hn p) (Dens.away hn t)
end
/-- a new object that is ours alone for a while -/
theorem Afz.mine (w : Wd T Z L st H) (hn : H a = none) : Afz T Z L st H (zAnd Z a) L st (upd H a o) := by
  have hk := same_upd (o := o) hn
  refine ⟨⟨w.tabs.ext hk, w.len, w.inj, fun k b d h1 h2 => ?_, fun b z e => ?_⟩, ⟨[], by simp⟩, fun b u e _ _ => hk b u e, fun b l => .inl l, fun b n e => ?_, fun b xs e => hk b _ e, fun k b h e => absurd (List.getElem?_eq_some_iff.mp e).1 (by omega), fun b z => z.elim .inl fun y => .inr (by rw [y]; exact hn)⟩
  · obtain ⟨nz, u, eu, q⟩ := w.own k b d h1 h2
    refine ⟨fun z => z.elim nz (ne_of_none eu hn), u, hk _ _ eu, q.imp fun ds vs t => ?_⟩
    refine ((t.away hn).mono fun b z => ?_).ext hk
    rcases z with (z | z) | z
    · exact .inl (.inl z)
    · exact .inr z
    · exact .inl (.inr z)
  · rcases z with z | z
    · cases q : H b with
      | none => exact w.zt b z q
      | some u => rw [hk b u q] at e; cases e
    · rw [z, upd_same] at e; cases e
  · cases q : H b with
    | none => exact n q
    | some u => rw [hk b u q] at e; cases e
/-- what is ours alone is changed -/
theorem Wd.chg (w : Wd T Z L st H) (hz : Z a) (hn : ∀ u, H a = some u → (∃ xs, u = .lst xs) ∨ ∃ kvs, u = .dK kvs) : Wd T Z L st (upd H a o) := by
  have ht : ∀ xs, H a ≠ some (.tup xs) := fun xs e => by
    rcases hn _ e with ⟨ys, z⟩ | ⟨kvs, z⟩ <;> cases z
  refine ⟨tabs_upd w.tabs hn, w.len, w.inj, fun k b d h1 h2 => ?_, fun b z e => ?_⟩
  · obtain ⟨nz, u, eu, q⟩ := w.own k b d h1 h2
    exact ⟨nz, u, by rw [upd_ne (fun y => nz (by rw [y]; exact hz))]; exact eu, q.imp fun ds vs t => t.chg (.inl hz) ht⟩
  · by_cases hb : b = a
    · rw [hb, upd_same] at e; cases e
    · rw [upd_ne hb] at e; exact w.zt b z e
/-- it is everybody's again -/
theorem Wd.less {Z' : Addr → Prop} (w : Wd T Z' L st H) (hz : ∀ b, Z b → Z' b) : Wd T Z L st H :=
  ⟨w.tabs, w.len, w.inj, fun k b d h1 h2 => by
    obtain ⟨nz, u, eu, q⟩ := w.own k b d h1 h2
    exact ⟨fun z => nz (hz b z), u, eu, q.imp fun ds vs t => t.mono fun c z => z.elim (fun y => .inl (hz c y)) .inr⟩, fun b z => w.zt b (hz b z)⟩
end

/-! ### a live object: made, changed, left to be -/
section
variable {T : List (Addr × Str)} {Z : Addr → Prop} {L : List Addr} {st : Sto} {H : Hp} {a p : Addr} {o : HO}
theorem liv_push {x : Option Dt} (hl : L.length = st.length) : Liv (L ++ [p]) (st ++ [x]) a ↔ Liv L st a ∨ (a = p ∧ x ≠ none) := by
  constructor
  · rintro ⟨k, d, h1, h2⟩
    by_cases hk : k < L.length
    · rw [List.getElem?_append_left hk] at h1
      rw [List.getElem?_append_left (by omega)] at h2
      exact .inl ⟨k, d, h1, h2⟩
    · rw [List.getElem?_append_right (by omega)] at h1
      rw [List.getElem?_append_right (by omega)] at h2
      have e : k - L.length = 0 := by
        cases q : k - L.length with
        | zero => rfl
        | succ n => rw [q] at h1; simp at h1
      rw [e] at h1
      rw [show k - st.length = 0 by omega] at h2
      simp at h1 h2
      exact .inr ⟨h1.symm, by rw [h2]; simp⟩
  · rintro (⟨k, d, h1, h2⟩ | ⟨rfl, hx⟩)
    · exact ⟨k, d, by rw [List.getElem?_append_left (List.getElem?_eq_some_iff.mp h1).1]; exact h1, by rw [List.getElem?_append_left (List.getElem?_eq_some_iff.mp h2).1]; exact h2⟩
    · cases x with
      | none => exact absurd rfl hx
      | some d => exact ⟨L.length, d, by simp, by rw [hl]; simp⟩
mutual
theorem Den.push {B B' : Addr → Prop} (hb : ∀ b, B' b → H b ≠ none → B b) : ∀ {d : Dt} {v : V}, Den L B H d v → Den (L ++ [p]) B' H d v
  | .non, _, q => by unfold Den at q ⊢; exact q
  | .bl _, _, q => by unfold Den at q ⊢; exact q
  | .int _, _, q => by unfold Den at q ⊢; exact q
  | .str _, _, q => by unfold Den at q ⊢; exact q
  | .ref k, _, q => by
    unfold Den at q ⊢
    obtain ⟨a, e, r⟩ := q
    exact ⟨a, by rw [List.getElem?_append_left (List.getElem?_eq_some_iff.mp e).1]; exact e, r⟩
  | .lst ds, _, q => by
    unfold Den at q ⊢
    obtain ⟨a, vs, r, nb, e, t⟩ := q
    exact ⟨a, vs, r, fun z => nb (hb a z (by rw [e]; simp)), e, Dens.push hb t⟩
  | .tup ds, _, q => by
    unfold Den at q ⊢
    obtain ⟨a, vs, r, e, t⟩ := q
    exact ⟨a, vs, r, e, Dens.push hb t⟩
  | .dic ks ds, _, q => by
    unfold Den at q ⊢
    obtain ⟨a, vs, r, nb, e, el, t⟩ := q
    exact ⟨a, vs, r, fun z => nb (hb a z (rd_ne e)), e, el, Dens.push hb t⟩
theorem Dens.push {B B' : Addr → Prop} (hb : ∀ b, B' b → H b ≠ none → B b) : ∀ {ds : List Dt} {vs : List V}, Dens L B H ds vs → Dens (L ++ [p]) B' H ds vs
  | [], _, q => by unfold Dens at q ⊢; exact q
  | d :: ds, _, q => by
    obtain ⟨v, r, rfl, a, t⟩ := q.uncons
    exact .cons (Den.push hb a) (Dens.push hb t)
end
/-- a new live object -/
theorem Afz.newR (w : Wd T Z L st H) (h : H p = none) {d : Dt} (hd : OwnO L (Bad Z L st) H o d) : Af T Z L st H (L ++ [p]) (st ++ [some d]) (upd H p o) := by
  have hk := same_upd (o := o) h
  have hb : ∀ b, Bad Z (L ++ [p]) (st ++ [some d]) b → H b ≠ none → Bad Z L st b := fun b z n => by
    rcases z with z | z
    · exact .inl z
    · rcases (liv_push w.len).mp z with z | ⟨rfl, _⟩
      · exact .inr z
      · exact absurd h n
  have tr : ∀ ds vs, Dens L (Bad Z L st) H ds vs → Dens (L ++ [p]) (Bad Z (L ++ [p]) (st ++ [some d])) (upd H p o) ds vs := fun ds vs q => (Dens.push hb q).ext hk
  have get : ∀ (k : Nat) (b : Addr) (e : Dt), (L ++ [p])[k]? = some b → (st ++ [some d])[k]? = some (some e) → (k < L.length ∧ L[k]? = some b ∧ st[k]? = some (some e)) ∨ (k = L.length ∧ b = p ∧ e = d) := by
    intro k b e h1 h2
    have hl := w.len
    by_cases hk : k < L.length
    · rw [List.getElem?_append_left hk] at h1
      rw [List.getElem?_append_left (by omega)] at h2
      exact .inl ⟨hk, h1, h2⟩
    · have hk2 : k = L.length := by
        have := (List.getElem?_eq_some_iff.mp h1).1
        simp at this
        omega
      subst hk2
      simp at h1
      rw [hl] at h2
      simp at h2
      exact .inr ⟨rfl, h1.symm, h2.symm⟩
  refine ⟨⟨w.tabs.ext hk, by simp [w.len], fun i j b x y h1 h2 h3 h4 => ?_, fun k b e h1 h2 => ?_, fun b z e => ?_⟩, ⟨[p], rfl⟩, fun b u e _ _ => hk b u e, fun b l => ?_, fun b n e => ?_, fun b xs e => hk b _ e, fun k b hl e => ?_, fun a z => .inl z⟩
  · rcases get i b x h1 h3 with ⟨_, a1, a2⟩ | ⟨i1, i2, _⟩ <;> rcases get j b y h2 h4 with ⟨_, b1, b2⟩ | ⟨j1, j2, _⟩
    · exact w.inj i j b x y a1 b1 a2 b2
    · exact absurd h (by rw [← j2]; exact w.livTrk ⟨i, x, a1, a2⟩)
    · exact absurd h (by rw [← i2]; exact w.livTrk ⟨j, y, b1, b2⟩)
    · omega
  · rcases get k b e h1 h2 with ⟨_, a1, a2⟩ | ⟨_, rfl, rfl⟩
    · obtain ⟨nz, u, eu, q⟩ := w.own k b e a1 a2
      exact ⟨nz, u, hk _ _ eu, q.imp tr⟩
    · exact ⟨fun z => w.zt b z h, o, upd_same, hd.imp tr⟩
  · cases q : H b with
    | none => exact w.zt b z q
    | some u => rw [hk b u q] at e; cases e
  · rcases (liv_push w.len).mp l with z | ⟨rfl, _⟩
    · exact .inl z
    · exact .inr h
  · cases q : H b with
    | none => exact n q
    | some u => rw [hk b u q] at e; cases e
  · have e2 : k = L.length := by
      have := (List.getElem?_eq_some_iff.mp e).1
      simp at this
      omega
    subst e2
    simp at e
    rw [← e]; exact h
/-- a live object is changed -/
theorem Afz.wr (w : Wd T Z L st H) {k : Nat} {d d' : Dt} (h1 : L[k]? = some a) (h2 : st[k]? = some (some d)) (hd : OwnO L (Bad Z L st) H o d') : Af T Z L st H L (st.set k (some d')) (upd H a o) := by
  have hlt : k < st.length := (List.getElem?_eq_some_iff.mp h2).1
  have la : Liv L st a := ⟨k, d, h1, h2⟩
  obtain ⟨nz, oa, ea, qa⟩ := w.own k a d h1 h2
  have tk : ∀ xs, H a ≠ some (.tup xs) := fun xs z => by
    rw [ea] at z
    rcases qa.kind with ⟨ys, e⟩ | ⟨kvs, e⟩ <;> (rw [e] at z; cases z)
  have liv : ∀ b, Liv L (st.set k (some d')) b ↔ Liv L st b := fun b => by
    constructor
    · rintro ⟨j, e, a1, a2⟩
      by_cases hj : k = j
      · subst hj
        rw [h1] at a1; cases a1
        exact la
      · rw [List.getElem?_set_ne hj] at a2
        exact ⟨j, e, a1, a2⟩
    · rintro ⟨j, e, a1, a2⟩
      by_cases hj : k = j
      · subst hj
        exact ⟨k, d', a1, List.getElem?_set_self hlt⟩
      · exact ⟨j, e, a1, by rw [List.getElem?_set_ne hj]; exact a2⟩
  have eb : Bad Z L (st.set k (some d')) = Bad Z L st := by
    funext b
    unfold Bad
    rw [propext (liv b)]
  have tr : ∀ ds vs, Dens L (Bad Z L st) H ds vs → Dens L (Bad Z L (st.set k (some d'))) (upd H a o) ds vs := fun ds vs q => by
    rw [eb]
    exact Dens.chg (.inr la) tk q
  refine ⟨⟨tabs_upd w.tabs fun u e => by rw [ea] at e; cases e; exact qa.kind, by rw [List.length_set]; exact w.len, fun i j b x y a1 a2 a3 a4 => ?_, fun j b e a1 a2 => ?_, fun b z e => ?_⟩, ⟨[], by simp⟩, fun b u e nl _ => ?_, fun b l => .inl ((liv b).mp l), fun b n e => ?_, fun b xs e => ?_, fun k b h e => absurd (List.getElem?_eq_some_iff.mp e).1 (by omega), fun a z => .inl z⟩
  · have f : ∀ (i : Nat) x, L[i]? = some b → (st.set k (some d'))[i]? = some (some x) → ∃ x', st[i]? = some (some x') := fun i x c1 c2 => by
      by_cases hj : k = i
      · subst hj; exact ⟨d, h2⟩
      · rw [List.getElem?_set_ne hj] at c2; exact ⟨x, c2⟩
    obtain ⟨x', c1⟩ := f i x a1 a3
    obtain ⟨y', c2⟩ := f j y a2 a4
    exact w.inj i j b x' y' a1 a2 c1 c2
  · by_cases hj : k = j
    · subst hj
      rw [h1] at a1; cases a1
      rw [List.getElem?_set_self hlt] at a2
      cases a2
      exact ⟨nz, o, upd_same, hd.imp tr⟩
    · rw [List.getElem?_set_ne hj] at a2
      obtain ⟨nz', u, eu, q⟩ := w.own j b e a1 a2
      have nb : b ≠ a := fun z => by
        subst z
        exact hj (w.inj k j b d e h1 a1 h2 a2)
      exact ⟨nz', u, by rw [upd_ne nb]; exact eu, q.imp tr⟩
  · have nb : b ≠ a := fun y => nz (by rw [← y]; exact z)
    rw [upd_ne nb] at e
    exact w.zt b z e
  · have nb : b ≠ a := fun y => nl (by rw [y]; exact la)
    rw [upd_ne nb]; exact e
  · by_cases hb : b = a
    · rw [hb, upd_same] at e; cases e
    · rw [upd_ne hb] at e; exact n e
  · have nb : b ≠ a := fun y => tk xs (by rw [← y]; exact e)
    rw [upd_ne nb]; exact e
/-- a live object is left to be: from now on it is read by value -/
theorem Wd.frz (w : Wd T Z L st H) {k : Nat} {d : Dt} (h1 : L[k]? = some a) (h2 : st[k]? = some (some d)) : Af T Z L st H L (st.set k none) H ∧ Den L (Bad Z L (st.set k none)) H d (.ref a) := by
  have liv : ∀ b, Liv L (st.set k none) b → Liv L st b ∧ b ≠ a := fun b => by
    rintro ⟨j, e, a1, a2⟩
    by_cases hj : k = j
    · subst hj
      rw [List.getElem?_set] at a2
      rw [if_pos rfl] at a2
      split at a2 <;> cases a2
    · rw [List.getElem?_set_ne hj] at a2
      refine ⟨⟨j, e, a1, a2⟩, fun z => hj ?_⟩
      subst z
      exact w.inj k j b d e h1 a1 h2 a2
  have hb : ∀ b, Bad Z L (st.set k none) b → Bad Z L st b := fun b z => z.elim .inl fun z => .inr (liv b z).1
  have tr : ∀ ds vs, Dens L (Bad Z L st) H ds vs → Dens L (Bad Z L (st.set k none)) H ds vs := fun ds vs q => q.mono hb
  refine ⟨⟨⟨w.tabs, by rw [List.length_set]; exact w.len, fun i j b x y a1 a2 a3 a4 => ?_, fun j b e a1 a2 => ?_, w.zt⟩, ⟨[], by simp⟩, fun b u e _ _ => e, fun b l => .inl (liv b l).1, fun b n => n, fun b xs e => e, fun k b h e => absurd (List.getElem?_eq_some_iff.mp e).1 (by omega), fun a z => .inl z⟩, ?_⟩
  · have f : ∀ (i : Nat) x, (st.set k none)[i]? = some (some x) → st[i]? = some (some x) := fun i x c => by
      by_cases hj : k = i
      · subst hj
        rw [List.getElem?_set, if_pos rfl] at c
        split at c <;> cases c
      · rw [List.getElem?_set_ne hj] at c; exact c
    exact w.inj i j b x y a1 a2 (f i x a3) (f j y a4)
  · by_cases hj : k = j
    · subst hj
      rw [List.getElem?_set, if_pos rfl] at a2
      split at a2 <;> cases a2
    · rw [List.getElem?_set_ne hj] at a2
      obtain ⟨nz', u, eu, q⟩ := w.own j b e a1 a2
      exact ⟨nz', u, eu, q.imp tr⟩
  · obtain ⟨nz, oa, ea, qa⟩ := w.own k a d h1 h2
    have nb : ¬ Bad Z L (st.set k none) a := fun z => z.elim nz fun z => (liv a z).2 rfl
    cases d with
    | lst ds =>
      obtain ⟨vs, rfl, t⟩ := qa
      unfold Den
      exact ⟨a, vs, rfl, nb, ea, tr _ _ t⟩
    | dic ks ds =>
      obtain ⟨vs, rfl, el, t⟩ := qa
      unfold Den
      exact ⟨a, vs, rfl, nb, .inl ea, el, tr _ _ t⟩
    | _ => exact False.elim qa
end
end HB

set_option Elab.async false
set_option linter.all false
set_option maxRecDepth 100000
set_option maxHeartbeats 1000000
/-! HB, part c: the readings of expressions, tests, arguments, statements told by plain functions. -/
namespace HB
open PySem PySem.Spec PyProof.Rows L2

abbrev Evr := List (Option Dt)
def EnvOk (L : List Addr) (B : Addr → Prop) (H : Hp) (r : Evr) (s : L2.St) : Prop := r.length = s.length ∧ ∀ (i : Nat) (d : Dt), r[i]? = some (some d) → ∃ v, s[i]? = some (some v) ∧ Den L B H d v
abbrev SE := Evr → Sto → Option (Dt × Sto)
abbrev ST := Evr → Sto → Option (Bool × Sto)
abbrev SA := Evr → Sto → Option (List Dt × Sto)
inductive Ou where
  | nx (r : Evr) (st : Sto) | rt (d : Dt) (st : Sto) | bk (r : Evr) (st : Sto) | ct (r : Evr) (st : Sto)
abbrev SS := Evr → Sto → Option Ou

def SimE (T : List (Addr × Str)) (t : TE) (f : SE) : Prop := ∀ Z L st H s r d st' (Q : VK), Wd T Z L st H → EnvOk L (Bad Z L st) H r s → f r st = some (d, st') →
  (∀ v H' L', Af T Z L st H L' st' H' → Den L' (Bad Z L' st') H' d v → Q v H') → t s H Q
def SimT (T : List (Addr × Str)) (t : TT) (f : ST) : Prop := ∀ Z L st H s r b st' (Q : Bool → Hp → Prop), Wd T Z L st H → EnvOk L (Bad Z L st) H r s → f r st = some (b, st') →
  (∀ H' L', Af T Z L st H L' st' H' → Q b H') → t s H Q
def SimA (T : List (Addr × Str)) (t : TA) (f : SA) : Prop := ∀ Z L st H s r ds st' (Q : List V → Hp → Prop), Wd T Z L st H → EnvOk L (Bad Z L st) H r s → f r st = some (ds, st') →
  (∀ vs H' L', Af T Z L st H L' st' H' → Dens L' (Bad Z L' st') H' ds vs → Q vs H') → t s H Q
def OuOk (T : List (Addr × Str)) (Z : Addr → Prop) (L : List Addr) (st : Sto) (H : Hp) (D : Ends) : Ou → Prop
  | .nx r st' => ∀ s H' L', Af T Z L st H L' st' H' → EnvOk L' (Bad Z L' st') H' r s → D.nx s H'
  | .rt d st' => ∀ v H' L', Af T Z L st H L' st' H' → Den L' (Bad Z L' st') H' d v → D.rt v H'
  | .bk r st' => ∀ s H' L', Af T Z L st H L' st' H' → EnvOk L' (Bad Z L' st') H' r s → D.bk s H'
  | .ct r st' => ∀ s H' L', Af T Z L st H L' st' H' → EnvOk L' (Bad Z L' st') H' r s → D.ct s H'
def SimS (T : List (Addr × Str)) (t : TS) (g : SS) : Prop := ∀ Z L st H s r o D, Wd T Z L st H → EnvOk L (Bad Z L st) H r s → g r st = some o → OuOk T Z L st H D o → t D s H
/-- operators, calls, methods by values -/
def VO2 (T : List (Addr × Str)) (r : R2) (g : Sto → Dt → Dt → Option (Dt × Sto)) : Prop := ∀ Z L st H x y dx dy d st' (Q : VK), Wd T Z L st H → Den L (Bad Z L st) H dx x → Den L (Bad Z L st) H dy y → g st dx dy = some (d, st') →
  (∀ v H' L', Af T Z L st H L' st' H' → Den L' (Bad Z L' st') H' d v → Q v H') → r x y H Q
def VON (T : List (Addr × Str)) (r : List V → Hp → VK → Prop) (g : Sto → List Dt → Option (Dt × Sto)) : Prop := ∀ Z L st H xs dxs d st' (Q : VK), Wd T Z L st H → Dens L (Bad Z L st) H dxs xs → g st dxs = some (d, st') →
  (∀ v H' L', Af T Z L st H L' st' H' → Den L' (Bad Z L' st') H' d v → Q v H') → r xs H Q
def VOM (T : List (Addr × Str)) (r : V → List V → Hp → VK → Prop) (g : Sto → Dt → List Dt → Option (Dt × Sto)) : Prop := ∀ Z L st H x xs dx dxs d st' (Q : VK), Wd T Z L st H → Den L (Bad Z L st) H dx x → Dens L (Bad Z L st) H dxs xs → g st dx dxs = some (d, st') →
  (∀ v H' L', Af T Z L st H L' st' H' → Den L' (Bad Z L' st') H' d v → Q v H') → r x xs H Q

section
variable {T : List (Addr × Str)} {Z : Addr → Prop} {L L' : List Addr} {st st' : Sto} {H H' : Hp} {r : Evr} {s : L2.St}
theorem EnvOk.keep {Z' : Addr → Prop} (h : Afz T Z L st H Z' L' st' H') (e : EnvOk L (Bad Z L st) H r s) : EnvOk L' (Bad Z' L' st') H' r s :=
  ⟨e.1, fun i d q => by obtain ⟨v, h1, h2⟩ := e.2 i d q; exact ⟨v, h1, h2.keep h⟩⟩
theorem EnvOk.set {B : Addr → Prop} {d : Dt} {v : V} (e : EnvOk L B H r s) (i : Nat) (q : Den L B H d v) : EnvOk L B H (r.set i (some d)) (s.set i (some v)) := by
  refine ⟨by rw [List.length_set, List.length_set]; exact e.1, fun j d' h => ?_⟩
  by_cases hj : i = j
  · subst hj
    by_cases hi : i < r.length
    · rw [List.getElem?_set_self hi] at h
      cases h
      exact ⟨v, List.getElem?_set_self (by rw [← e.1]; exact hi), q⟩
    · rw [List.getElem?_eq_none (by rw [List.length_set]; omega)] at h; cases h
  · rw [List.getElem?_set_ne hj] at h
    obtain ⟨u, h1, h2⟩ := e.2 j d' h
    exact ⟨u, by rw [List.getElem?_set_ne hj]; exact h1, h2⟩
end

/-! ### expressions -/
def eVar (i : Nat) : SE := fun r st => match r[i]? with
  | some (some d) => some (d, st)
  | _ => none
def eC (d : Dt) : SE := fun _ st => some (d, st)
def eOp2 (g : Sto → Dt → Dt → Option (Dt × Sto)) (fa fb : SE) : SE := fun r st => (fa r st).bind fun x => (fb r x.2).bind fun y => g y.2 x.1 y.1
def aNil : SA := fun _ st => some ([], st)
def aCons (fa : SE) (fr : SA) : SA := fun r st => (fa r st).bind fun x => (fr r x.2).bind fun y => some (x.1 :: y.1, y.2)
def eN (g : Sto → List Dt → Option (Dt × Sto)) (fa : SA) : SE := fun r st => (fa r st).bind fun x => g x.2 x.1
def eIf (c : ST) (fa fb : SE) : SE := fun r st => (c r st).bind fun b => if b.1 = true then fa r b.2 else fb r b.2
def eChain (g g' : Sto → Dt → Dt → Option (Dt × Sto)) (fa fb fc : SE) : SE := fun r st => (fa r st).bind fun x => (fb r x.2).bind fun y => (g y.2 x.1 y.1).bind fun z => match z.1 with
  | .bl true => (fc r z.2).bind fun w => g' w.2 y.1 w.1
  | .bl false => some (.bl false, z.2)
  | _ => none
def eAndV (fa fb : SE) : SE := fun r st => (fa r st).bind fun x => match x.1 with
  | .bl true => fb r x.2
  | .bl false => some (.bl false, x.2)
  | _ => none
def eOrV (fa fb : SE) : SE := fun r st => (fa r st).bind fun x => match x.1 with
  | .bl false => fb r x.2
  | .bl true => some (.bl true, x.2)
  | _ => none
def eNotV (fa : SE) : SE := fun r st => (fa r st).bind fun x => match x.1 with
  | .bl b => some (.bl (!b), x.2)
  | _ => none
def cB (fa : SE) : ST := fun r st => (fa r st).bind fun x => match x.1 with
  | .bl b => some (b, x.2)
  | _ => none
def cAnd (c e : ST) : ST := fun r st => (c r st).bind fun b => if b.1 = true then e r b.2 else some (false, b.2)
def cOr (c e : ST) : ST := fun r st => (c r st).bind fun b => if b.1 = true then some (true, b.2) else e r b.2
def cNot (c : ST) : ST := fun r st => (c r st).bind fun b => some (!b.1, b.2)
def cYes : ST := fun _ st => some (true, st)

theorem bind_some' {α β : Type} {x : Option α} {f : α → Option β} {b : β} (h : x.bind f = some b) : ∃ a, x = some a ∧ f a = some b := by
  cases x with
  | none => cases h
  | some a => exact ⟨a, rfl, h⟩
section
variable {T : List (Addr × Str)} {ta tb tc : TE} {fa fb fc : SE}
theorem sim_var {i : Nat} : SimE T (tVar i) (eVar i) := by
  intro Z L st H s r d st' Q w e h q
  unfold eVar at h
  split at h
  · rename_i d' hd
    cases h
    obtain ⟨v, h1, h2⟩ := e.2 i _ hd
    exact ⟨v, h1, q v H L (.refl w) h2⟩
  · cases h
theorem sim_C {d : Dt} {v : V} (hd : ∀ L B H, Den L B H d v) : SimE T (tC v) (eC d) := by
  intro Z L st H s r d' st' Q w e h q
  cases h
  exact q v H L (.refl w) (hd _ _ _)
theorem sim_int {i : Int} : SimE T (tC (.int i)) (eC (.int i)) := sim_C fun _ _ _ => by unfold Den; rfl
theorem sim_str {x : Str} : SimE T (tC (.str x)) (eC (.str x)) := sim_C fun _ _ _ => by unfold Den; rfl
theorem sim_bl {b : Bool} : SimE T (tC (.bl b)) (eC (.bl b)) := sim_C fun _ _ _ => by unfold Den; rfl
theorem sim_non : SimE T (tC .non) (eC .non) := sim_C fun _ _ _ => by unfold Den; rfl
theorem sim_op {r : R2} {g : Sto → Dt → Dt → Option (Dt × Sto)} (ha : SimE T ta fa) (hb : SimE T tb fb) (ho : VO2 T r g) : SimE T (tOp r ta tb) (eOp2 g fa fb) := by
  intro Z L st H s rr d st' Q w e h q
  obtain ⟨⟨dx, st1⟩, h1, h⟩ := bind_some' h
  obtain ⟨⟨dy, st2⟩, h2, h⟩ := bind_some' h
  refine ha Z L st H s rr dx st1 _ w e h1 fun x H1 L1 f1 p1 => ?_
  refine hb Z L1 st1 H1 s rr dy st2 _ f1.wd (e.keep f1) h2 fun y H2 L2 f2 p2 => ?_
  exact ho Z L2 st2 H2 x y dx dy d st' Q f2.wd (p1.keep f2) p2 h fun v H3 L3 f3 p3 => q v H3 L3 (f1.trans (f2.trans f3)) p3
theorem sim_nil : SimA T tNil aNil := by
  intro Z L st H s r d st' Q w e h q
  cases h
  exact q [] H L (.refl w) .nil
theorem sim_cons {tr : TA} {fr : SA} (ha : SimE T ta fa) (hr : SimA T tr fr) : SimA T (tCons ta tr) (aCons fa fr) := by
  intro Z L st H s rr d st' Q w e h q
  obtain ⟨⟨dx, st1⟩, h1, h⟩ := bind_some' h
  obtain ⟨⟨dy, st2⟩, h2, h⟩ := bind_some' h
  cases h
  refine ha Z L st H s rr dx st1 _ w e h1 fun x H1 L1 f1 p1 => ?_
  refine hr Z L1 st1 H1 s rr dy st2 _ f1.wd (e.keep f1) h2 fun y H2 L2 f2 p2 => ?_
  exact q _ H2 L2 (f1.trans f2) (.cons (p1.keep f2) p2)
theorem sim_N {t : TA} {f : SA} {r : List V → Hp → VK → Prop} {g : Sto → List Dt → Option (Dt × Sto)} (ha : SimA T t f) (ho : VON T r g) : SimE T (tCB r t) (eN g f) := by
  intro Z L st H s rr d st' Q w e h q
  obtain ⟨⟨dx, st1⟩, h1, h⟩ := bind_some' h
  refine ha Z L st H s rr dx st1 _ w e h1 fun x H1 L1 f1 p1 => ?_
  exact ho Z L1 st1 H1 x dx d st' Q f1.wd p1 h fun v H3 L3 f3 p3 => q v H3 L3 (f1.trans f3) p3
theorem sim_if {t : TT} {c : ST} (hc : SimT T t c) (ha : SimE T ta fa) (hb : SimE T tb fb) : SimE T (tIf t ta tb) (eIf c fa fb) := by
  intro Z L st H s rr d st' Q w e h q
  obtain ⟨⟨b, st1⟩, h1, h⟩ := bind_some' h
  refine hc Z L st H s rr b st1 _ w e h1 fun H1 L1 f1 => ?_
  cases b with
  | true => exact ha Z L1 st1 H1 s rr d st' Q f1.wd (e.keep f1) h fun v H3 L3 f3 p3 => q v H3 L3 (f1.trans f3) p3
  | false => exact hb Z L1 st1 H1 s rr d st' Q f1.wd (e.keep f1) h fun v H3 L3 f3 p3 => q v H3 L3 (f1.trans f3) p3
theorem den_bl {L : List Addr} {B : Addr → Prop} {H : Hp} {b : Bool} {v : V} (h : Den L B H (.bl b) v) : v = .bl b := by unfold Den at h; exact h
theorem den_int {L : List Addr} {B : Addr → Prop} {H : Hp} {b : Int} {v : V} (h : Den L B H (.int b) v) : v = .int b := by unfold Den at h; exact h
theorem den_str {L : List Addr} {B : Addr → Prop} {H : Hp} {b : Str} {v : V} (h : Den L B H (.str b) v) : v = .str b := by unfold Den at h; exact h
theorem den_non {L : List Addr} {B : Addr → Prop} {H : Hp} {v : V} (h : Den L B H .non v) : v = .non := by unfold Den at h; exact h
theorem Den.int {L : List Addr} {B : Addr → Prop} {H : Hp} {i : Int} : Den L B H (.int i) (.int i) := by unfold Den; rfl
theorem Den.str {L : List Addr} {B : Addr → Prop} {H : Hp} {i : Str} : Den L B H (.str i) (.str i) := by unfold Den; rfl
theorem Den.bl {L : List Addr} {B : Addr → Prop} {H : Hp} {i : Bool} : Den L B H (.bl i) (.bl i) := by unfold Den; rfl
theorem Den.non {L : List Addr} {B : Addr → Prop} {H : Hp} : Den L B H .non .non := by unfold Den; rfl
theorem sim_chain {r r' : R2} {g g' : Sto → Dt → Dt → Option (Dt × Sto)} (ho : VO2 T r g) (ho' : VO2 T r' g') (ha : SimE T ta fa) (hb : SimE T tb fb) (hc : SimE T tc fc) : SimE T (tChain r r' ta tb tc) (eChain g g' fa fb fc) := by
  intro Z L st H s rr d st' Q w e h q
  obtain ⟨⟨dx, st1⟩, h1, h⟩ := bind_some' h
  obtain ⟨⟨dy, st2⟩, h2, h⟩ := bind_some' h
  obtain ⟨⟨dz, st3⟩, h3, h⟩ := bind_some' h
  refine ha Z L st H s rr dx st1 _ w e h1 fun x H1 L1 f1 p1 => ?_
  refine hb Z L1 st1 H1 s rr dy st2 _ f1.wd (e.keep f1) h2 fun y H2 L2 f2 p2 => ?_
  refine ho Z L2 st2 H2 x y dx dy dz st3 _ f2.wd (p1.keep f2) p2 h3 fun v H3 L3 f3 p3 => ?_
  cases dz with
  | bl b =>
    refine ⟨b, den_bl p3, ?_⟩
    cases b with
    | false =>
      cases h
      exact iteF (q _ H3 L3 (f1.trans (f2.trans f3)) Den.bl)
    | true =>
      obtain ⟨⟨dw, st4⟩, h4, h⟩ := bind_some' h
      refine iteT (hc Z L3 st3 H3 s rr dw st4 _ f3.wd (((e.keep f1).keep f2).keep f3) h4 fun u H4 L4 f4 p4 => ?_)
      exact ho' Z L4 st4 H4 y u dy dw d st' Q f4.wd ((p2.keep f3).keep f4) p4 h fun v H5 L5 f5 p5 => q v H5 L5 (f1.trans (f2.trans (f3.trans (f4.trans f5)))) p5
  | _ => cases h
theorem sim_andV (ha : SimE T ta fa) (hb : SimE T tb fb) : SimE T (tAndV ta tb) (eAndV fa fb) := by
  intro Z L st H s rr d st' Q w e h q
  obtain ⟨⟨dx, st1⟩, h1, h⟩ := bind_some' h
  refine ha Z L st H s rr dx st1 _ w e h1 fun x H1 L1 f1 p1 => ?_
  cases dx with
  | bl b =>
    refine ⟨b, den_bl p1, ?_⟩
    cases b with
    | false => cases h; exact iteF (q _ H1 L1 f1 Den.bl)
    | true => exact iteT (hb Z L1 st1 H1 s rr d st' Q f1.wd (e.keep f1) h fun v H3 L3 f3 p3 => q v H3 L3 (f1.trans f3) p3)
  | _ => cases h
theorem sim_orV (ha : SimE T ta fa) (hb : SimE T tb fb) : SimE T (tOrV ta tb) (eOrV fa fb) := by
  intro Z L st H s rr d st' Q w e h q
  obtain ⟨⟨dx, st1⟩, h1, h⟩ := bind_some' h
  refine ha Z L st H s rr dx st1 _ w e h1 fun x H1 L1 f1 p1 => ?_
  cases dx with
  | bl b =>
    refine ⟨b, den_bl p1, ?_⟩
    cases b with
    | true => cases h; exact iteT (q _ H1 L1 f1 Den.bl)
    | false => exact iteF (hb Z L1 st1 H1 s rr d st' Q f1.wd (e.keep f1) h fun v H3 L3 f3 p3 => q v H3 L3 (f1.trans f3) p3)
  | _ => cases h
theorem sim_notV (ha : SimE T ta fa) : SimE T (tNotV ta) (eNotV fa) := by
  intro Z L st H s rr d st' Q w e h q
  obtain ⟨⟨dx, st1⟩, h1, h⟩ := bind_some' h
  refine ha Z L st H s rr dx st1 _ w e h1 fun x H1 L1 f1 p1 => ?_
  cases dx with
  | bl b => cases h; exact ⟨b, den_bl p1, q _ H1 L1 f1 Den.bl⟩
  | _ => cases h
theorem sim_cB (ha : SimE T ta fa) : SimT T (tB ta) (cB fa) := by
  intro Z L st H s rr d st' Q w e h q
  obtain ⟨⟨dx, st1⟩, h1, h⟩ := bind_some' h
  refine ha Z L st H s rr dx st1 _ w e h1 fun x H1 L1 f1 p1 => ?_
  cases dx with
  | bl b => cases h; exact ⟨_, den_bl p1, q H1 L1 f1⟩
  | _ => cases h
theorem sim_cBT (ha : SimE T ta fa) : SimT T (tTest ta) (cB fa) := sim_cB ha
theorem sim_and {t u : TT} {c e : ST} (hc : SimT T t c) (he : SimT T u e) : SimT T (tAnd t u) (cAnd c e) := by
  intro Z L st H s rr d st' Q w ev h q
  obtain ⟨⟨b, st1⟩, h1, h⟩ := bind_some' h
  refine hc Z L st H s rr b st1 _ w ev h1 fun H1 L1 f1 => ?_
  cases b with
  | true => exact iteT (he Z L1 st1 H1 s rr d st' Q f1.wd (ev.keep f1) h fun H3 L3 f3 => q H3 L3 (f1.trans f3))
  | false => cases h; exact iteF (q H1 L1 f1)
theorem sim_or {t u : TT} {c e : ST} (hc : SimT T t c) (he : SimT T u e) : SimT T (tOr t u) (cOr c e) := by
  intro Z L st H s rr d st' Q w ev h q
  obtain ⟨⟨b, st1⟩, h1, h⟩ := bind_some' h
  refine hc Z L st H s rr b st1 _ w ev h1 fun H1 L1 f1 => ?_
  cases b with
  | true => cases h; exact iteT (q H1 L1 f1)
  | false => exact iteF (he Z L1 st1 H1 s rr d st' Q f1.wd (ev.keep f1) h fun H3 L3 f3 => q H3 L3 (f1.trans f3))
theorem sim_not {t : TT} {c : ST} (hc : SimT T t c) : SimT T (tNot t) (cNot c) := by
  intro Z L st H s rr d st' Q w ev h q
  obtain ⟨⟨b, st1⟩, h1, h⟩ := bind_some' h
  cases h
  exact hc Z L st H s rr b st1 _ w ev h1 fun H1 L1 f1 => q H1 L1 f1
theorem sim_yes : SimT T tYes cYes := by
  intro Z L st H s rr d st' Q w ev h q
  cases h
  exact q H L (.refl w)
end

/-! ### statements -/
def sNx : SS := fun r st => some (.nx r st)
def sBk : SS := fun r st => some (.bk r st)
def sCt : SS := fun r st => some (.ct r st)
def sRet (f : SE) : SS := fun r st => (f r st).bind fun x => some (.rt x.1 x.2)
def sRetN : SS := fun _ st => some (.rt .non st)
def sEx (f : SE) : SS := fun r st => (f r st).bind fun x => some (.nx r x.2)
def sSet (i : Nat) (f : SE) : SS := fun r st => (f r st).bind fun x => some (.nx (r.set i (some x.1)) x.2)
def sSeq (g k : SS) : SS := fun r st => (g r st).bind fun o => match o with
  | .nx r' st' => k r' st'
  | o => some o
def sIf (c : ST) (g k : SS) : SS := fun r st => (c r st).bind fun b => if b.1 = true then g r b.2 else k r b.2
def sNo : SS := fun _ _ => none
def sWh (c : ST) (g : SS) : Nat → SS
  | 0 => fun _ _ => none
  | n + 1 => fun r st => (c r st).bind fun b => if b.1 = true then (g r b.2).bind fun o => match o with
      | .nx r' st' => sWh c g n r' st'
      | .ct r' st' => sWh c g n r' st'
      | .bk r' st' => some (.nx r' st')
      | .rt d st' => some (.rt d st')
    else some (.nx r b.2)
/-- an object in the slot i is left to be -/
def sFrz (i : Nat) : SS := fun r st => match r[i]? with
  | some (some (.ref k)) => (match st[k]? with
    | some (some d) => some (.nx (r.set i (some d)) (st.set k none))
    | _ => none)
  | _ => none
section
variable {T : List (Addr × Str)} {ta tb tc : TE} {fa fb fc : SE}
theorem OuOk.after {Z : Addr → Prop} {L L1 : List Addr} {st st1 : Sto} {H H1 : Hp} {D : Ends} {o : Ou} (f : Af T Z L st H L1 st1 H1) (h : OuOk T Z L st H D o) : OuOk T Z L1 st1 H1 D o := by
  cases o with
  | nx r st' => exact fun s H' L' g e => h s H' L' (f.trans g) e
  | rt d st' => exact fun s H' L' g e => h s H' L' (f.trans g) e
  | bk r st' => exact fun s H' L' g e => h s H' L' (f.trans g) e
  | ct r st' => exact fun s H' L' g e => h s H' L' (f.trans g) e
theorem sim_nx : SimS T tNext sNx := by
  intro Z L st H s r o D w e h q
  cases h
  exact q s H L (.refl w) e
theorem sim_break : SimS T tBreak sBk := by
  intro Z L st H s r o D w e h q
  cases h
  exact q s H L (.refl w) e
theorem sim_cont : SimS T tCont sCt := by
  intro Z L st H s r o D w e h q
  cases h
  exact q s H L (.refl w) e
theorem sim_never : SimS T tNever sNo := by
  intro Z L st H s r o D w e h q
  cases h
theorem sim_ret (ha : SimE T ta fa) : SimS T (tRet ta) (sRet fa) := by
  intro Z L st H s r o D w e h q
  obtain ⟨⟨dx, st1⟩, h1, h⟩ := bind_some' h
  cases h
  exact ha Z L st H s r dx st1 _ w e h1 fun v H1 L1 f1 p1 => q v H1 L1 f1 p1
theorem sim_retN : SimS T tRetN sRetN := by
  intro Z L st H s r o D w e h q
  cases h
  exact q .non H L (.refl w) Den.non
theorem sim_ex (ha : SimE T ta fa) : SimS T (tDrop ta) (sEx fa) := by
  intro Z L st H s r o D w e h q
  obtain ⟨⟨dx, st1⟩, h1, h⟩ := bind_some' h
  cases h
  exact ha Z L st H s r dx st1 _ w e h1 fun v H1 L1 f1 p1 => q s H1 L1 f1 (e.keep f1)
theorem sim_set {i : Nat} (ha : SimE T ta fa) : SimS T (tAsg ta (gName i)) (sSet i fa) := by
  intro Z L st H s r o D w e h q
  obtain ⟨⟨dx, st1⟩, h1, h⟩ := bind_some' h
  cases h
  exact ha Z L st H s r dx st1 _ w e h1 fun v H1 L1 f1 p1 => q _ H1 L1 f1 ((e.keep f1).set i p1)
theorem sim_seq {t u : TS} {g k : SS} (h1 : SimS T t g) (h2 : SimS T u k) : SimS T (tSeq t u) (sSeq g k) := by
  intro Z L st H s r o D w e h q
  obtain ⟨o1, a1, h⟩ := bind_some' h
  refine h1 Z L st H s r o1 _ w e a1 ?_
  cases o1 with
  | nx r' st' => exact fun s1 H1 L1 f1 e1 => h2 Z L1 st' H1 s1 r' o D f1.wd e1 h (q.after f1)
  | rt d st' => cases h; exact q
  | bk r' st' => cases h; exact q
  | ct r' st' => cases h; exact q
theorem sim_ifS {t : TT} {c : ST} {u v : TS} {g k : SS} (hc : SimT T t c) (h1 : SimS T u g) (h2 : SimS T v k) : SimS T (tIfS t u v) (sIf c g k) := by
  intro Z L st H s r o D w e h q
  obtain ⟨⟨b, st1⟩, a1, h⟩ := bind_some' h
  refine hc Z L st H s r b st1 _ w e a1 fun H1 L1 f1 => ?_
  cases b with
  | true => exact iteT (h1 Z L1 st1 H1 s r o D f1.wd (e.keep f1) h (q.after f1))
  | false => exact iteF (h2 Z L1 st1 H1 s r o D f1.wd (e.keep f1) h (q.after f1))
theorem sim_wh {t : TT} {c : ST} {u : TS} {g : SS} (hc : SimT T t c) (hb : SimS T u g) (n : Nat) : SimS T (tWhile t u) (sWh c g n) := by
  intro Z L st H s r o D w e h q
  refine ⟨fun m s1 H1 => ∃ L1 st1 r1, Af T Z L st H L1 st1 H1 ∧ EnvOk L1 (Bad Z L1 st1) H1 r1 s1 ∧ sWh c g m r1 st1 = some o, ⟨n, L, st, r, .refl w, e, h⟩, ?_⟩
  rintro m s1 H1 ⟨L1, st1, r1, f1, e1, h1⟩
  cases m with
  | zero => cases h1
  | succ m =>
    obtain ⟨⟨b, st2⟩, a1, h2⟩ := bind_some' h1
    refine hc Z L1 st1 H1 s1 r1 b st2 _ f1.wd e1 a1 fun H2 L2 f2 => ?_
    cases b with
    | false =>
      rw [if_neg (by simp)] at h2
      cases h2
      exact iteF (q s1 H2 L2 (f1.trans f2) (e1.keep f2))
    | true =>
      rw [if_pos rfl] at h2
      obtain ⟨o1, a2, h3⟩ := bind_some' h2
      refine iteT ⟨fun s3 H3 => ∃ L3 st3 r3, Af T Z L st H L3 st3 H3 ∧ EnvOk L3 (Bad Z L3 st3) H3 r3 s3 ∧ sWh c g m r3 st3 = some o, fun s3 H3 x => ⟨m, Nat.lt_succ_self _, x⟩, ?_⟩
      refine hb Z L2 st2 H2 s1 r1 o1 _ f2.wd (e1.keep f2) a2 ?_
      cases o1 with
      | nx r' st' => exact fun s3 H3 L3 f3 e3 => ⟨L3, st', r', f1.trans (f2.trans f3), e3, h3⟩
      | ct r' st' => exact fun s3 H3 L3 f3 e3 => ⟨L3, st', r', f1.trans (f2.trans f3), e3, h3⟩
      | bk r' st' => cases h3; exact fun s3 H3 L3 f3 e3 => q s3 H3 L3 (f1.trans (f2.trans f3)) e3
      | rt d st' => cases h3; exact fun v H3 L3 f3 e3 => q v H3 L3 (f1.trans (f2.trans f3)) e3
/-- a ghost step ahead of a statement -/
theorem sim_frz {t : TS} {g : SS} {i : Nat} (h1 : SimS T t g) : SimS T t (sSeq (sFrz i) g) := by
  intro Z L st H s r o D w e h q
  obtain ⟨o1, a1, h⟩ := bind_some' h
  unfold sFrz at a1
  split at a1
  · rename_i k hk
    split at a1
    · rename_i d hd
      cases a1
      obtain ⟨v, v1, v2⟩ := e.2 i _ hk
      unfold Den at v2
      obtain ⟨a, la, rfl⟩ := v2
      obtain ⟨f, p⟩ := w.frz la hd
      refine h1 Z L (st.set k none) H s (r.set i (some d)) o D f.wd ?_ h (q.after f)
      have e2 := (e.keep f).set i p
      have e3 : s.set i (some (.ref a)) = s := by
        apply List.ext_getElem?
        intro j
        by_cases hj : i = j
        · subst hj
          rw [List.getElem?_set_self (List.getElem?_eq_some_iff.mp v1).1, v1]
        · rw [List.getElem?_set_ne hj]
      rw [e3] at e2
      exact e2
    · cases a1
  · cases a1
end
end HB

set_option Elab.async false
set_option linter.all false
set_option maxRecDepth 100000
set_option maxHeartbeats 1000000
/-! HB, part d: what is walked; for, comprehensions; defs. -/
namespace HB
open PySem PySem.Spec PyProof.Rows L2

/-- the walk gives the items one by one, in every later world -/
def WalkD (T : List (Addr × Str)) (Z : Addr → Prop) (L : List Addr) (st : Sto) (H : Hp) (J : It) (xs : List Dt) : Prop := ∀ Z1 L1 st1 H1, Afz T Z L st H Z1 L1 st1 H1 →
  J.stop xs.length H1 ∧ ∀ (i : Nat) (d : Dt), xs[i]? = some d → J.go i H1 ∧ ∀ x H2, J.yld i H1 x H2 → Afz T Z1 L1 st1 H1 Z1 L1 st1 H2 ∧ Den L1 (Bad Z1 L1 st1) H2 d x
def SimI (T : List (Addr × Str)) (t : TI) (f : SA) : Prop := ∀ Z L st H s r xs st' (Q : It → Hp → Prop), Wd T Z L st H → EnvOk L (Bad Z L st) H r s → f r st = some (xs, st') →
  (∀ J H' L', Af T Z L st H L' st' H' → WalkD T Z L' st' H' J xs → Q J H') → t s H Q
section
variable (T : List (Addr × Str)) (Z : Addr → Prop) (L : List Addr) (st : Sto) (H : Hp) (s : L2.St) (r : Evr)
/-- the same at one world -/
def EAt (t : TE) (f : SE) : Prop := ∀ d st' (Q : VK), f r st = some (d, st') → (∀ v H' L', Af T Z L st H L' st' H' → Den L' (Bad Z L' st') H' d v → Q v H') → t s H Q
def IAt (t : TI) (f : SA) : Prop := ∀ xs st' (Q : It → Hp → Prop), f r st = some (xs, st') → (∀ J H' L', Af T Z L st H L' st' H' → WalkD T Z L' st' H' J xs → Q J H') → t s H Q
end
theorem SimI.at {T : List (Addr × Str)} {t : TI} {f : SA} (h : SimI T t f) {Z : Addr → Prop} {L : List Addr} {st : Sto} {H : Hp} {s : L2.St} {r : Evr} (w : Wd T Z L st H) (e : EnvOk L (Bad Z L st) H r s) : IAt T Z L st H s r t f := fun xs st' Q a q => h Z L st H s r xs st' Q w e a q
/-- targets: is, the slots that may be set -/
abbrev SG := Dt → Evr → Option Evr
def SimG (T : List (Addr × Str)) (is : List Nat) (g : TG) (k : SG) : Prop := ∀ Z L st H s r v d r' (Q : L2.St → Hp → Prop), Wd T Z L st H → EnvOk L (Bad Z L st) H r s → Den L (Bad Z L st) H d v → k d r = some r' →
  (∀ s', EnvOk L (Bad Z L st) H r' s' → (∀ vs : List Nat, (∀ i ∈ is, i ∈ vs) → wipe s' vs = wipe s vs) → Q s' H) → g v s H Q
def SimGs (T : List (Addr × Str)) (is : List Nat) (g : TGs) (k : List Dt → Evr → Option Evr) : Prop := ∀ Z L st H s r vs ds r' (Q : L2.St → Hp → Prop), Wd T Z L st H → EnvOk L (Bad Z L st) H r s → Dens L (Bad Z L st) H ds vs → k ds r = some r' →
  (∀ s', EnvOk L (Bad Z L st) H r' s' → (∀ vs : List Nat, (∀ i ∈ is, i ∈ vs) → wipe s' vs = wipe s vs) → Q s' H) → g vs s H Q
theorem wipe_set {s : L2.St} {i : Nat} {x : Option V} : ∀ {vs : List Nat}, i ∈ vs → wipe (s.set i x) vs = wipe s vs
  | [], h => by simp at h
  | v :: vs, h => by
    unfold wipe
    by_cases hv : i = v
    · subst hv
      by_cases hm : i ∈ vs
      · rw [wipe_set hm]
      · have key : ∀ {us : List Nat}, i ∉ us → wipe (s.set i x) us = (wipe s us).set i x := by
          intro us
          induction us with
          | nil => intro _; rfl
          | cons u us ih =>
            intro hu
            simp only [List.mem_cons, not_or] at hu
            show (wipe (s.set i x) us).set u none = ((wipe s us).set u none).set i x
            rw [ih hu.2, List.set_comm _ _ hu.1]
        rw [key hm, List.set_set]
    · rcases List.mem_cons.mp h with e | hm
      · exact absurd e hv
      · rw [wipe_set hm]
theorem wipe_wipe (s : L2.St) : ∀ vs : List Nat, wipe (wipe s vs) vs = wipe s vs := by
  intro vs
  have key : ∀ (us : List Nat) (s : L2.St), (∀ u ∈ us, u ∈ vs) → wipe (wipe s us) vs = wipe s vs := by
    intro us
    induction us with
    | nil => intro s _; rfl
    | cons u us ih =>
      intro s h
      show wipe ((wipe s us).set u none) vs = wipe s vs
      rw [wipe_set (h u (by simp)), ih s (fun w hw => h w (by simp [hw]))]
  exact key vs s fun _ h => h
def wipeD (r : Evr) : List Nat → Evr
  | [] => r
  | v :: vs => (wipeD r vs).set v none
theorem EnvOk.forget {L : List Addr} {B : Addr → Prop} {H : Hp} {r : Evr} {s : L2.St} (e : EnvOk L B H r s) (i : Nat) : EnvOk L B H (r.set i none) (s.set i none) := by
  refine ⟨by rw [List.length_set, List.length_set]; exact e.1, fun j d h => ?_⟩
  by_cases hj : i = j
  · subst hj
    rw [List.getElem?_set, if_pos rfl] at h
    split at h <;> cases h
  · rw [List.getElem?_set_ne hj] at h
    obtain ⟨u, h1, h2⟩ := e.2 j d h
    exact ⟨u, by rw [List.getElem?_set_ne hj]; exact h1, h2⟩
theorem EnvOk.wipe {L : List Addr} {B : Addr → Prop} {H : Hp} {r : Evr} {s : L2.St} (e : EnvOk L B H r s) : ∀ vs : List Nat, EnvOk L B H (wipeD r vs) (L2.wipe s vs)
  | [] => e
  | v :: vs => (EnvOk.wipe e vs).forget v
def kName (i : Nat) : SG := fun d r => some (r.set i (some d))
def ksNil : List Dt → Evr → Option Evr := fun ds r => match ds with
  | [] => some r
  | _ => none
def ksCons (k : SG) (ks : List Dt → Evr → Option Evr) : List Dt → Evr → Option Evr := fun ds r => match ds with
  | d :: ds => (k d r).bind fun r' => ks ds r'
  | [] => none
def kTup (ks : List Dt → Evr → Option Evr) : SG := fun d r => match d with
  | .tup ds => ks ds r
  | _ => none
section
variable {T : List (Addr × Str)}
theorem sim_gname {i : Nat} : SimG T [i] (gName i) (kName i) := by
  intro Z L st H s r v d r' Q w e h k q
  cases k
  exact q _ (e.set i h) fun vs hv => wipe_set (hv i (by simp))
theorem sim_gnil : SimGs T [] gNil ksNil := by
  intro Z L st H s r vs ds r' Q w e h k q
  unfold ksNil at k
  cases ds with
  | nil =>
    cases k
    unfold Dens at h
    exact ⟨h, q s e fun _ _ => rfl⟩
  | cons d ds => cases k
theorem sim_gcons {is js : List Nat} {t : TG} {k : SG} {u : TGs} {ks : List Dt → Evr → Option Evr} (h1 : SimG T is t k) (h2 : SimGs T js u ks) : SimGs T (is ++ js) (gCons t u) (ksCons k ks) := by
  intro Z L st H s r vs ds r' Q w e h kk q
  unfold ksCons at kk
  cases ds with
  | nil => cases kk
  | cons d ds =>
    obtain ⟨r1, a1, a2⟩ := bind_some' kk
    obtain ⟨v, vr, rfl, p, t'⟩ := h.uncons
    refine ⟨v, vr, rfl, h1 Z L st H s r v d r1 _ w e p a1 fun s1 e1 w1 => ?_⟩
    exact h2 Z L st H s1 r1 vr ds r' Q w e1 t' a2 fun s2 e2 w2 => q s2 e2 fun vs hv => (w2 vs fun i hi => hv i (by simp [hi])).trans (w1 vs fun i hi => hv i (by simp [hi]))
theorem sim_gtup {K : PySem.W.Frag} {n : Nat} {is : List Nat} {t : TGs} {ks : List Dt → Evr → Option Evr} (h : SimGs T is t ks) (hn : ∀ ds r r', ks ds r = some r' → ds.length = n) : SimG T is (gTup K n t) (kTup ks) := by
  intro Z L st H s r v d r' Q w e hd k q
  unfold kTup at k
  cases d with
  | tup ds =>
    unfold Den at hd
    obtain ⟨a, vs, rfl, ea, t'⟩ := hd
    refine ⟨a, vs, rfl, SqT.of ea, ?_, h Z L st H s r vs ds r' Q w e t' k q⟩
    rw [← t'.len]
    exact hn ds r r' k
  | _ => cases k
end

/-! ### for -/
def sForGo (k : SG) (g : SS) : List Dt → SS
  | [] => fun r st => some (.nx r st)
  | x :: xs => fun r st => (k x r).bind fun r1 => (g r1 st).bind fun o => match o with
    | .nx r' st' => sForGo k g xs r' st'
    | .ct r' st' => sForGo k g xs r' st'
    | .bk r' st' => some (.nx r' st')
    | .rt d st' => some (.rt d st')
def sFor (f : SA) (k : SG) (g : SS) : SS := fun r st => (f r st).bind fun xs => sForGo k g xs.1 r xs.2
section
variable {T : List (Addr × Str)}
theorem for_run {is : List Nat} {wi : TI} {f : SA} {g : TG} {k : SG} {tb : TS} {gb : SS} {Z : Addr → Prop} {L : List Addr} {st : Sto} {H : Hp} {s : L2.St} {r : Evr} {o : Ou} {D : Ends} (hi : IAt T Z L st H s r wi f) (hg : SimG T is g k) (hb : SimS T tb gb) (w : Wd T Z L st H) (e : EnvOk L (Bad Z L st) H r s) (h : sFor f k gb r st = some o) (q : OuOk T Z L st H D o) : tFor wi g tb D s H := by
  obtain ⟨⟨xs, st1⟩, a1, h⟩ := bind_some' h
  refine hi xs st1 _ a1 fun J H1 L1 f1 wk => ?_
  refine ⟨fun i m s2 H2 => m = xs.length - i ∧ i ≤ xs.length ∧ ∃ L2 st2 r2, Af T Z L1 st1 H1 L2 st2 H2 ∧ EnvOk L2 (Bad Z L2 st2) H2 r2 s2 ∧ sForGo k gb (xs.drop i) r2 st2 = some o,
    ⟨xs.length, by simp, Nat.zero_le _, L1, st1, r, .refl f1.wd, e.keep f1, h⟩, ?_⟩
  rintro i m s2 H2 ⟨rfl, hle, L2, st2, r2, f2, e2, h2⟩
  obtain ⟨ws, wg⟩ := wk Z L2 st2 H2 f2
  by_cases hlt : i < xs.length
  · right
    obtain ⟨go, yl⟩ := wg i xs[i] (List.getElem?_eq_getElem hlt)
    refine ⟨go, fun s5 H5 => ∃ L5 st5 r5, Af T Z L1 st1 H1 L5 st5 H5 ∧ EnvOk L5 (Bad Z L5 st5) H5 r5 s5 ∧ sForGo k gb (xs.drop (i + 1)) r5 st5 = some o, fun s5 H5 x => ⟨xs.length - (i + 1), by omega, rfl, hlt, x⟩, fun x H3 y => ?_⟩
    obtain ⟨f3, p3⟩ := yl x H3 y
    rw [List.drop_eq_getElem_cons hlt] at h2
    obtain ⟨r3, b1, b2⟩ := bind_some' h2
    obtain ⟨o1, b3, b4⟩ := bind_some' b2
    refine hg Z L2 st2 H3 s2 r2 x _ r3 _ f3.wd (e2.keep f3) p3 b1 fun s3 e3 _ => ?_
    refine hb Z L2 st2 H3 s3 r3 o1 _ f3.wd e3 b3 ?_
    cases o1 with
    | nx r' st' => exact fun s4 H4 L4 f4 e4 => ⟨L4, st', r', f2.trans (f3.trans f4), e4, b4⟩
    | ct r' st' => exact fun s4 H4 L4 f4 e4 => ⟨L4, st', r', f2.trans (f3.trans f4), e4, b4⟩
    | bk r' st' => cases b4; exact fun s4 H4 L4 f4 e4 => q s4 H4 L4 (f1.trans (f2.trans (f3.trans f4))) e4
    | rt d st' => cases b4; exact fun v H4 L4 f4 e4 => q v H4 L4 (f1.trans (f2.trans (f3.trans f4))) e4
  · left
    have hx : i = xs.length := by omega
    subst hx
    rw [List.drop_length] at h2
    cases h2
    exact ⟨ws, q s2 H2 L2 (f1.trans f2) e2⟩
theorem sim_for {is : List Nat} {wi : TI} {f : SA} {g : TG} {k : SG} {tb : TS} {gb : SS} (hi : SimI T wi f) (hg : SimG T is g k) (hb : SimS T tb gb) : SimS T (tFor wi g tb) (sFor f k gb) :=
  fun Z L st H s r o D w e h q => for_run (hi.at w e) hg hb w e h q
end

/-! ### list comprehensions -/
def lcGo (k : SG) (c : ST) (f : SE) (r : Evr) : List Dt → Sto → Option (List Dt × Sto)
  | [], st => some ([], st)
  | x :: xs, st => (k x r).bind fun r1 => (c r1 st).bind fun b => if b.1 = true then (f r1 b.2).bind fun y => (lcGo k c f r xs y.2).bind fun z => some (y.1 :: z.1, z.2) else lcGo k c f r xs b.2
def lc (fi : SA) (own : List Nat) (k : SG) (c : ST) (f : SE) : SA := fun r st => (fi r st).bind fun xs => (lcGo k c f (wipeD r own) xs.1 xs.2).bind fun z => if z.1.length ≤ sizeLine then some z else none
/-- as a value, as a new live object -/
def toV (f : SA) : SE := fun r st => (f r st).bind fun z => some (.lst z.1, z.2)
def toR (f : SA) : SE := fun r st => (f r st).bind fun z => some (.ref z.2.length, z.2 ++ [some (.lst z.1)])
section
variable {T : List (Addr × Str)}
theorem lc_run {is own : List Nat} {wi : TI} {fi : SA} {g : TG} {k : SG} {tt : TT} {c : ST} {te : TE} {f : SE} {Z : Addr → Prop} {L : List Addr} {st : Sto} {H : Hp} {s : L2.St} {r : Evr} {zs : List Dt} {st' : Sto} {Q : VK} (hi : IAt T Z L st H s r wi fi) (hg : SimG T is g k) (hc : SimT T tt c) (hf : SimE T te f) (hs : ∀ i ∈ is, i ∈ own)
    (w : Wd T Z L st H) (e : EnvOk L (Bad Z L st) H r s) (h : lc fi own k c f r st = some (zs, st'))
    (q : ∀ D vs H' L', Afz T Z L st H (zAnd Z D) L' st' H' → H D = none → H' D = some (.lst vs) → Dens L' (Bad (zAnd Z D) L' st') H' zs vs → Q (.ref D) H') : tLc wi g tt te own s H Q := by
  obtain ⟨⟨xs, st1⟩, a1, h⟩ := bind_some' h
  obtain ⟨⟨ys, st9⟩, a2, h⟩ := bind_some' h
  split at h
  case isFalse => cases h
  case isTrue hz =>
  cases h
  refine hi xs st1 _ a1 fun J H1 L1 f1 wk D nD => ?_
  have nD0 : H D = none := by
    cases qq : H D with
    | none => rfl
    | some o => exact absurd nD (f1.trk D (by rw [qq]; simp))
  have m1 : Afz T Z L1 st1 H1 (zAnd Z D) L1 st1 (upd H1 D (.lst [])) := Afz.mine f1.wd nD
  refine ⟨fun i m H2 => m = xs.length - i ∧ i ≤ xs.length ∧ ∃ L2 st2 acc rest vs, Afz T Z L1 st1 H1 (zAnd Z D) L2 st2 H2 ∧ H2 D = some (.lst vs) ∧ Dens L2 (Bad (zAnd Z D) L2 st2) H2 acc vs ∧ lcGo k c f (wipeD r own) (xs.drop i) st2 = some (rest, st') ∧ acc ++ rest = zs,
    ⟨xs.length, by simp, Nat.zero_le _, L1, st1, [], zs, [], m1, upd_same, .nil, a2, rfl⟩, ?_⟩
  rintro i m H2 ⟨rfl, hle, L2, st2, acc, rest, vs, f2, hD, hacc, h2, ez⟩
  obtain ⟨ws, wg⟩ := wk (zAnd Z D) L2 st2 H2 f2
  by_cases hlt : i < xs.length
  · right
    obtain ⟨go, yl⟩ := wg i xs[i] (List.getElem?_eq_getElem hlt)
    rw [List.drop_eq_getElem_cons hlt] at h2
    obtain ⟨r3, b1, b2⟩ := bind_some' h2
    obtain ⟨⟨b, st3⟩, b3, b4⟩ := bind_some' b2
    refine ⟨go, fun H5 => ∃ L5 st5 acc5 rest5 vs5, Afz T Z L1 st1 H1 (zAnd Z D) L5 st5 H5 ∧ H5 D = some (.lst vs5) ∧ Dens L5 (Bad (zAnd Z D) L5 st5) H5 acc5 vs5 ∧ lcGo k c f (wipeD r own) (xs.drop (i + 1)) st5 = some (rest5, st') ∧ acc5 ++ rest5 = zs,
      fun H5 x => ⟨xs.length - (i + 1), by omega, rfl, hlt, x⟩, fun x H3 y => ?_⟩
    obtain ⟨f3, p3⟩ := yl x H3 y
    have e3 := (((e.keep f1).keep f2).keep f3).wipe own
    refine hg (zAnd Z D) L2 st2 H3 _ _ x _ r3 _ f3.wd e3 p3 b1 fun s4 e4 wp => ⟨?_, ?_⟩
    · rw [wp own hs, wipe_wipe]
    refine hc (zAnd Z D) L2 st2 H3 s4 r3 b st3 _ f3.wd e4 b3 fun H4 L4 f4 => ?_
    have keepD : ∀ {L' : List Addr} {st'' : Sto} {H' : Hp}, Afz T (zAnd Z D) L2 st2 H2 (zAnd Z D) L' st'' H' → H' D = some (.lst vs) := fun ff => ff.kp D _ hD (fun z => by
      obtain ⟨j, d, j1, j2⟩ := z
      exact (f2.wd.own j D d j1 j2).1 (.inr rfl)) (fun ps z => by cases z)
    cases b with
    | false =>
      rw [if_neg (by simp)] at b4
      exact iteF ⟨L4, st3, acc, rest, vs, f2.trans (f3.trans f4), keepD (f3.trans f4), (hacc.keep f3).keep f4, b4, ez⟩
    | true =>
      rw [if_pos rfl] at b4
      obtain ⟨⟨dy, st5⟩, c1, c2⟩ := bind_some' b4
      obtain ⟨⟨rest5, st6⟩, c3, c4⟩ := bind_some' c2
      cases c4
      refine iteT (hf (zAnd Z D) L4 st3 H4 s4 r3 dy st5 _ f4.wd (e4.keep f4) c1 fun y H5 L5 f5 p5 => ?_)
      have fall := f3.trans (f4.trans f5)
      have hacc5 := ((hacc.keep f3).keep f4).keep f5
      have hlen : vs.length < sizeLine := by
        rw [← hacc.len]
        have : (acc ++ dy :: rest5).length ≤ sizeLine := by rw [ez]; exact hz
        rw [List.length_append, List.length_cons] at this
        omega
      have zD : zAnd Z D D := .inr rfl
      have hD5 := keepD fall
      have tD5 : ∀ zs, H5 D ≠ some (.tup zs) := fun zs z => by rw [hD5] at z; cases z
      have wd6 : Wd T (zAnd Z D) L5 st5 (upd H5 D (.lst (vs ++ [y]))) := f5.wd.chg zD fun u eu => by rw [hD5] at eu; cases eu; exact .inl ⟨_, rfl⟩
      have fa := f2.trans fall
      refine ⟨vs, hD5, hlen, L5, st5, acc ++ [dy], rest5, vs ++ [y], ⟨wd6, fa.pre, fun b u eb nl nt => ?_, fa.nw, fun b n z => ?_, fun b us eb => ?_, fa.fr, fa.zs⟩, upd_same, (hacc5.append (.cons p5 .nil)).chg (.inl zD) tD5, c3, by rw [← ez]; simp⟩
      · rw [upd_ne (ne_of_none eb nD)]; exact fa.kp b u eb nl nt
      · by_cases hb : b = D
        · rw [hb, upd_same] at z; cases z
        · rw [upd_ne hb] at z; exact fa.trk b n z
      · rw [upd_ne (ne_of_none eb nD)]; exact fa.tp b us eb
  · left
    have hx : i = xs.length := by omega
    subst hx
    rw [List.drop_length] at h2
    cases h2
    rw [List.append_nil] at ez
    subst ez
    exact ⟨ws, q D vs H2 L2 (f1.trans f2) nD0 hD hacc⟩
theorem Afz.back {Z : Addr → Prop} {L L' : List Addr} {st st' : Sto} {H H' : Hp} {D : Addr} (f : Afz T Z L st H (zAnd Z D) L' st' H') : Af T Z L st H L' st' H' :=
  ⟨f.wd.less fun b z => .inl z, f.pre, f.kp, f.nw, f.trk, f.tp, f.fr, fun a z => .inl z⟩
theorem bad_zAnd {Z : Addr → Prop} {L : List Addr} {st : Sto} {D : Addr} : ∀ b, Bad Z L st b → Bad (zAnd Z D) L st b := fun b z => z.elim (fun y => .inl (.inl y)) .inr
theorem at_lcV {is own : List Nat} {wi : TI} {fi : SA} {g : TG} {k : SG} {tt : TT} {c : ST} {te : TE} {f : SE} {Z : Addr → Prop} {L : List Addr} {st : Sto} {H : Hp} {s : L2.St} {r : Evr} (hi : IAt T Z L st H s r wi fi) (hg : SimG T is g k) (hc : SimT T tt c) (hf : SimE T te f) (hs : ∀ i ∈ is, i ∈ own) (w : Wd T Z L st H) (e : EnvOk L (Bad Z L st) H r s) : EAt T Z L st H s r (tLc wi g tt te own) (toV (lc fi own k c f)) := by
  intro d st' Q h q
  obtain ⟨⟨zs, st1⟩, a1, h⟩ := bind_some' h
  cases h
  refine lc_run hi hg hc hf hs w e a1 fun D vs H' L' ff nD hD hv => ?_
  refine q _ H' L' ff.back ?_
  unfold Den
  refine ⟨D, vs, rfl, fun z => ?_, hD, hv.mono bad_zAnd⟩
  rcases z with z | ⟨j, d, j1, j2⟩
  · exact w.zt D z nD
  · exact (ff.wd.own j D d j1 j2).1 (.inr rfl)
theorem sim_lcV {is own : List Nat} {wi : TI} {fi : SA} {g : TG} {k : SG} {tt : TT} {c : ST} {te : TE} {f : SE} (hi : SimI T wi fi) (hg : SimG T is g k) (hc : SimT T tt c) (hf : SimE T te f) (hs : ∀ i ∈ is, i ∈ own := by decide) : SimE T (tLc wi g tt te own) (toV (lc fi own k c f)) := by
  intro Z L st H s r d st' Q w e h q
  obtain ⟨⟨zs, st1⟩, a1, h⟩ := bind_some' h
  cases h
  refine lc_run (hi.at w e) hg hc hf hs w e a1 fun D vs H' L' ff nD hD hv => ?_
  refine q _ H' L' ff.back ?_
  unfold Den
  refine ⟨D, vs, rfl, fun z => ?_, hD, hv.mono bad_zAnd⟩
  rcases z with z | ⟨j, d, j1, j2⟩
  · exact w.zt D z nD
  · exact (ff.wd.own j D d j1 j2).1 (.inr rfl)
/-- what was ours alone becomes a live object -/
theorem Afz.claim {Z : Addr → Prop} {L L' : List Addr} {st st' : Sto} {H H' : Hp} {D : Addr} {o : HO} {d : Dt} (f : Afz T Z L st H (zAnd Z D) L' st' H') (w0 : Wd T Z L st H) (nD : H D = none) (hD : H' D = some o) (ho : OwnO L' (Bad (zAnd Z D) L' st') H' o d) : Af T Z L st H (L' ++ [D]) (st' ++ [some d]) H' := by
  have w := f.wd
  have nl : ∀ (j : Nat) e, L'[j]? = some D → st'[j]? = some (some e) → False := fun j e j1 j2 => (w.own j D e j1 j2).1 (.inr rfl)
  have hb : ∀ b, Bad Z (L' ++ [D]) (st' ++ [some d]) b → H' b ≠ none → Bad (zAnd Z D) L' st' b := fun b z _ => by
    rcases z with z | z
    · exact .inl (.inl z)
    · rcases (liv_push w.len).mp z with z | ⟨rfl, _⟩
      · exact .inr z
      · exact .inl (.inr rfl)
  have tr : ∀ ds vs, Dens L' (Bad (zAnd Z D) L' st') H' ds vs → Dens (L' ++ [D]) (Bad Z (L' ++ [D]) (st' ++ [some d])) H' ds vs := fun ds vs q => Dens.push hb q
  have get : ∀ (k : Nat) (b : Addr) (e : Dt), (L' ++ [D])[k]? = some b → (st' ++ [some d])[k]? = some (some e) → (L'[k]? = some b ∧ st'[k]? = some (some e)) ∨ (k = L'.length ∧ b = D ∧ e = d) := by
    intro k b e h1 h2
    have hl := w.len
    by_cases hk : k < L'.length
    · rw [List.getElem?_append_left hk] at h1
      rw [List.getElem?_append_left (by omega)] at h2
      exact .inl ⟨h1, h2⟩
    · have hk2 : k = L'.length := by
        have := (List.getElem?_eq_some_iff.mp h1).1
        simp at this
        omega
      subst hk2
      simp at h1
      rw [hl] at h2
      simp at h2
      exact .inr ⟨rfl, h1.symm, h2.symm⟩
  refine ⟨⟨w.tabs, by simp [w.len], fun i j b x y h1 h2 h3 h4 => ?_, fun k b e h1 h2 => ?_, fun b z => w.zt b (.inl z)⟩, ?_, f.kp, fun b l => ?_, f.trk, f.tp, fun k b hl e => ?_, fun a z => .inl z⟩
  · rcases get i b x h1 h3 with ⟨a1, a2⟩ | ⟨i1, i2, _⟩ <;> rcases get j b y h2 h4 with ⟨b1, b2⟩ | ⟨j1, j2, _⟩
    · exact w.inj i j b x y a1 b1 a2 b2
    · subst j2; exact (nl i x a1 a2).elim
    · subst i2; exact (nl j y b1 b2).elim
    · omega
  · rcases get k b e h1 h2 with ⟨a1, a2⟩ | ⟨_, rfl, rfl⟩
    · obtain ⟨nz, u, eu, q⟩ := w.own k b e a1 a2
      exact ⟨fun z => nz (.inl z), u, eu, q.imp tr⟩
    · exact ⟨fun z => w0.zt b z nD, o, hD, ho.imp tr⟩
  · obtain ⟨M, rfl⟩ := f.pre
    exact ⟨M ++ [D], by simp⟩
  · rcases (liv_push w.len).mp l with z | ⟨rfl, _⟩
    · exact f.nw b z
    · exact .inr nD
  · by_cases hk : k < L'.length
    · rw [List.getElem?_append_left hk] at e
      exact f.fr k b hl e
    · have e2 : k = L'.length := by
        have := (List.getElem?_eq_some_iff.mp e).1
        simp at this
        omega
      subst e2
      simp at e
      rw [← e]; exact nD
theorem sim_lcR {is own : List Nat} {wi : TI} {fi : SA} {g : TG} {k : SG} {tt : TT} {c : ST} {te : TE} {f : SE} (hi : SimI T wi fi) (hg : SimG T is g k) (hc : SimT T tt c) (hf : SimE T te f) (hs : ∀ i ∈ is, i ∈ own := by decide) : SimE T (tLc wi g tt te own) (toR (lc fi own k c f)) := by
  intro Z L st H s r d st' Q w e h q
  obtain ⟨⟨zs, st1⟩, a1, h⟩ := bind_some' h
  cases h
  refine lc_run (hi.at w e) hg hc hf hs w e a1 fun D vs H' L' ff nD hD hv => ?_
  refine q _ H' (L' ++ [D]) (ff.claim w nD hD ⟨vs, rfl, hv⟩) ?_
  unfold Den
  exact ⟨D, by rw [← ff.wd.len]; simp, rfl⟩
end
end HB

set_option Elab.async false
set_option linter.all false
set_option maxRecDepth 100000
set_option maxHeartbeats 1000000
/-! HB, part e: defs that are called where no repr is under way; pure ones, ones that make a new object, ones that change one object. -/
namespace HB
open PySem PySem.Spec PyProof.Rows L2

theorem nodupIx {α : Type} {x : α} : ∀ {l : List α} {i j : Nat}, l.Nodup → l[i]? = some x → l[j]? = some x → i = j
  | [], _, _, _, h, _ => by simp at h
  | _ :: _, 0, 0, _, _, _ => rfl
  | y :: l, 0, j + 1, nd, h1, h2 => by
    simp at h1; subst h1
    exact absurd (List.mem_of_getElem? (by simpa using h2)) (List.nodup_cons.mp nd).1
  | y :: l, i + 1, 0, nd, h1, h2 => by
    simp at h2; subst h2
    exact absurd (List.mem_of_getElem? (by simpa using h1)) (List.nodup_cons.mp nd).1
  | y :: l, i + 1, j + 1, nd, h1, h2 => congrArg (· + 1) (nodupIx (List.nodup_cons.mp nd).2 (by simpa using h1) (by simpa using h2))
/-- the def at f keeps sp wherever no object is being shown -/
structure GFn (P : Program) (w : World) (K : PySem.W.Frag) (mg : Str → Option Value) (base : Heap) (k : Nat) (f : Addr) (fd : FuncData) (ps : List Str) (sp : Sp) : Prop where
  run : ∀ (A : Around) (outer : List Env) (s : Shared) (H : Hp) (args : Args) (us : List Value) (vs : List V) (Q : VK), Room k A → A.guards = some [] → Env0 P w K mg base A outer s H → BindsTo s fd args (ps.zip us) → us.length = ps.length → Vals vs us → sp vs H Q E0 →
    codeAny (model P w) A (.call (.ref f) args) (CR CX0 outer P w H s Q E0) s
/-- a global name that holds such a def -/
structure GCal (P : Program) (w : World) (K : PySem.W.Frag) (mg : Str → Option Value) (base : Heap) (k : Nat) (x : Str) (ps : List Str) (sp : Sp) : Prop where
  ex : ∃ (f : Addr) (fd : FuncData), mg x = some (.ref f) ∧ PySem.W.keepIn K (.ref f) = true ∧ GFn P w K mg base k f fd ps sp ∧
    (∀ (s : Shared) (us : List Value), us.length = ps.length → BindsTo s fd ⟨us, []⟩ (ps.zip us)) ∧
    ∀ (s : Shared) (p : List Nat) (ws : List Value), ws.length = ps.length → p.Perm (List.range ps.length) → BindsTo s fd ⟨[], (p.map fun i => ps.getD i "").zip (p.map fun i => ws.getD i .none)⟩ (ps.zip ws)
section
variable {P : Program} {w : World} {K : PySem.W.Frag} {mg : Str → Option Value} {base : Heap} {k j : Nat} {f : Addr} {fd : FuncData} {ps : List Str} {sp sp' : Sp}
theorem GFn.mono (F : GFn P w K mg base k f fd ps sp) (h : k ≤ j) : GFn P w K mg base j f fd ps sp := ⟨fun A outer s H args us vs Q hr => F.run A outer s H args us vs Q (hr.mono h)⟩
theorem GFn.imp (F : GFn P w K mg base k f fd ps sp) (h : ∀ vs H Q, sp' vs H Q E0 → sp vs H Q E0) : GFn P w K mg base k f fd ps sp' :=
  ⟨fun A outer s H args us vs Q hr hg e0 hb hl hv hs => F.run A outer s H args us vs Q hr hg e0 hb hl hv (h _ _ _ hs)⟩
end
section
variable {X : Cx} {k : Nat} {x : Str} {ps : List Str} {sp : Sp} {p pos : Pos} {e : Expr} {es : List Expr} {t : TA} {kws : List Keyword}
theorem run_g {f : Addr} {fd : FuncData} {pins : List (Addr × Obj)} {s1 : L2.St} {H : Hp} {s : Shared} {Q : VK} {us ws : List Value} {kw : List (Str × Value)} {vs : List V} (F : GFn X.prog X.w X.K X.mg X.base k f fd ps sp) (hr : Room k X.A) (hg : X.A.guards = some [])
    (hb : BindsTo s fd ⟨ws, kw⟩ (ps.zip us)) (hl : us.length = ps.length) (I : Inv X pins s1 H s) (r : Vals vs us) (h : sp vs H Q E0) : wpAny (model X.prog X.w) X.A (call (.ref f) ws kw) (EP X pins s1 Q) X.xe s := by
  refine wpAny_call (codeAny_mono (F.run X.A X.stack s H ⟨ws, kw⟩ us vs Q hr hg I.env0 hb hl r h) fun res s2 hq => ?_)
  match res, hq with
  | .error _, hq => exact False.elim hq
  | .ok (.ret _), hq => exact I.after hq
  | .ok .next, hq => exact False.elim hq
  | .ok .brk, hq => exact False.elim hq
  | .ok .cont, hq => exact False.elim hq
def tG (n : Nat) (sp : Sp) (t : TA) : TE := fun s H Q => t s H fun vs H1 => vs.length = n ∧ sp vs H1 Q E0
/-- f(e, ..) -/
theorem pe_g (c : GCal X.prog X.w X.K X.mg X.base k x ps sp) (hr : Room k X.A) (hg : X.A.guards = some []) (gl : Gl X x) (ha : PA X (e :: es) t) (hdb : (x == ("__debug__" : Str)) = false := by decide)
    (he : starEach (e :: es) X.env = (false, eval e X.env) :: starEach es X.env := by rfl) (hpl : (backTo pos (starEach es X.env)).any (·.1) = false := by rfl) : PE X (.Call (.Name x p) (e :: es) [] pos) (tG ps.length sp t) := by
  obtain ⟨f, fd, hm, hk, F, hb, _⟩ := c.ex
  constructor
  intro pins s s1 H Q I h
  refine wpAny_Call_Name_kw (ld_glob I gl hm ?_ hdb)
  refine PySem.W.callWith_K (h₀ := X.base) I.ok.mod.kin hk (thn (ha.run pos pins s s1 H _ I h) fun us s2 ⟨vs, H1, I1, r, hl, q⟩ => ⟨I1.kIn, ?_⟩) he hpl
  have hl' : us.length = ps.length := by rw [← r.length]; exact hl
  exact run_g F hr hg (hb s2 us hl') hl' I1 r q
/-- f(k = e, ..): q tells which parameter each keyword names -/
def tGk (n : Nat) (q : List Nat) (sp : Sp) (t : TA) : TE := fun s H Q => t s H fun vs H1 => ∃ us : List V, us.length = n ∧ vs = q.map (fun i => us.getD i .non) ∧ sp us H1 Q E0
theorem pe_gk {q : List Nat} (c : GCal X.prog X.w X.K X.mg X.base k x ps sp) (hr : Room k X.A) (hg : X.A.guards = some []) (gl : Gl X x) (hk : PK X kws t) (hq : q.Perm (List.range ps.length)) (hdb : (x == ("__debug__" : Str)) = false := by decide)
    (hall : (backToKw pos (keywordEach kws X.env)).all (·.1.isSome) = true := by rfl) (hks : (backToKw pos (keywordEach kws X.env)).filterMap (·.1) = q.map fun i => ps.getD i "" := by rfl)
    (hpl : ((backTo pos (starEach [] X.env)).any (·.1) || (backToKw pos (keywordEach kws X.env)).any (·.1.isNone)) = false := by rfl) : PE X (.Call (.Name x p) [] kws pos) (tGk ps.length q sp t) := by
  obtain ⟨f, fd, hm, hk', F, _, hb⟩ := c.ex
  constructor
  intro pins s s1 H Q I h
  refine wpAny_Call_Name_kw (ld_glob I gl hm ?_ hdb)
  refine PySem.W.callWith_KW0 (h₀ := X.base) I.ok.mod.kin hk' hall (thn (hk.run pos pins s s1 H _ I h) fun ws s2 ⟨vs, H1, I1, r, us, hl, ev, qq⟩ => ⟨I1.kIn, ?_⟩) hpl
  rw [hks]
  have hm' : ∀ i, i < us.length → ∃ j, q[j]? = some i := fun i hi => by
    have : i ∈ q := hq.mem_iff.mpr (by simp; omega)
    exact List.mem_iff_getElem?.mp this
  -- the values in the parameters' order
  have key : ∃ zs : List Value, Vals us zs ∧ ws = q.map fun i => zs.getD i .none := by
    have hex : ∀ i : Nat, ∃ z : Value, i < us.length → (RelV (us.getD i .non) z ∧ ∀ j : Nat, q[j]? = some i → ws[j]? = some z) := fun i => by
      by_cases hi : i < us.length
      · obtain ⟨j, hj⟩ := hm' i hi
        have hv : vs[j]? = some (us.getD i .non) := by rw [ev, List.getElem?_map, hj]; rfl
        obtain ⟨z, hz, rz⟩ := r.get hv
        refine ⟨z, fun _ => ⟨rz, fun j' hj' => ?_⟩⟩
        have nd : q.Nodup := hq.nodup_iff.mpr List.nodup_range
        have : j = j' := nodupIx nd hj hj'
        subst this
        exact hz
      · exact ⟨.none, fun h => absurd h hi⟩
    obtain ⟨z, hz⟩ := Classical.axiomOfChoice hex
    refine ⟨(List.range us.length).map z, ?_, ?_⟩
    · have all : ∀ (n : Nat) (us' : List V) (g : Nat → Value), us'.length = n → (∀ i, i < n → RelV (us'.getD i .non) (g i)) → Vals us' ((List.range n).map g) := by
        intro n
        induction n with
        | zero => intro us' g h1 _; rw [List.length_eq_zero_iff.mp h1]; exact .nil
        | succ n ih =>
          intro us' g h1 h2
          match us', h1 with
          | u :: us', h1 =>
            rw [List.range_succ_eq_map, List.map_cons, List.map_map]
            exact .cons (h2 0 (by omega)) (ih us' _ (by simpa using h1) fun i hi => by simpa using h2 (i + 1) (by omega))
      exact all us.length us z rfl fun i hi => (hz i hi).1
    · apply List.ext_getElem?
      intro j
      rw [List.getElem?_map]
      cases hj : q[j]? with
      | none =>
        have : q.length ≤ j := List.getElem?_eq_none_iff.mp hj
        rw [List.getElem?_eq_none]
        · rfl
        · have e1 := r.length
          have e2 : vs.length = q.length := by rw [ev, List.length_map]
          omega
      | some i =>
        have hi : i < us.length := by
          have : i ∈ q := List.mem_of_getElem? hj
          have := hq.mem_iff.mp this
          simp at this
          omega
        rw [(hz i hi).2 j hj]
        simp [hi]
  obtain ⟨zs, rz, ez⟩ := key
  have hlz : zs.length = ps.length := by rw [← rz.length]; exact hl
  rw [ez]
  exact run_g F hr hg (hb s2 q zs hlz hq) hlz I1 rz qq
end

/-! ### a def by its body -/
def startD (n : Nat) (ds : List Dt) : Evr := ds.map some ++ List.replicate (n - ds.length) none
def bodyF (g : SS) (n : Nat) : List Dt → Sto → Option (Dt × Sto) := fun ds st => (g (startD n ds) st).bind fun o => match o with
  | .rt d st' => some (d, st')
  | .nx _ st' => some (.non, st')
  | _ => none
def SpF (T : List (Addr × Str)) (n : Nat) (F : List Dt → Sto → Option (Dt × Sto)) : Sp := fun vs H Q _ => ∃ Z L st ds d st', vs.length = n ∧ Wd T Z L st H ∧ Dens L (Bad Z L st) H ds vs ∧ F ds st = some (d, st') ∧
  ∀ v H' L', Af T Z L st H L' st' H' → Den L' (Bad Z L' st') H' d v → Q v H'
theorem env_start {L : List Addr} {B : Addr → Prop} {H : Hp} {N : List Str} {ds : List Dt} {vs : List V} (h : Dens L B H ds vs) : EnvOk L B H (startD N.length ds) (L2.start N vs) := by
  have hl := h.len
  unfold startD L2.start
  refine ⟨by simp [hl], fun i d e => ?_⟩
  by_cases hi : i < ds.length
  · rw [List.getElem?_append_left (by simpa using hi), List.getElem?_map] at e
    cases q : ds[i]? with
    | none => rw [q] at e; cases e
    | some d' =>
      rw [q] at e
      cases e
      obtain ⟨v, hv, p⟩ := h.get q
      exact ⟨v, by rw [List.getElem?_append_left (by rw [List.length_map]; omega), List.getElem?_map, hv]; rfl, p⟩
  · rw [List.getElem?_append_right (by simpa using hi), List.getElem?_replicate] at e
    split at e <;> cases e
section
variable {T : List (Addr × Str)} {P : Program} {w : World} {K : PySem.W.Frag} {mg : Str → Option Value} {base : Heap}
/-- the context of a def's body -/
abbrev gX (P : Program) (w : World) (K : PySem.W.Frag) (mg : Str → Option Value) (base : Heap) (N : List Str) (x : Str) (sc : Scope) (f : Addr) (cdv : Value) (A : Around) (outer : List Env) (s : Shared) (H : Hp) : Cx := (cxOf CX0 P w K mg base N x sc f cdv A outer s H E0).nox
theorem gfn {x : Str} {args : Arguments} {body : List Stmt} {sc : Scope} {f : Addr} {fd : FuncData} {N ps : List Str} {k : Nat} {t : TS} {g : SS} (F : FunD K x x args body sc [] [] f fd) (S : FnScope N ps sc)
    (hb : ∀ A outer s H, Room k (gX P w K mg base N x sc f fd.code A outer s H).A → (gX P w K mg base N x sc f fd.code A outer s H).A.guards = some [] → PSs (gX P w K mg base N x sc f fd.code A outer s H) body t) (hs : SimS T t g) :
    GFn P w K mg base (k + 1) f fd ps (SpF T ps.length (bodyF g N.length)) := by
  obtain ⟨oc, od, dV, kV, doc, pm, an, cdv, ct, osl, rfl, lk, hcd, _, _⟩ := F.ex
  constructor
  intro A outer s H binds us vs Q hr hg e0 hbt hlu rv hsp
  obtain ⟨Z, L, st, ds, d, st', hlv, wd, dn, hF, q⟩ := hsp
  have keeps : ∀ b o, base.get? b = some o → s.heap.get? b = some o := fun b o e => (e0.bs b o e).1
  have inK : K.In s.heap := e0.mod.kin.keeps keeps
  have places : ∀ y ∈ ps.zip us, sc.names.lookup y.1 = some .local ∨ (sc.names.lookup y.1 = some .cell ∧ ((cellsFrom (s.heap.objs.size + 1) sc.names []).lookup y.1).isSome = true) := by
    intro y hy
    have hm := (List.of_mem_zip (a := y.1) (b := y.2) hy).1
    cases S.par y.1 hm with
    | inl z => exact .inl z
    | inr z => exact .inr ⟨z, PySem.W.cellsFrom_some _ _ _ (.inl z)⟩
  refine codeAny_call_function hr.depth (inK _ _ lk) rfl S.co S.gen rfl (PySem.W.codeRec_of inK hcd) (hbt _ _ _ _ ?_)
  refine wpAny_newFunctionEnv_cells S.kind places fun env he s1 ic => ?_
  subst he
  refine ⟨(e0.mod.nolimit.keeps keeps).keeps ic.toInCall.keep, codeAny_func ?_⟩
  have I : Inv (cxOf CX0 P w K mg base N x sc f cdv A outer s H E0) [] (L2.start N vs) H s1 := inv_start S hr.hd e0 hlv rv ic
  have ht := hb A outer s H (hr.deeper _) hg
  obtain ⟨o, a1, a2⟩ := bind_some' hF
  have reading : t { nx := fun _ H' => Q .non H', rt := Q } (L2.start N vs) H := by
    refine hs Z L st H _ _ o _ wd (env_start dn) a1 ?_
    cases o with
    | rt d1 st1 => cases a2; exact fun v H' L' f p => q v H' L' f p
    | nx r1 st1 => cases a2; exact fun s' H' L' f _ => q .non H' L' f Den.non
    | bk r1 st1 => cases a2
    | ct r1 st1 => cases a2
  refine wpAny_mono (ht.nox.run [] s1 (L2.start N vs) H _ I reading) (fun fl s2 hq => ?_) fun _ _ hx => hx
  match fl, hq with
  | .ret u, ⟨v, _, H', J, rv', qv⟩ => exact ⟨v, H', J.os, J.bare, J.base, J.hok, rv', qv⟩
  | .next, ⟨_, H', J, qv⟩ => exact ⟨.non, H', J.os, J.bare, J.base, J.hok, rfl, qv⟩
  | .brk, ⟨_, _, _, qv⟩ => exact False.elim qv
  | .cont, ⟨_, _, _, qv⟩ => exact False.elim qv
end

/-! ### pure defs -/
mutual
def noRef : Dt → Bool
  | .ref _ => false
  | .lst ds => noRefs ds
  | .tup ds => noRefs ds
  | .dic _ ds => noRefs ds
  | _ => true
def noRefs : List Dt → Bool
  | [] => true
  | d :: ds => noRef d && noRefs ds
end
mutual
theorem Den.anyL {L L' : List Addr} {B : Addr → Prop} {H : Hp} : ∀ {d : Dt} {v : V}, noRef d = true → Den L B H d v → Den L' B H d v
  | .non, _, _, q => by unfold Den at q ⊢; exact q
  | .bl _, _, _, q => by unfold Den at q ⊢; exact q
  | .int _, _, _, q => by unfold Den at q ⊢; exact q
  | .str _, _, _, q => by unfold Den at q ⊢; exact q
  | .ref _, _, n, q => by unfold noRef at n; cases n
  | .lst ds, _, n, q => by
    unfold noRef at n
    unfold Den at q ⊢
    obtain ⟨a, vs, r, nb, e, t⟩ := q
    exact ⟨a, vs, r, nb, e, Dens.anyL n t⟩
  | .tup ds, _, n, q => by
    unfold noRef at n
    unfold Den at q ⊢
    obtain ⟨a, vs, r, e, t⟩ := q
    exact ⟨a, vs, r, e, Dens.anyL n t⟩
  | .dic ks ds, _, n, q => by
    unfold noRef at n
    unfold Den at q ⊢
    obtain ⟨a, vs, r, nb, e, el, t⟩ := q
    exact ⟨a, vs, r, nb, e, el, Dens.anyL n t⟩
theorem Dens.anyL {L L' : List Addr} {B : Addr → Prop} {H : Hp} : ∀ {ds : List Dt} {vs : List V}, noRefs ds = true → Dens L B H ds vs → Dens L' B H ds vs
  | [], _, _, q => by unfold Dens at q ⊢; exact q
  | d :: ds, _, n, q => by
    unfold noRefs at n
    rw [Bool.and_eq_true] at n
    obtain ⟨v, r, rfl, p, t⟩ := q.uncons
    exact .cons (Den.anyL n.1 p) (Dens.anyL n.2 t)
end
/-! the data behind refs -/
mutual
def deref (st : Sto) : Nat → Dt → Option Dt
  | 0, d => if noRef d = true then some d else none
  | n + 1, d => if noRef d = true then some d else match d with
    | .ref k => (match st[k]? with
      | some (some c) => deref st n c
      | _ => none)
    | .lst ds => (derefs st n ds).map .lst
    | .tup ds => (derefs st n ds).map .tup
    | .dic ks ds => (derefs st n ds).map (.dic ks)
    | _ => none
def derefs (st : Sto) : Nat → List Dt → Option (List Dt)
  | _, [] => some []
  | 0, ds => if noRefs ds = true then some ds else none
  | n + 1, d :: ds => (deref st n d).bind fun e => (derefs st n ds).map fun es => e :: es
end
theorem OwnAt.den {L : List Addr} {Z B : Addr → Prop} {H : Hp} {a : Addr} {d : Dt} (h : OwnAt L B H a d) (nz : ¬ Z a) (hb : ∀ b, Z b → B b) : Den L Z H d (.ref a) := by
  obtain ⟨o, e, q⟩ := h
  cases d with
  | lst ds =>
    obtain ⟨vs, rfl, t⟩ := q
    unfold Den
    exact ⟨a, vs, rfl, nz, e, t.mono hb⟩
  | dic ks ds =>
    obtain ⟨vs, rfl, el, t⟩ := q
    unfold Den
    exact ⟨a, vs, rfl, nz, .inl e, el, t.mono hb⟩
  | _ => exact False.elim q
mutual
theorem deref_ok {T : List (Addr × Str)} {Z : Addr → Prop} {L L0 : List Addr} {st : Sto} {H : Hp} (w : Wd T Z L st H) : ∀ {n : Nat} {d c : Dt} {v : V}, deref st n d = some c → Den L Z H d v → Den L0 Z H c v
  | 0, d, c, v, h, q => by
    unfold deref at h
    split at h
    · rename_i hn
      cases h
      exact q.anyL hn
    · cases h
  | n + 1, d, c, v, h, q => by
    unfold deref at h
    split at h
    · rename_i hn
      cases h
      exact q.anyL hn
    · cases d with
      | ref k =>
        dsimp only at h
        unfold Den at q
        obtain ⟨a, ka, rfl⟩ := q
        split at h
        · rename_i c0 hk
          obtain ⟨nz, o⟩ := w.own k a c0 ka hk
          exact deref_ok w h (o.den nz fun b z => .inl z)
        · cases h
      | lst ds =>
        dsimp only at h
        obtain ⟨es, h1, rfl⟩ := Option.map_eq_some_iff.mp h
        unfold Den at q ⊢
        obtain ⟨a, vs, r, nb, e, t⟩ := q
        exact ⟨a, vs, r, nb, e, derefs_ok w h1 t⟩
      | tup ds =>
        dsimp only at h
        obtain ⟨es, h1, rfl⟩ := Option.map_eq_some_iff.mp h
        unfold Den at q ⊢
        obtain ⟨a, vs, r, e, t⟩ := q
        exact ⟨a, vs, r, e, derefs_ok w h1 t⟩
      | dic ks ds =>
        dsimp only at h
        obtain ⟨es, h1, rfl⟩ := Option.map_eq_some_iff.mp h
        unfold Den at q ⊢
        obtain ⟨a, vs, r, nb, e, el, t⟩ := q
        exact ⟨a, vs, r, nb, e, el, derefs_ok w h1 t⟩
      | _ => cases h
theorem derefs_ok {T : List (Addr × Str)} {Z : Addr → Prop} {L L0 : List Addr} {st : Sto} {H : Hp} (w : Wd T Z L st H) : ∀ {n : Nat} {ds es : List Dt} {vs : List V}, derefs st n ds = some es → Dens L Z H ds vs → Dens L0 Z H es vs
  | n, [], es, vs, h, q => by
    have e : es = [] := by
      cases n <;> (unfold derefs at h; cases h; rfl)
    subst e
    unfold Dens at q ⊢
    exact q
  | 0, d :: ds, es, vs, h, q => by
    unfold derefs at h
    split at h
    · rename_i hn
      cases h
      exact q.anyL hn
    · cases h
  | n + 1, d :: ds, es, vs, h, q => by
    unfold derefs at h
    obtain ⟨e, h1, h2⟩ := bind_some' h
    obtain ⟨es', h3, rfl⟩ := Option.map_eq_some_iff.mp h2
    obtain ⟨v, r, rfl, p, t⟩ := q.uncons
    exact .cons (deref_ok w h1 p) (derefs_ok w h3 t)
end
def fV (F : List Dt → Sto → Option (Dt × Sto)) : List Dt → Option Dt := fun ds => (F ds []).bind fun x => deref x.2 6 x.1
def fR (F : List Dt → Sto → Option (Dt × Sto)) : List Dt → Option Dt := fun ds => (F ds []).bind fun x => match x.1 with
  | .ref k => (match x.2[k]? with
    | some (some (.lst ds)) => (derefs (x.2.set k none) 6 ds).map .lst
    | some (some (.dic ks ds)) => (derefs (x.2.set k none) 6 ds).map (.dic ks)
    | _ => none)
  | _ => none
def liftV (f : List Dt → Option Dt) : List Dt → Sto → Option (Dt × Sto) := fun ds st => if noRefs ds = true then (f ds).map fun d => (d, st) else none
def liftR (f : List Dt → Option Dt) : List Dt → Sto → Option (Dt × Sto) := fun ds st => if noRefs ds = true then (f ds).map fun d => (.ref st.length, st ++ [some d]) else none
section
variable {T : List (Addr × Str)} {Z : Addr → Prop} {L : List Addr} {st : Sto} {H : Hp}
theorem bad_nil {a : Addr} : Bad Z [] [] a ↔ Z a := ⟨fun z => z.elim id fun ⟨k, d, h, _⟩ => by simp at h, .inl⟩
/-- a callee's world, in which all that is live here is not to be touched -/
theorem Wd.inner (w : Wd T Z L st H) : Wd T (Bad Z L st) [] [] H :=
  ⟨w.tabs, rfl, fun i j a d e h => by simp at h, fun k a d h => by simp at h, fun a z => z.elim (w.zt a) w.livTrk⟩
theorem bad_inner : Bad (Bad Z L st) [] [] = Bad Z L st := funext fun a => propext bad_nil
/-- .. and back -/
theorem Wd.outer {L' : List Addr} {st' : Sto} {H' : Hp} (w : Wd T Z L st H) (f : Af T (Bad Z L st) [] [] H L' st' H') : Af T Z L st H L st H' := by
  have nl : ∀ b, ¬ Liv ([] : List Addr) ([] : Sto) b := fun b ⟨k, d, h, _⟩ => by simp at h
  have st : ∀ b u, H b = some u → (∀ ps, u ≠ .tbl ps) → H' b = some u := fun b u e n => f.kp b u e (nl b) n
  refine ⟨⟨f.wd.tabs, w.len, w.inj, fun k a d h1 h2 => ?_, fun a z => f.trk a (w.zt a z)⟩, ⟨[], by simp⟩, fun b u e _ n => st b u e n, fun a l => .inl l, f.trk, f.tp, fun k a h e => absurd (List.getElem?_eq_some_iff.mp e).1 (by omega), fun a z => .inl z⟩
  obtain ⟨nz, o, e, q⟩ := w.own k a d h1 h2
  refine ⟨nz, o, st a o e fun ps z => ?_, q.imp fun ds vs t => t.stay st⟩
  rcases q.kind with ⟨xs, y⟩ | ⟨kvs, y⟩ <;> (rw [y] at z; cases z)
variable {P : Program} {w : World} {K : PySem.W.Frag} {mg : Str → Option Value} {base : Heap} {k n : Nat} {f : Addr} {fd : FuncData} {ps : List Str} {F : List Dt → Sto → Option (Dt × Sto)}
theorem gfn_V (G : GFn P w K mg base k f fd ps (SpF T n F)) : GFn P w K mg base k f fd ps (SpF T n (liftV (fV F))) := by
  refine G.imp fun vs H Q h => ?_
  obtain ⟨Z, L, st, ds, d, st', hl, wd, dn, hF, q⟩ := h
  unfold liftV at hF
  split at hF
  case isFalse => cases hF
  case isTrue hn =>
  obtain ⟨d1, e1, e2⟩ := Option.map_eq_some_iff.mp hF
  cases e2
  obtain ⟨⟨d0, st0⟩, e3, e4⟩ := bind_some' e1
  refine ⟨Bad Z L st, [], [], ds, d0, st0, hl, wd.inner, by rw [bad_inner]; exact dn.anyL hn, e3, fun v H' L' ff p => ?_⟩
  exact q v H' L (wd.outer ff) (deref_ok ff.wd e4 (p.mono fun b z => .inl z))
theorem set_none {st : Sto} {j i : Nat} {x : Dt} (c : (st.set j none)[i]? = some (some x)) : j ≠ i ∧ st[i]? = some (some x) := by
  by_cases hj : j = i
  · subst hj
    rw [List.getElem?_set, if_pos rfl] at c
    split at c <;> cases c
  · rw [List.getElem?_set_ne hj] at c; exact ⟨hj, c⟩
/-- a live object is set apart -/
theorem Wd.toZ {a : Addr} {j : Nat} {c : Dt} (w : Wd T Z L st H) (h1 : L[j]? = some a) (h2 : st[j]? = some (some c)) : Wd T (zAnd Z a) L (st.set j none) H ∧ OwnAt L (Bad (zAnd Z a) L (st.set j none)) H a c := by
  have eb : ∀ b, Bad (zAnd Z a) L (st.set j none) b → Bad Z L st b := fun b z => by
    rcases z with (z | z) | ⟨i, d, i1, i2⟩
    · exact .inl z
    · rw [z]; exact .inr ⟨j, c, h1, h2⟩
    · exact .inr ⟨i, d, i1, (set_none i2).2⟩
  have tr : ∀ ds vs, Dens L (Bad Z L st) H ds vs → Dens L (Bad (zAnd Z a) L (st.set j none)) H ds vs := fun ds vs t => t.mono eb
  refine ⟨⟨w.tabs, by rw [List.length_set]; exact w.len, fun i k b x y a1 a2 a3 a4 => w.inj i k b x y a1 a2 (set_none a3).2 (set_none a4).2, fun i b d a1 a2 => ?_, fun b z => ?_⟩, ?_⟩
  · obtain ⟨nj, a2⟩ := set_none a2
    obtain ⟨nz, o, e, q⟩ := w.own i b d a1 a2
    refine ⟨fun z => z.elim nz fun y => nj ?_, o, e, q.imp tr⟩
    subst y
    exact w.inj j i b c d h1 a1 h2 a2
  · rcases z with z | z
    · exact w.zt b z
    · rw [z]; exact w.livTrk ⟨j, c, h1, h2⟩
  · obtain ⟨nz, o, e, q⟩ := w.own j a c h1 h2
    exact ⟨o, e, q.imp tr⟩
theorem gfn_R (G : GFn P w K mg base k f fd ps (SpF T n F)) : GFn P w K mg base k f fd ps (SpF T n (liftR (fR F))) := by
  refine G.imp fun vs H Q h => ?_
  obtain ⟨Z, L, st, ds, d, st', hl, wd, dn, hF, q⟩ := h
  unfold liftR at hF
  split at hF
  case isFalse => cases hF
  case isTrue hn =>
  obtain ⟨d1, e1, e2⟩ := Option.map_eq_some_iff.mp hF
  cases e2
  obtain ⟨⟨d0, st0⟩, e3, e4⟩ := bind_some' e1
  refine ⟨Bad Z L st, [], [], ds, d0, st0, hl, wd.inner, by rw [bad_inner]; exact dn.anyL hn, e3, fun v H' L' ff p => ?_⟩
  cases d0 with
  | ref j =>
    dsimp only at e4
    have fo := wd.outer ff
    unfold Den at p
    obtain ⟨a, ja, rfl⟩ := p
    have na : H a = none := ff.fr j a (Nat.zero_le _) ja
    have nl : ∀ b, ¬ Liv ([] : List Addr) ([] : Sto) b := fun b ⟨k, d, h, _⟩ => by simp at h
    have stay : ∀ b u, H b = some u → (∀ ps, u ≠ .tbl ps) → H' b = some u := fun b u e n => ff.kp b u e (nl b) n
    have hz : ∀ b, zAnd (Bad Z L st) a b ↔ Bad (zAnd Z a) L st b := fun b => by
      constructor
      · rintro ((z | z) | z)
        · exact .inl (.inl z)
        · exact .inr z
        · exact .inl (.inr z)
      · rintro ((z | z) | z)
        · exact .inl (.inl z)
        · exact .inr z
        · exact .inl (.inr z)
    -- the caller's world with a set apart
    have fz : Afz T Z L st H (zAnd Z a) L st H' := by
      refine ⟨⟨fo.wd.tabs, wd.len, wd.inj, fun i b x a1 a2 => ?_, fun b z => ?_⟩, fo.pre, fo.kp, fo.nw, fo.trk, fo.tp, fo.fr, fun b z => z.elim .inl fun y => .inr (by rw [y]; exact na)⟩
      · obtain ⟨nz, o, e, qq⟩ := wd.own i b x a1 a2
        refine ⟨fun z => z.elim nz (ne_of_none e na), o, stay b o e fun ps z => ?_, qq.imp fun ds vs t => ?_⟩
        · rcases qq.kind with ⟨xs, y⟩ | ⟨kvs, y⟩ <;> (rw [y] at z; cases z)
        · exact ((t.away na).stay stay).mono fun b z => by
            rcases (hz b).mpr z with z | z
            · exact .inl z
            · exact .inr z
      · rcases z with z | z
        · exact fo.trk b (wd.zt b z)
        · split at e4
          · rename_i xs hx
            rw [z]; exact ff.wd.livTrk ⟨j, _, ja, hx⟩
          · rename_i ks xs hx
            rw [z]; exact ff.wd.livTrk ⟨j, _, ja, hx⟩
          · cases e4
    have fin : ∀ o, H' a = some o → OwnO L (Bad (zAnd Z a) L st) H' o d1 → Q (.ref a) H' := fun o ho hd => by
      refine q _ H' (L ++ [a]) (fz.claim wd na ho hd) ?_
      unfold Den
      exact ⟨a, by rw [← wd.len]; simp, rfl⟩
    split at e4
    · rename_i xs hx
      obtain ⟨es, e5, rfl⟩ := Option.map_eq_some_iff.mp e4
      obtain ⟨wz, o, ho, us, rfl, t⟩ := ff.wd.toZ ja hx
      refine fin _ ho ⟨us, rfl, ?_⟩
      exact (derefs_ok (L0 := L) wz e5 (t.mono fun b z => .inl z)).mono fun b z => (hz b).mpr z
    · rename_i ks xs hx
      obtain ⟨es, e5, rfl⟩ := Option.map_eq_some_iff.mp e4
      obtain ⟨wz, o, ho, us, rfl, el, t⟩ := ff.wd.toZ ja hx
      refine fin _ ho ⟨us, rfl, el, ?_⟩
      exact (derefs_ok (L0 := L) wz e5 (t.mono fun b z => .inl z)).mono fun b z => (hz b).mpr z
    · cases e4
  | _ => cases e4
end
mutual
theorem Den.stayB {L : List Addr} {B : Addr → Prop} {H H' : Hp} (k : ∀ b u, H b = some u → (∀ ps, u ≠ .tbl ps) → ((∃ xs, u = .tup xs) ∨ ¬ B b) → H' b = some u) : ∀ {d : Dt} {v : V}, Den L B H d v → Den L B H' d v
  | .non, _, q => by unfold Den at q ⊢; exact q
  | .bl _, _, q => by unfold Den at q ⊢; exact q
  | .int _, _, q => by unfold Den at q ⊢; exact q
  | .str _, _, q => by unfold Den at q ⊢; exact q
  | .ref _, _, q => by unfold Den at q ⊢; exact q
  | .lst ds, _, q => by
    unfold Den at q ⊢
    obtain ⟨b, vs, r, nb, e, t⟩ := q
    exact ⟨b, vs, r, nb, k _ _ e (fun ps z => by cases z) (.inr nb), Dens.stayB k t⟩
  | .tup ds, _, q => by
    unfold Den at q ⊢
    obtain ⟨b, vs, r, e, t⟩ := q
    exact ⟨b, vs, r, k _ _ e (fun ps z => by cases z) (.inl ⟨_, rfl⟩), Dens.stayB k t⟩
  | .dic ks ds, _, q => by
    unfold Den at q ⊢
    obtain ⟨b, vs, r, nb, e, el, t⟩ := q
    exact ⟨b, vs, r, nb, rd_of e fun o eo => k b o eo (fun ps z => by subst z; rcases e with e | ⟨x, e⟩ <;> rw [eo] at e <;> cases e) (.inr nb), el, Dens.stayB k t⟩
theorem Dens.stayB {L : List Addr} {B : Addr → Prop} {H H' : Hp} (k : ∀ b u, H b = some u → (∀ ps, u ≠ .tbl ps) → ((∃ xs, u = .tup xs) ∨ ¬ B b) → H' b = some u) : ∀ {ds : List Dt} {vs : List V}, Dens L B H ds vs → Dens L B H' ds vs
  | [], _, q => by unfold Dens at q ⊢; exact q
  | d :: ds, _, q => by
    obtain ⟨v, r, rfl, p, t⟩ := q.uncons
    exact .cons (Den.stayB k p) (Dens.stayB k t)
end
/-! ### defs that change their first argument -/
def fE (F : List Dt → Sto → Option (Dt × Sto)) : Dt → List Dt → Option (Dt × Dt) := fun c ds => (F (.ref 0 :: ds) [some c]).bind fun x => match x.2[0]? with
  | some (some c') => if noRef c' = true then (deref (x.2.set 0 none) 6 x.1).map fun d => (d, c') else none
  | _ => none
def liftE (f : Dt → List Dt → Option (Dt × Dt)) : List Dt → Sto → Option (Dt × Sto) := fun ds st => match ds with
  | .ref k :: ds => if noRefs ds = true then (match st[k]? with
    | some (some c) => if noRef c = true then (f c ds).map fun x => (x.1, st.set k (some x.2)) else none
    | _ => none) else none
  | _ => none
theorem OwnO.anyL {L L' : List Addr} {B : Addr → Prop} {H : Hp} {o : HO} : ∀ {d : Dt}, noRef d = true → OwnO L B H o d → OwnO L' B H o d
  | .lst _, n, h => by unfold noRef at n; obtain ⟨vs, e, t⟩ := h; exact ⟨vs, e, t.anyL n⟩
  | .dic _ _, n, h => by unfold noRef at n; obtain ⟨vs, e, el, t⟩ := h; exact ⟨vs, e, el, t.anyL n⟩
section
variable {T : List (Addr × Str)} {P : Program} {w : World} {K : PySem.W.Frag} {mg : Str → Option Value} {base : Heap} {k n : Nat} {f : Addr} {fd : FuncData} {ps : List Str} {F : List Dt → Sto → Option (Dt × Sto)}
theorem gfn_E (G : GFn P w K mg base k f fd ps (SpF T n F)) : GFn P w K mg base k f fd ps (SpF T n (liftE (fE F))) := by
  refine G.imp fun vs H Q h => ?_
  obtain ⟨Z, L, st, ds, d, st', hl, wd, dn, hF, q⟩ := h
  unfold liftE at hF
  split at hF
  case h_2 => cases hF
  case h_1 k ds =>
  split at hF
  case isFalse => cases hF
  case isTrue hn =>
  split at hF
  case h_2 => cases hF
  case h_1 c hc =>
  split at hF
  case isFalse => cases hF
  case isTrue hnc =>
  obtain ⟨⟨d1, c1⟩, e1, e2⟩ := Option.map_eq_some_iff.mp hF
  cases e2
  obtain ⟨⟨d0, st0⟩, e3, e4⟩ := bind_some' e1
  obtain ⟨v0, us, rfl, p0, dn'⟩ := dn.uncons
  unfold Den at p0
  obtain ⟨a, ka, rfl⟩ := p0
  have la : Liv L st a := ⟨k, c, ka, hc⟩
  obtain ⟨nza, oa, ea, qa⟩ := wd.own k a c ka hc
  have ta : ∀ xs, oa ≠ .tup xs := fun xs z => by
    rcases qa.kind with ⟨ys, y⟩ | ⟨kvs, y⟩ <;> (rw [y] at z; cases z)
  let Z1 : Addr → Prop := fun b => Bad Z L st b ∧ b ≠ a
  have l1 : ∀ b, Liv [a] [some c] b ↔ b = a := fun b => by
    constructor
    · rintro ⟨j, x, j1, j2⟩
      cases j with
      | zero => simp at j1; exact j1.symm
      | succ j => simp at j1
    · rintro rfl
      exact ⟨0, c, rfl, rfl⟩
  have b1 : ∀ b, Bad Z1 [a] [some c] b → Bad Z L st b := fun b z => by
    rcases z with z | z
    · exact z.1
    · rw [(l1 b).mp z]; exact .inr la
  have w1 : Wd T Z1 [a] [some c] H := by
    refine ⟨wd.tabs, rfl, fun i j b x y a1 a2 _ _ => ?_, fun j b x a1 a2 => ?_, fun b z => z.1.elim (wd.zt b) wd.livTrk⟩
    · cases i with
      | zero =>
        cases j with
        | zero => rfl
        | succ j => simp at a2
      | succ i => simp at a1
    · cases j with
      | zero =>
        simp at a1 a2
        subst a1; subst a2
        exact ⟨fun z => z.2 rfl, oa, ea, (qa.imp fun ds vs t => t.mono b1).anyL hnc⟩
      | succ j => simp at a1
  have da : Dens [a] (Bad Z1 [a] [some c]) H (.ref 0 :: ds) (.ref a :: us) := by
    refine .cons ?_ ((dn'.mono b1).anyL hn)
    unfold Den
    exact ⟨a, rfl, rfl⟩
  refine ⟨Z1, [a], [some c], .ref 0 :: ds, d0, st0, hl, w1, da, e3, fun v H' L' ff p => ?_⟩
  dsimp only at e4
  split at e4
  case h_2 => cases e4
  case h_1 c' hc' =>
  split at e4
  case isFalse => cases e4
  case isTrue hnc' =>
  obtain ⟨d2, e5, e6⟩ := Option.map_eq_some_iff.mp e4
  cases e6
  have a0 : L'[0]? = some a := ff.ix rfl
  have lst : ∀ b, Liv L (st.set k (some c1)) b → Liv L st b := fun b ⟨j, x, j1, j2⟩ => by
    by_cases hj : k = j
    · subst hj
      rw [ka] at j1; cases j1
      exact la
    · rw [List.getElem?_set_ne hj] at j2
      exact ⟨j, x, j1, j2⟩
  have bz : ∀ b, Bad Z L (st.set k (some c1)) b → zAnd Z1 a b := fun b z => by
    by_cases hb : b = a
    · exact .inr hb
    · exact .inl ⟨z.elim .inl fun z => .inr (lst b z), hb⟩
  have bz2 : ∀ b, zAnd Z1 a b → Bad Z1 L' st0 b := fun b z => by
    rcases z with z | z
    · exact .inl z
    · rw [z]; exact .inr ⟨0, c1, a0, hc'⟩
  have stay : ∀ b u, b ≠ a → H b = some u → (∀ ps, u ≠ .tbl ps) → H' b = some u := fun b u nb e nt => ff.kp b u e (fun z => nb ((l1 b).mp z)) nt
  have bs : ∀ b, Bad Z L (st.set k (some c1)) b → Bad Z L st b := fun b z => z.elim .inl fun z => .inr (lst b z)
  have trD : ∀ ds vs, Dens L (Bad Z L st) H ds vs → Dens L (Bad Z L (st.set k (some c1))) H' ds vs := fun ds vs t =>
    (t.stayB fun b u e nt z => stay b u (fun y => by
      rcases z with ⟨xs, z⟩ | z
      · subst y; rw [ea] at e; cases e; exact ta xs z
      · exact z (by rw [y]; exact .inr la)) e nt).mono bs
  have hlt : k < st.length := (List.getElem?_eq_some_iff.mp hc).1
  refine q v H' L ⟨⟨ff.wd.tabs, by rw [List.length_set]; exact wd.len, fun i j b x y a1 a2 a3 a4 => ?_, fun j b x a1 a2 => ?_, fun b z => ff.trk b (wd.zt b z)⟩, ⟨[], by simp⟩, fun b u e nl nt => stay b u (fun y => nl (by rw [y]; exact la)) e nt, fun b z => .inl (lst b z), ff.trk, ff.tp, fun j b h e => absurd (List.getElem?_eq_some_iff.mp e).1 (by omega), fun b z => .inl z⟩ ?_
  · have g : ∀ (i : Nat) x, L[i]? = some b → (st.set k (some c1))[i]? = some (some x) → ∃ x', st[i]? = some (some x') := fun i x g1 g2 => by
      by_cases hj : k = i
      · subst hj; exact ⟨c, hc⟩
      · rw [List.getElem?_set_ne hj] at g2; exact ⟨x, g2⟩
    obtain ⟨x', g1⟩ := g i x a1 a3
    obtain ⟨y', g2⟩ := g j y a2 a4
    exact wd.inj i j b x' y' a1 a2 g1 g2
  · by_cases hj : k = j
    · subst hj
      rw [ka] at a1; cases a1
      rw [List.getElem?_set_self hlt] at a2
      cases a2
      obtain ⟨_, o, eo, qo⟩ := ff.wd.own 0 a c1 a0 hc'
      exact ⟨nza, o, eo, (qo.imp fun ds vs t => t.mono fun b z => bz2 b (bz b z)).anyL hnc'⟩
    · rw [List.getElem?_set_ne hj] at a2
      obtain ⟨nz, o, eo, qo⟩ := wd.own j b x a1 a2
      have nb : b ≠ a := fun y => by
        subst y
        exact hj (wd.inj k j b c x ka a1 hc a2)
      refine ⟨nz, o, stay b o nb eo fun ps z => ?_, qo.imp trD⟩
      rcases qo.kind with ⟨ys, y⟩ | ⟨kvs, y⟩ <;> (rw [y] at z; cases z)
  · obtain ⟨wz, _⟩ := ff.wd.toZ a0 hc'
    exact (deref_ok (L0 := L) wz e5 (p.mono bz2)).mono bz
end
end HB

set_option Elab.async false
set_option linter.all false
set_option maxRecDepth 100000
set_option maxHeartbeats 1000000
/-! HB, part f: operators and built-ins by values. -/
namespace HB
open PySem PySem.Spec PyProof.Rows L2

/-! ### what may be read -/
def asL (st : Sto) : Dt → Option (List Dt)
  | .lst ds => some ds
  | .ref k => (match st[k]? with
    | some (some (.lst ds)) => some ds
    | _ => none)
  | _ => none
def asD (st : Sto) : Dt → Option (List Key × List Dt)
  | .dic ks ds => some (ks, ds)
  | .ref k => (match st[k]? with
    | some (some (.dic ks ds)) => some (ks, ds)
    | _ => none)
  | _ => none
section
variable {T : List (Addr × Str)} {Z : Addr → Prop} {L : List Addr} {st : Sto} {H : Hp} {d : Dt} {v : V}
theorem asL_ok {ds : List Dt} (w : Wd T Z L st H) (h : Den L (Bad Z L st) H d v) (e : asL st d = some ds) : ∃ a vs, v = .ref a ∧ H a = some (.lst vs) ∧ Dens L (Bad Z L st) H ds vs := by
  cases d with
  | lst xs =>
    cases e
    unfold Den at h
    obtain ⟨a, vs, r, _, e, t⟩ := h
    exact ⟨a, vs, r, e, t⟩
  | ref k =>
    unfold asL at e
    dsimp only at e
    split at e
    · rename_i xs hk
      cases e
      unfold Den at h
      obtain ⟨a, ka, r⟩ := h
      obtain ⟨_, o, eo, vs, rfl, t⟩ := w.own k a _ ka hk
      exact ⟨a, vs, r, eo, t⟩
    · cases e
  | _ => cases e
theorem asD_ok {ks : List Key} {ds : List Dt} (w : Wd T Z L st H) (h : Den L (Bad Z L st) H d v) (e : asD st d = some (ks, ds)) : ∃ a vs, v = .ref a ∧ Rd H a (.dK (ks.zip vs)) ∧ ks.length = vs.length ∧ Dens L (Bad Z L st) H ds vs := by
  cases d with
  | dic xs ys =>
    cases e
    unfold Den at h
    obtain ⟨a, vs, r, _, e, el, t⟩ := h
    exact ⟨a, vs, r, e, el, t⟩
  | ref k =>
    unfold asD at e
    dsimp only at e
    split at e
    · rename_i xs ys hk
      cases e
      unfold Den at h
      obtain ⟨a, ka, r⟩ := h
      obtain ⟨_, o, eo, vs, rfl, el, t⟩ := w.own k a _ ka hk
      exact ⟨a, vs, r, .inl eo, el, t⟩
    · cases e
  | _ => cases e
end

/-! ### several rules for one operator -/
theorem OpR.or {X : Cx} {f : Value → Value → Sem Value} {r r' : R2} (h : OpR X f r) (h' : OpR X f r') : OpR X f (fun x y H Q => r x y H Q ∨ r' x y H Q) := by
  intro pins s s1 H x y v u Q I rx ry q
  rcases q with q | q
  · exact h pins s s1 H x y v u Q I rx ry q
  · exact h' pins s s1 H x y v u Q I rx ry q
theorem CallR.or {X : Cx} {f : Value} {r r' : List V → Hp → VK → Prop} (h : CallR X f r) (h' : CallR X f r') : CallR X f (fun x H Q => r x H Q ∨ r' x H Q) := by
  intro pins s s1 H x v Q I rx q
  rcases q with q | q
  · exact h pins s s1 H x v Q I rx q
  · exact h' pins s s1 H x v Q I rx q
/-! ### numbers -/
def gI (C : Int → Int → Bool) (f : Int → Int → Int) : Sto → Dt → Dt → Option (Dt × Sto) := fun st x y => match x, y with
  | .int i, .int j => if C i j = true then some (.int (f i j), st) else none
  | _, _ => none
def gIb (f : Int → Int → Bool) : Sto → Dt → Dt → Option (Dt × Sto) := fun st x y => match x, y with
  | .int i, .int j => some (.bl (f i j), st)
  | _, _ => none
section
variable {T : List (Addr × Str)}
theorem vo_I {C : Int → Int → Prop} {Cb : Int → Int → Bool} {f : Int → Int → Int} (hC : ∀ i j, Cb i j = true → C i j) : VO2 T (rI C fun i j => .int (f i j)) (gI Cb f) := by
  intro Z L st H x y dx dy d st' Q w hx hy h q
  unfold gI at h
  split at h
  · rename_i i j
    split at h
    · rename_i hc
      cases h
      exact ⟨i, j, den_int hx, den_int hy, hC i j hc, q _ H L (.refl w) Den.int⟩
    · cases h
  · cases h
theorem vo_I0 {f : Int → Int → Int} : VO2 T (rI0 fun i j => .int (f i j)) (gI (fun _ _ => true) f) := by
  intro Z L st H x y dx dy d st' Q w hx hy h q
  unfold gI at h
  split at h
  · rename_i i j
    cases h
    exact ⟨i, j, den_int hx, den_int hy, q _ H L (.refl w) Den.int⟩
  · cases h
theorem vo_Ib {f : Int → Int → Bool} : VO2 T (rI0 fun i j => .bl (f i j)) (gIb f) := by
  intro Z L st H x y dx dy d st' Q w hx hy h q
  unfold gIb at h
  split at h
  · rename_i i j
    cases h
    exact ⟨i, j, den_int hx, den_int hy, q _ H L (.refl w) Den.bl⟩
  · cases h
end
/-- great powers -/
def CPowW (i j : Int) : Prop := 0 ≤ j ∧ (Builtin.Int.intBits i : Int) * j ≤ 2 ^ 27
theorem op_powW {X : Cx} : OpR X (binaryOp .Pow) (rI CPowW fun i j => .int (i ^ j.toNat)) := opI fun _ _ _ _ _ _ _ hc q => pow_int hc.1 hc.2 q

/-! ### + -/
def rAddS : R2 := fun x y H Q => ∃ i j, x = .str i ∧ y = .str j ∧ i.length + j.length ≤ sizeLine ∧ Q (.str (i ++ j)) H
def rAdd : R2 := fun x y H Q => rI0 (fun i j => .int (i + j)) x y H Q ∨ rAddS x y H Q ∨ rCat x y H Q
theorem op_Add {X : Cx} : OpR X (binaryOp .Add) rAdd := OpR.or op_add (OpR.or op_add_str op_cat)
def gAdd (st : Sto) (x y : Dt) : Option (Dt × Sto) := match x, y with
  | .int i, .int j => some (.int (i + j), st)
  | .str i, .str j => if i.length + j.length ≤ sizeLine then some (.str (i ++ j), st) else none
  | x, y => (match asL st x, asL st y with
    | some a, some b => if a.length + b.length ≤ sizeLine then some (.lst (a ++ b), st) else none
    | _, _ => none)
section
variable {T : List (Addr × Str)}
theorem vo_Add : VO2 T rAdd gAdd := by
  intro Z L st H x y dx dy d st' Q w hx hy h q
  unfold gAdd at h
  split at h
  · cases h
    exact .inl ⟨_, _, den_int hx, den_int hy, q _ H L (.refl w) Den.int⟩
  · split at h
    · rename_i hl
      cases h
      exact .inr (.inl ⟨_, _, den_str hx, den_str hy, hl, q _ H L (.refl w) Den.str⟩)
    · cases h
  · split at h
    · rename_i a b ha hb
      split at h
      · rename_i hl
        cases h
        obtain ⟨p1, vs, rfl, e1, t1⟩ := asL_ok w hx ha
        obtain ⟨p2, us, rfl, e2, t2⟩ := asL_ok w hy hb
        refine .inr (.inr ⟨p1, p2, vs, us, rfl, rfl, e1, e2, by rw [← t1.len, ← t2.len]; exact hl, fun p np => q _ _ L (.new w np) (.newL w np (t1.append t2))⟩)
      · cases h
    · cases h
end

/-! ### flat data -/
def flatD : Dt → Option V
  | .non => some .non
  | .bl b => some (.bl b)
  | .int i => some (.int i)
  | .str x => some (.str x)
  | _ => none
theorem flatD_ok {L : List Addr} {B : Addr → Prop} {H : Hp} {d : Dt} {v x : V} (h : Den L B H d v) (e : flatD d = some x) : v = x ∧ flatV x = true := by
  cases d <;> (unfold flatD at e; first | (cases e; done) | (cases e; unfold Den at h; exact ⟨h, rfl⟩))
def flats : List Dt → Option (List V)
  | [] => some []
  | d :: ds => (flatD d).bind fun x => (flats ds).map fun xs => x :: xs
theorem flats_ok {L : List Addr} {B : Addr → Prop} {H : Hp} : ∀ {ds : List Dt} {vs xs : List V}, Dens L B H ds vs → flats ds = some xs → vs = xs ∧ xs.all flatV = true
  | [], vs, xs, h, e => by
    cases e
    unfold Dens at h
    exact ⟨h, rfl⟩
  | d :: ds, vs, xs, h, e => by
    obtain ⟨v, r, rfl, p, t⟩ := h.uncons
    obtain ⟨x, e1, e2⟩ := bind_some' e
    obtain ⟨ys, e3, rfl⟩ := Option.map_eq_some_iff.mp e2
    obtain ⟨h1, h2⟩ := flatD_ok p e1
    obtain ⟨h3, h4⟩ := flats_ok t e3
    subst h1; subst h3
    exact ⟨rfl, by rw [List.all_cons, h2, h4]; rfl⟩
theorem flatD_str (x : Str) : flatD (.str x) = some (.str x) := rfl
theorem flats_map {α : Type} (f : α → Dt) (g : α → V) (h : ∀ a, flatD (f a) = some (g a)) : ∀ l : List α, flats (l.map f) = some (l.map g)
  | [] => rfl
  | a :: l => by
    show (flatD (f a)).bind _ = _
    rw [h a, Option.bind_some, flats_map f g h l]
    rfl
/-! ### nested data as the library's -/
def py (st : Sto) : Nat → Dt → Option PyData
  | 0, _ => none
  | n + 1, d => match d with
    | .non => some .none
    | .bl b => some (.bool b)
    | .int i => some (.int i)
    | .str x => some (.str x)
    | .ref k => (match st[k]? with
      | some (some c) => py st n c
      | _ => none)
    | .lst ds => (ds.mapM (py st n)).map .list
    | .tup ds => (ds.mapM (py st n)).map .tuple
    | .dic _ _ => none
theorem py_ok {T : List (Addr × Str)} {Z B : Addr → Prop} {L : List Addr} {st : Sto} {H : Hp} {K : PySem.W.Frag} (w : Wd T Z L st H) : ∀ {n : Nat} {d : Dt} {p : PyData} {v : V}, py st n d = some p → Den L Z H d v → Dp K H v p
  | 0, d, p, v, h, q => by cases h
  | n + 1, d, p, v, h, q => by
    have all : ∀ {ds : List Dt} {ps : List PyData} {vs : List V}, ds.mapM (py st n) = some ps → Dens L Z H ds vs → DpAll K H vs ps := by
      intro ds
      induction ds with
      | nil =>
        intro ps vs h q
        cases h
        unfold Dens at q
        subst q
        exact .nil
      | cons d ds ih =>
        intro ps vs h q
        rw [List.mapM_cons] at h
        obtain ⟨p, h1, h2⟩ := bind_some' h
        obtain ⟨ps', h3, h4⟩ := bind_some' h2
        cases h4
        obtain ⟨v, r, rfl, a, t⟩ := q.uncons
        exact .cons (py_ok (B := B) w h1 a) (ih h3 t)
    unfold py at h
    cases d with
    | non => cases h; unfold Den at q; subst q; exact .non
    | bl b => cases h; unfold Den at q; subst q; exact .bl b
    | int i => cases h; unfold Den at q; subst q; exact .int i
    | str x => cases h; unfold Den at q; subst q; exact .str x
    | ref k =>
      dsimp only at h
      unfold Den at q
      obtain ⟨a, ka, rfl⟩ := q
      split at h
      · rename_i c hk
        obtain ⟨nz, o⟩ := w.own k a c ka hk
        exact py_ok (B := B) w h (o.den nz fun b z => .inl z)
      · cases h
    | lst ds =>
      dsimp only at h
      obtain ⟨ps, h1, rfl⟩ := Option.map_eq_some_iff.mp h
      unfold Den at q
      obtain ⟨a, vs, rfl, nb, e, t⟩ := q
      exact .lst (SqL.of e) (all h1 t)
    | tup ds =>
      dsimp only at h
      obtain ⟨ps, h1, rfl⟩ := Option.map_eq_some_iff.mp h
      unfold Den at q
      obtain ⟨a, vs, rfl, e, t⟩ := q
      exact .tup (SqT.of e) (all h1 t)
    | dic ks ds => cases h

/-! ### == and != -/
def rEqA (K : PySem.W.Frag) : R2 := fun x y H Q => rEq x y H Q ∨ rEqD K x y H Q
def rNeA (K : PySem.W.Frag) : R2 := fun x y H Q => rNe x y H Q ∨ rNeD K x y H Q
theorem op_EqA {X : Cx} (hu : X.A.units + 64 < cLine) : OpR X (compareOp .Eq) (rEqA X.K) := OpR.or op_eq (op_eqD hu)
theorem op_NeA {X : Cx} (hu : X.A.units + 64 < cLine) : OpR X (compareOp .NotEq) (rNeA X.K) := OpR.or op_ne (op_neD hu)
def eqD (st : Sto) (x y : Dt) : Option Bool := match flatD x, flatD y with
  | some a, some b => if scal a b = true then some (decide (a = b)) else none
  | _, _ => (py st 8 x).bind fun a => (py st 8 y).bind fun b => if (SeqAt.shaped a && SeqAt.shaped b) = true then some (PyData.eqv a b) else none
def gEq (st : Sto) (x y : Dt) : Option (Dt × Sto) := (eqD st x y).map fun b => (.bl b, st)
def gNe (st : Sto) (x y : Dt) : Option (Dt × Sto) := (eqD st x y).map fun b => (.bl (!b), st)
section
variable {T : List (Addr × Str)} {K : PySem.W.Frag}
theorem vo_Eq : VO2 T (rEqA K) gEq := by
  intro Z L st H x y dx dy d st' Q w hx hy h q
  obtain ⟨b, h1, h2⟩ := Option.map_eq_some_iff.mp h
  cases h2
  have q' := q _ H L (.refl w) Den.bl
  unfold eqD at h1
  split at h1
  · rename_i a c ha hc
    split at h1
    · rename_i hs
      cases h1
      obtain ⟨rfl, _⟩ := flatD_ok hx ha
      obtain ⟨rfl, _⟩ := flatD_ok hy hc
      exact .inl ⟨hs, q'⟩
    · cases h1
  · obtain ⟨a, e1, e2⟩ := bind_some' h1
    obtain ⟨c, e3, e4⟩ := bind_some' e2
    split at e4
    · rename_i hs
      cases e4
      rw [Bool.and_eq_true] at hs
      exact .inr ⟨a, c, py_ok (B := Z) w e1 (hx.mono fun b z => .inl z), py_ok (B := Z) w e3 (hy.mono fun b z => .inl z), hs.1, hs.2, q'⟩
    · cases e4
theorem vo_Ne : VO2 T (rNeA K) gNe := by
  intro Z L st H x y dx dy d st' Q w hx hy h q
  obtain ⟨b, h1, h2⟩ := Option.map_eq_some_iff.mp h
  cases h2
  have q' := q _ H L (.refl w) Den.bl
  unfold eqD at h1
  split at h1
  · rename_i a c ha hc
    split at h1
    · rename_i hs
      cases h1
      obtain ⟨rfl, _⟩ := flatD_ok hx ha
      obtain ⟨rfl, _⟩ := flatD_ok hy hc
      exact .inl ⟨hs, q'⟩
    · cases h1
  · obtain ⟨a, e1, e2⟩ := bind_some' h1
    obtain ⟨c, e3, e4⟩ := bind_some' e2
    split at e4
    · rename_i hs
      cases e4
      rw [Bool.and_eq_true] at hs
      exact .inr ⟨a, c, py_ok (B := Z) w e1 (hx.mono fun b z => .inl z), py_ok (B := Z) w e3 (hy.mono fun b z => .inl z), hs.1, hs.2, q'⟩
    · cases e4
end

/-! ### tables by parallel lists -/
def keyD : Dt → Option Key
  | .int i => some (.inl i)
  | .str x => some (.inr x)
  | _ => none
theorem keyD_ok {L : List Addr} {B : Addr → Prop} {H : Hp} {d : Dt} {v : V} {k : Key} (h : Den L B H d v) (e : keyD d = some k) : v = kV k := by
  cases d <;> (unfold keyD at e; first | (cases e; done) | (cases e; unfold Den at h; exact h))
def pGet {α : Type} (k : Key) : List Key → List α → Option α
  | k' :: ks, x :: xs => if k' = k then some x else pGet k ks xs
  | _, _ => none
def pSet {α : Type} (k : Key) (x : α) : List Key → List α → List α
  | k' :: ks, y :: ys => (if k' = k then x else y) :: pSet k x ks ys
  | _, _ => []
def pPut {α : Type} (k : Key) (x : α) (ks : List Key) (ys : List α) : List Key × List α := if (ks.any fun j => decide (j = k)) = true then (ks, pSet k x ks ys) else (ks ++ [k], ys ++ [x])
theorem pGet_val (k : Key) : ∀ (ks : List Key) (vs : List V), valV (ks.zip vs) k = pGet k ks vs
  | [], _ => rfl
  | _ :: _, [] => rfl
  | k' :: ks, v :: vs => by
    rw [List.zip_cons_cons]
    unfold pGet
    by_cases e : k' = k
    · rw [if_pos e]; exact valV_pos (p := (k', v)) e
    · rw [if_neg e, valV_neg (p := (k', v)) e, pGet_val k ks vs]
theorem pSet_len {α : Type} (k : Key) (x : α) : ∀ (ks : List Key) (ys : List α), ks.length = ys.length → (pSet k x ks ys).length = ys.length
  | [], [], _ => rfl
  | [], _ :: _, h => by simp at h
  | _ :: _, [], h => by simp at h
  | k' :: ks, y :: ys, h => by simp [pSet, pSet_len k x ks ys (by simpa using h)]
theorem pPut_len {α : Type} (k : Key) (x : α) {ks : List Key} {ys : List α} (h : ks.length = ys.length) : (pPut k x ks ys).1.length = (pPut k x ks ys).2.length := by
  unfold pPut
  split
  · simp [pSet_len k x ks ys h, h]
  · simp [h]
theorem pPut_keys {α β : Type} (k : Key) (x : α) (y : β) (ks : List Key) (xs : List α) (ys : List β) : (pPut k x ks xs).1 = (pPut k y ks ys).1 := by
  unfold pPut
  split <;> rfl
theorem zip_any (k : Key) : ∀ (ks : List Key) (vs : List V), ks.length = vs.length → ((ks.zip vs).any fun kv => decide (kv.1 = k)) = ks.any fun j => decide (j = k)
  | [], [], _ => by simp
  | [], _ :: _, h => by simp at h
  | _ :: _, [], h => by simp at h
  | k' :: ks, y :: ys, h => by
    rw [List.zip_cons_cons, List.any_cons, List.any_cons, zip_any k ks ys (by simpa using h)]
theorem zip_put (k : Key) (v : V) : ∀ (ks : List Key) (vs : List V), ks.length = vs.length → (ks.zip vs).map (fun kv => if kv.1 = k then (kv.1, v) else kv) = ks.zip (pSet k v ks vs)
  | [], [], _ => rfl
  | [], _ :: _, h => by simp at h
  | _ :: _, [], h => by simp at h
  | k' :: ks, y :: ys, h => by
    rw [List.zip_cons_cons, List.map_cons, zip_put k v ks ys (by simpa using h)]
    show _ = (k' :: ks).zip ((if k' = k then v else y) :: pSet k v ks ys)
    rw [List.zip_cons_cons]
    by_cases e : k' = k
    · rw [if_pos e, if_pos e]
    · rw [if_neg e, if_neg e]
theorem pPut_zip (k : Key) (v : V) {ks : List Key} {vs : List V} (h : ks.length = vs.length) : putK (ks.zip vs) k v = (pPut k v ks vs).1.zip (pPut k v ks vs).2 := by
  unfold putK pPut
  rw [zip_any k ks vs h]
  split
  · exact zip_put k v ks vs h
  · show ks.zip vs ++ [(k, v)] = (ks ++ [k]).zip (vs ++ [v])
    rw [List.zip_append h]
    rfl
theorem Dens.pSet {L : List Addr} {B : Addr → Prop} {H : Hp} {d : Dt} {v : V} (q : Den L B H d v) (k : Key) : ∀ {ks : List Key} {ds : List Dt} {vs : List V}, Dens L B H ds vs → Dens L B H (pSet k d ks ds) (pSet k v ks vs)
  | [], ds, vs, h => by unfold HB.pSet; exact .nil
  | k' :: ks, [], vs, h => by unfold Dens at h; subst h; exact .nil
  | k' :: ks, e :: ds, vs, h => by
    obtain ⟨w, r, rfl, p, t⟩ := h.uncons
    unfold HB.pSet
    refine .cons ?_ (Dens.pSet q k t)
    split
    · exact q
    · exact p
theorem Dens.pPut {L : List Addr} {B : Addr → Prop} {H : Hp} {d : Dt} {v : V} (q : Den L B H d v) (k : Key) {ks : List Key} {ds : List Dt} {vs : List V} (h : Dens L B H ds vs) : Dens L B H (pPut k d ks ds).2 (pPut k v ks vs).2 := by
  unfold HB.pPut
  split
  · exact h.pSet q k
  · exact h.append (.cons q .nil)
theorem Dens.pGet {L : List Addr} {B : Addr → Prop} {H : Hp} (k : Key) : ∀ {ks : List Key} {ds : List Dt} {vs : List V}, Dens L B H ds vs → (pGet k ks ds = none ∧ pGet k ks vs = none) ∨ ∃ d v, pGet k ks ds = some d ∧ pGet k ks vs = some v ∧ Den L B H d v
  | [], ds, vs, h => .inl ⟨rfl, rfl⟩
  | k' :: ks, [], vs, h => by unfold Dens at h; subst h; exact .inl ⟨rfl, rfl⟩
  | k' :: ks, e :: ds, vs, h => by
    obtain ⟨w, r, rfl, p, t⟩ := h.uncons
    unfold HB.pGet
    split
    · exact .inr ⟨e, w, rfl, rfl, p⟩
    · exact Dens.pGet k t
end HB

set_option Elab.async false
set_option linter.all false
set_option maxRecDepth 100000
set_option maxHeartbeats 1000000
/-! HB, part g: subscripts, slices, in, len, isinstance, displays, methods, what is walked. -/
namespace HB
open PySem PySem.Spec PyProof.Rows L2

/-! ### in -/
def rDIn (neg : Bool) : R2 := fun x y H Q => ∃ a o, y = .ref a ∧ DGet H a x o ∧ Q (.bl (if neg then !o.isSome else o.isSome)) H
theorem op_dIn {X : Cx} (hu : X.A.units + 1 < cLine) : OpR X (compareOp .In) (rDIn false) := by
  intro pins s s1 H x y v u Q I rx ry q
  obtain ⟨a, o, rfl, g, q⟩ := q
  cases ry
  exact d_in hu I g rx fun s' I' => ⟨.bl _, H, I', rfl, q⟩
theorem op_dNotIn {X : Cx} (hu : X.A.units + 1 < cLine) : OpR X (compareOp .NotIn) (rDIn true) := by
  intro pins s s1 H x y v u Q I rx ry q
  obtain ⟨a, o, rfl, g, q⟩ := q
  cases ry
  exact d_notIn hu I g rx fun s' I' => ⟨.bl _, H, I', rfl, q⟩
def rSIn (neg : Bool) : R2 := fun x y H Q => ∃ i j, x = .str i ∧ y = .str j ∧ Q (.bl (if neg then (Builtin.Str.occurrences j i 0 j.length 1).isEmpty else !(Builtin.Str.occurrences j i 0 j.length 1).isEmpty)) H
def rInA (K : PySem.W.Frag) (neg : Bool) : R2 := fun x y H Q => rIn K neg x y H Q ∨ rDIn neg x y H Q
theorem op_InA {X : Cx} (hu : X.A.units + 1 < cLine) : OpR X (compareOp .In) (rInA X.K false) := OpR.or op_in_seq (op_dIn hu)
theorem op_NotInA {X : Cx} (hu : X.A.units + 1 < cLine) : OpR X (compareOp .NotIn) (rInA X.K true) := OpR.or op_notIn_seq (op_dNotIn hu)
def inD (st : Sto) (x y : Dt) : Option Bool := match asL st y with
  | some ds => (flatD x).bind fun a => (flats ds).map fun vs => inV a vs
  | none => (match asD st y with
    | some (ks, ds) => (keyD x).map fun k => (pGet k ks ds).isSome
    | none => none)
def gIn (neg : Bool) (st : Sto) (x y : Dt) : Option (Dt × Sto) := (inD st x y).map fun b => (.bl (if neg then !b else b), st)
section
variable {T : List (Addr × Str)} {K : PySem.W.Frag}
theorem vo_In {neg : Bool} : VO2 T (rInA K neg) (gIn neg) := by
  intro Z L st H x y dx dy d st' Q w hx hy h q
  obtain ⟨b, h1, h2⟩ := Option.map_eq_some_iff.mp h
  cases h2
  have q' := q _ H L (.refl w) Den.bl
  unfold inD at h1
  split at h1
  · rename_i ds hd
    obtain ⟨a, e1, e2⟩ := bind_some' h1
    obtain ⟨vs, e3, rfl⟩ := Option.map_eq_some_iff.mp e2
    obtain ⟨p, us, rfl, ep, t⟩ := asL_ok w hy hd
    obtain ⟨rfl, f1⟩ := flatD_ok hx e1
    obtain ⟨rfl, f2⟩ := flats_ok t e3
    exact .inl ⟨p, us, rfl, .inl (SqL.of ep), f1, f2, q'⟩
  · split at h1
    · rename_i ks ds hd
      obtain ⟨k, e1, rfl⟩ := Option.map_eq_some_iff.mp h1
      obtain ⟨p, us, rfl, ep, el, t⟩ := asD_ok w hy hd
      have ek := keyD_ok hx e1
      have hg : (pGet k ks us).isSome = (pGet k ks ds).isSome := by
        rcases t.pGet k (ks := ks) with ⟨z1, z2⟩ | ⟨d, v, z1, z2, _⟩ <;> rw [z1, z2] <;> rfl
      rw [← hg] at q'
      exact .inr ⟨p, pGet k ks us, rfl, .inl ⟨_, k, ep, ek, (pGet_val k ks us).symm⟩, q'⟩
    · cases h1
end

/-! ### order -/
def rLeS : R2 := fun x y H Q => ∃ i j, x = .str i ∧ y = .str j ∧ Q (.bl (!decide (j.cps.toList < i.cps.toList))) H
def rLeA : R2 := fun x y H Q => rI0 (fun i j => .bl (decide (i ≤ j))) x y H Q ∨ rLeS x y H Q
theorem op_LeA {X : Cx} : OpR X (compareOp .LtE) rLeA := OpR.or op_le op_le_str
def gLe (st : Sto) (x y : Dt) : Option (Dt × Sto) := match x, y with
  | .int i, .int j => some (.bl (decide (i ≤ j)), st)
  | .str i, .str j => some (.bl (!decide (j.cps.toList < i.cps.toList)), st)
  | _, _ => none
section
variable {T : List (Addr × Str)} {K : PySem.W.Frag}
theorem vo_Le : VO2 T rLeA gLe := by
  intro Z L st H x y dx dy d st' Q w hx hy h q
  unfold gLe at h
  split at h
  · cases h; exact .inl ⟨_, _, den_int hx, den_int hy, q _ H L (.refl w) Den.bl⟩
  · cases h; exact .inr ⟨_, _, den_str hx, den_str hy, q _ H L (.refl w) Den.bl⟩
  · cases h
end

/-! ### subscripts -/
def rIxDic : R2 := fun x y H Q => ∃ a v, x = .ref a ∧ DGet H a y (some v) ∧ Q v H
def rIxA (K : PySem.W.Frag) : R2 := fun x y H Q => rIx K x y H Q ∨ rIxDic x y H Q
def gIx (st : Sto) (x y : Dt) : Option (Dt × Sto) := match x with
  | .tup ds => (match y with
    | .int i => (atI ds i).map fun d => (d, st)
    | _ => none)
  | .str z => (match y with
    | .int i => if z.length ≤ sizeLine then (atI z.cps.toList i).map fun c => (.str ⟨#[c]⟩, st) else none
    | _ => none)
  | x => (match asL st x with
    | some ds => (match y with
      | .int i => (atI ds i).map fun d => (d, st)
      | _ => none)
    | none => (match asD st x with
      | some (ks, ds) => (keyD y).bind fun k => (pGet k ks ds).map fun d => (d, st)
      | none => none))
theorem dens_atI {L : List Addr} {B : Addr → Prop} {H : Hp} {ds : List Dt} {vs : List V} {i : Int} {d : Dt} (t : Dens L B H ds vs) (e : atI ds i = some d) : ∃ v, atI vs i = some v ∧ Den L B H d v := by
  unfold atI at e ⊢
  rw [← t.len]
  obtain ⟨j, e1, e2⟩ := bind_some' e
  obtain ⟨v, h1, h2⟩ := t.get e2
  exact ⟨v, by rw [e1]; exact h1, h2⟩
section
variable {T : List (Addr × Str)} {K : PySem.W.Frag}
theorem vo_Ix : VO2 T (rIxA K) gIx := by
  intro Z L st H x y dx dy d st' Q w hx hy h q
  unfold gIx at h
  split at h
  · rename_i ds
    split at h
    · obtain ⟨d', e1, e2⟩ := Option.map_eq_some_iff.mp h
      cases e2
      unfold Den at hx
      obtain ⟨a, vs, rfl, ea, t⟩ := hx
      obtain ⟨v, h1, h2⟩ := dens_atI t e1
      exact .inl (.inr (.inl ⟨a, vs, _, v, rfl, den_int hy, SqT.of ea, h1, q v H L (.refl w) h2⟩))
    · cases h
  · split at h
    · split at h
      · rename_i hz
        obtain ⟨c, e1, e2⟩ := Option.map_eq_some_iff.mp h
        cases e2
        exact .inl (.inr (.inr ⟨_, _, c, den_str hx, den_int hy, hz, e1, q _ H L (.refl w) Den.str⟩))
      · cases h
    · cases h
  · split at h
    · rename_i ds hd
      split at h
      · obtain ⟨d', e1, e2⟩ := Option.map_eq_some_iff.mp h
        cases e2
        obtain ⟨a, vs, rfl, ea, t⟩ := asL_ok w hx hd
        obtain ⟨v, h1, h2⟩ := dens_atI t e1
        exact .inl (.inl ⟨a, vs, _, v, rfl, den_int hy, SqL.of ea, h1, q v H L (.refl w) h2⟩)
      · cases h
    · split at h
      · rename_i ks ds hd
        obtain ⟨k, e1, e2⟩ := bind_some' h
        obtain ⟨d', e3, e4⟩ := Option.map_eq_some_iff.mp e2
        cases e4
        obtain ⟨p, us, rfl, ep, el, t⟩ := asD_ok w hx hd
        rcases t.pGet k (ks := ks) with ⟨z1, z2⟩ | ⟨d2, v, z1, z2, z3⟩
        · rw [z1] at e3; cases e3
        · rw [z1] at e3; cases e3
          exact .inr ⟨p, v, rfl, .inl ⟨_, k, ep, keyD_ok hy e1, by rw [pGet_val, z2]⟩, q v H L (.refl w) z3⟩
      · cases h
end
/-! ### slices -/
def cutL {α : Type} (xs : List α) (lo hi : Option Int) : List α := (xs.drop (HT.sIx xs.length 0 lo)).take (HT.sIx xs.length xs.length hi - HT.sIx xs.length 0 lo)
def rSlA (K : PySem.W.Frag) : V → Option Int → Option Int → Hp → VK → Prop := fun x lo hi H Q => rSlL K x lo hi H Q ∨ rSlS x lo hi H Q
theorem sl_any {X : Cx} : SlR X (rSlA X.K) := SlR.or sl_list sl_str
abbrev SO := Evr → Sto → Option (Option Int × Sto)
def SimO (T : List (Addr × Str)) (t : TO) (f : SO) : Prop := ∀ Z L st H s r o st' (Q : Option Int → Hp → Prop), Wd T Z L st H → EnvOk L (Bad Z L st) H r s → f r st = some (o, st') →
  (∀ H' L', Af T Z L st H L' st' H' → Q o H') → t s H Q
def oNo : SO := fun _ st => some (none, st)
def oE (f : SE) : SO := fun r st => (f r st).bind fun x => match x.1 with
  | .int i => some (some i, x.2)
  | _ => none
def gSl (st : Sto) (x : Dt) (lo hi : Option Int) : Option Dt := match x with
  | .str z => if z.length ≤ sizeLine then some (.str (cutS z lo hi)) else none
  | x => (asL st x).map fun ds => .lst (cutL ds lo hi)
def eSl (f : SE) (l h : SO) : SE := fun r st => (f r st).bind fun x => (l r x.2).bind fun a => (h r a.2).bind fun b => (gSl b.2 x.1 a.1 b.1).map fun d => (d, b.2)
section
variable {T : List (Addr × Str)} {K : PySem.W.Frag}
theorem sim_oNo : SimO T tNoPart oNo := by
  intro Z L st H s r o st' Q w e h q
  cases h
  exact q H L (.refl w)
theorem sim_oE {te : TE} {f : SE} (hf : SimE T te f) : SimO T (tPart te) (oE f) := by
  intro Z L st H s r o st' Q w e h q
  obtain ⟨⟨dx, st1⟩, h1, h⟩ := bind_some' h
  refine hf Z L st H s r dx st1 _ w e h1 fun x H1 L1 f1 p1 => ?_
  cases dx with
  | int i => cases h; exact ⟨i, den_int p1, q H1 L1 f1⟩
  | _ => cases h
theorem sim_sl {te : TE} {tl th : TO} {f : SE} {l h : SO} (hf : SimE T te f) (hl : SimO T tl l) (hh : SimO T th h) : SimE T (tSl (rSlA K) te tl th) (eSl f l h) := by
  intro Z L st H s r d st' Q w e hq q
  obtain ⟨⟨dx, st1⟩, h1, hq⟩ := bind_some' hq
  obtain ⟨⟨lo, st2⟩, h2, hq⟩ := bind_some' hq
  obtain ⟨⟨hi, st3⟩, h3, hq⟩ := bind_some' hq
  obtain ⟨d', h4, h5⟩ := Option.map_eq_some_iff.mp hq
  cases h5
  refine hf Z L st H s r dx st1 _ w e h1 fun x H1 L1 f1 p1 => ?_
  refine hl Z L1 st1 H1 s r lo st2 _ f1.wd (e.keep f1) h2 fun H2 L2 f2 => ?_
  refine hh Z L2 st2 H2 s r hi st3 _ f2.wd ((e.keep f1).keep f2) h3 fun H3 L3 f3 => ?_
  have p3 := (p1.keep f2).keep f3
  have fa := f1.trans (f2.trans f3)
  dsimp only at h4
  unfold gSl at h4
  split at h4
  · split at h4
    · rename_i hz
      cases h4
      exact .inr ⟨_, den_str p3, hz, q _ H3 L3 fa Den.str⟩
    · cases h4
  · obtain ⟨ds, h5, rfl⟩ := Option.map_eq_some_iff.mp h4
    obtain ⟨a, vs, rfl, ea, t⟩ := asL_ok f3.wd p3 h5
    refine .inl ⟨a, vs, rfl, SqL.of ea, fun p np => q _ _ L3 (fa.trans (.new f3.wd np)) ?_⟩
    refine .newL f3.wd np ?_
    show Dens _ _ _ (cutL ds lo hi) (cutV vs lo hi)
    unfold cutL cutV
    rw [t.len]
    exact (t.drop _).take _
end

/-! ### len, isinstance, int, all, any -/
def rLenA (K : PySem.W.Frag) : List V → Hp → VK → Prop := fun xs H Q => ((∃ p ys, xs = [.ref p] ∧ (SqL K H p ys ∨ SqT K H p ys) ∧ Q (.int ys.length) H) ∨ (∃ z, xs = [.str z] ∧ z.length ≤ sizeLine ∧ Q (.int z.length) H)) ∨ ∃ a kvs, xs = [.ref a] ∧ Rd H a (.dK kvs) ∧ Q (.int kvs.length) H
theorem call_lenA {X : Cx} : CallR X (.builtin "len") (rLenA X.K) := by
  refine CallR.or (CallR.or call_len_seq call_len_str) ?_
  intro pins s s1 H xs us Q I r q
  obtain ⟨a, kvs, rfl, hd, q⟩ := q
  obtain rfl := Vals.ref1 r
  exact d_len I hd fun t s' I' => ⟨.int _, H, I', ⟨t, rfl⟩, q⟩
def gLen (st : Sto) (xs : List Dt) : Option (Dt × Sto) := match xs with
  | [.str z] => if z.length ≤ sizeLine then some (.int z.length, st) else none
  | [.tup ds] => some (.int ds.length, st)
  | [x] => (match asL st x with
    | some ds => some (.int ds.length, st)
    | none => (asD st x).map fun y => (.int y.1.length, st))
  | _ => none
theorem dens1 {L : List Addr} {B : Addr → Prop} {H : Hp} {d : Dt} {vs : List V} (h : Dens L B H [d] vs) : ∃ v, vs = [v] ∧ Den L B H d v := by
  obtain ⟨v, r, rfl, p, t⟩ := h.uncons
  unfold Dens at t
  subst t
  exact ⟨v, rfl, p⟩
theorem dens2 {L : List Addr} {B : Addr → Prop} {H : Hp} {d e : Dt} {vs : List V} (h : Dens L B H [d, e] vs) : ∃ v u, vs = [v, u] ∧ Den L B H d v ∧ Den L B H e u := by
  obtain ⟨v, r, rfl, p, t⟩ := h.uncons
  obtain ⟨u, rfl, q⟩ := dens1 t
  exact ⟨v, u, rfl, p, q⟩
section
variable {T : List (Addr × Str)} {K : PySem.W.Frag}
theorem vo_len : VON T (rLenA K) gLen := by
  intro Z L st H xs dxs d st' Q w hx h q
  unfold gLen at h
  split at h
  · obtain ⟨v, rfl, p⟩ := dens1 hx
    split at h
    · rename_i hz
      cases h
      exact .inl (.inr ⟨_, by rw [den_str p], hz, q _ H L (.refl w) Den.int⟩)
    · cases h
  · obtain ⟨v, rfl, p⟩ := dens1 hx
    cases h
    unfold Den at p
    obtain ⟨a, vs, rfl, ea, t⟩ := p
    refine .inl (.inl ⟨a, vs, rfl, .inr (SqT.of ea), ?_⟩)
    rw [← t.len]
    exact q _ H L (.refl w) Den.int
  · obtain ⟨v, rfl, p⟩ := dens1 hx
    split at h
    · rename_i ds hd
      cases h
      obtain ⟨a, vs, rfl, ea, t⟩ := asL_ok w p hd
      refine .inl (.inl ⟨a, vs, rfl, .inl (SqL.of ea), ?_⟩)
      rw [← t.len]
      exact q _ H L (.refl w) Den.int
    · obtain ⟨⟨ks, ds⟩, e1, e2⟩ := Option.map_eq_some_iff.mp h
      cases e2
      obtain ⟨a, us, rfl, ea, el, t⟩ := asD_ok w p e1
      refine .inr ⟨a, _, rfl, ea, ?_⟩
      have e3 : (ks.zip us).length = ks.length := by rw [List.length_zip]; omega
      rw [e3]
      exact q _ H L (.refl w) Den.int
  · cases h
def gInt (st : Sto) (xs : List Dt) : Option (Dt × Sto) := match xs with
  | [.int i] => some (.int i, st)
  | _ => none
theorem vo_int : VON T (fun xs H Q => (∃ i, xs = [.int i] ∧ Q (.int i) H) ∨ ∃ k, xs = [.bl k] ∧ Q (.int (if k then 1 else 0)) H) gInt := by
  intro Z L st H xs dxs d st' Q w hx h q
  unfold gInt at h
  split at h
  · obtain ⟨v, rfl, p⟩ := dens1 hx
    cases h
    exact .inl ⟨_, by rw [den_int p], q _ H L (.refl w) Den.int⟩
  · cases h
def bools : List Dt → Option (List Bool)
  | [] => some []
  | .bl b :: ds => (bools ds).map fun bs => b :: bs
  | _ => none
theorem bools_ok {L : List Addr} {B : Addr → Prop} {H : Hp} : ∀ {ds : List Dt} {vs : List V} {bs : List Bool}, Dens L B H ds vs → bools ds = some bs → vs = bs.map V.bl
  | [], vs, bs, h, e => by
    cases e
    unfold Dens at h
    exact h
  | .bl b :: ds, vs, bs, h, e => by
    obtain ⟨v, r, rfl, p, t⟩ := h.uncons
    unfold bools at e
    obtain ⟨bs', e1, rfl⟩ := Option.map_eq_some_iff.mp e
    rw [den_bl p, bools_ok t e1]
    rfl
  | .non :: _, _, _, _, e => by cases e
  | .int _ :: _, _, _, _, e => by cases e
  | .str _ :: _, _, _, _, e => by cases e
  | .ref _ :: _, _, _, _, e => by cases e
  | .lst _ :: _, _, _, _, e => by cases e
  | .tup _ :: _, _, _, _, e => by cases e
  | .dic _ _ :: _, _, _, _, e => by cases e
theorem bools_map {α : Type} (f : α → Bool) : ∀ l : List α, bools (l.map fun a => .bl (f a)) = some (l.map f)
  | [] => rfl
  | a :: l => by
    show (bools (l.map fun a => .bl (f a))).map _ = _
    rw [bools_map f l]
    rfl
def gAll (st : Sto) (xs : List Dt) : Option (Dt × Sto) := match xs with
  | [x] => (asL st x).bind fun ds => (bools ds).map fun bs => (.bl (bs.all id), st)
  | _ => none
def gAny (st : Sto) (xs : List Dt) : Option (Dt × Sto) := match xs with
  | [x] => (asL st x).bind fun ds => (bools ds).map fun bs => (.bl (bs.any id), st)
  | _ => none
theorem vo_all : VON T (rAll K) gAll := by
  intro Z L st H xs dxs d st' Q w hx h q
  unfold gAll at h
  split at h
  · obtain ⟨v, rfl, p⟩ := dens1 hx
    obtain ⟨ds, e1, e2⟩ := bind_some' h
    obtain ⟨bs, e3, e4⟩ := Option.map_eq_some_iff.mp e2
    cases e4
    obtain ⟨a, vs, rfl, ea, t⟩ := asL_ok w p e1
    rw [bools_ok t e3] at ea
    exact ⟨a, bs, rfl, SqL.of ea, q _ H L (.refl w) Den.bl⟩
  · cases h
theorem vo_any : VON T (rAny K) gAny := by
  intro Z L st H xs dxs d st' Q w hx h q
  unfold gAny at h
  split at h
  · obtain ⟨v, rfl, p⟩ := dens1 hx
    obtain ⟨ds, e1, e2⟩ := bind_some' h
    obtain ⟨bs, e3, e4⟩ := Option.map_eq_some_iff.mp e2
    cases e4
    obtain ⟨a, vs, rfl, ea, t⟩ := asL_ok w p e1
    rw [bools_ok t e3] at ea
    exact ⟨a, bs, rfl, SqL.of ea, q _ H L (.refl w) Den.bl⟩
  · cases h
end

/-! ### displays -/
def toT (f : SA) : SE := fun r st => (f r st).bind fun z => if z.1.length ≤ sizeLine then some (.tup z.1, z.2) else none
def small (f : SA) : SA := fun r st => (f r st).bind fun z => if z.1.length ≤ sizeLine then some z else none
section
variable {T : List (Addr × Str)} {K : PySem.W.Frag}
theorem sim_lstV {t : TA} {f : SA} (hf : SimA T t f) : SimE T (tLst t) (toV (small f)) := by
  intro Z L st H s r d st' Q w e h q
  obtain ⟨⟨zs, st1⟩, h1, h2⟩ := bind_some' h
  cases h2
  obtain ⟨⟨ys, st2⟩, h3, h4⟩ := bind_some' h1
  split at h4
  · rename_i hz
    cases h4
    refine hf Z L st H s r _ _ _ w e h3 fun vs H1 L1 f1 p1 => ⟨by rw [← p1.len]; exact hz, fun p np => ?_⟩
    exact q _ _ L1 (f1.trans (.new f1.wd np)) (.newL f1.wd np p1)
  · cases h4
theorem sim_lstR {t : TA} {f : SA} (hf : SimA T t f) : SimE T (tLst t) (toR (small f)) := by
  intro Z L st H s r d st' Q w e h q
  obtain ⟨⟨zs, st1⟩, h1, h2⟩ := bind_some' h
  cases h2
  obtain ⟨⟨ys, st2⟩, h3, h4⟩ := bind_some' h1
  split at h4
  · rename_i hz
    cases h4
    refine hf Z L st H s r _ _ _ w e h3 fun vs H1 L1 f1 p1 => ⟨by rw [← p1.len]; exact hz, fun p np => ?_⟩
    refine q _ _ (L1 ++ [p]) (f1.trans (.newR f1.wd np ⟨vs, rfl, p1⟩)) ?_
    unfold Den
    exact ⟨p, by rw [← f1.wd.len]; simp, rfl⟩
  · cases h4
theorem sim_tup {t : TA} {f : SA} (hf : SimA T t f) : SimE T (tTup t) (toT f) := by
  intro Z L st H s r d st' Q w e h q
  obtain ⟨⟨zs, st1⟩, h1, h4⟩ := bind_some' h
  split at h4
  · rename_i hz
    cases h4
    refine hf Z L st H s r _ _ _ w e h1 fun vs H1 L1 f1 p1 => ⟨by rw [← p1.len]; exact hz, fun p np => ?_⟩
    exact q _ _ L1 (f1.trans (.new f1.wd np)) (.newT f1.wd np p1)
  · cases h4
/-- {} -/
def eDR : SE := fun _ st => some (.ref st.length, st ++ [some (.dic [] [])])
theorem sim_dnewR : SimE T tDNewK eDR := by
  intro Z L st H s r d st' Q w e h q
  cases h
  intro p np
  refine q _ _ (L ++ [p]) (.newR w np ⟨[], rfl, rfl, .nil⟩) ?_
  unfold Den
  exact ⟨p, by rw [← w.len]; simp, rfl⟩
/-- d[k] = v of a live dict -/
def sDP (fd fk fv : SE) : SS := fun r st => (fv r st).bind fun x => (fd r x.2).bind fun y => (fk r y.2).bind fun z => match y.1 with
  | .ref i => (match z.2[i]? with
    | some (some (.dic ks ds)) => if ks.length < sizeLine then (keyD z.1).map fun k => .nx r (z.2.set i (some (.dic (pPut k x.1 ks ds).1 (pPut k x.1 ks ds).2))) else none
    | _ => none)
  | _ => none
theorem sim_dput {td ty tv : TE} {fd fk fv : SE} (hd : SimE T td fd) (hk : SimE T ty fk) (hv : SimE T tv fv) : SimS T (sDPut td ty tv) (sDP fd fk fv) := by
  intro Z L st H s r o D w e h q
  obtain ⟨⟨dv, st1⟩, h1, h⟩ := bind_some' h
  obtain ⟨⟨dd, st2⟩, h2, h⟩ := bind_some' h
  obtain ⟨⟨dk, st3⟩, h3, h⟩ := bind_some' h
  refine hv Z L st H s r dv st1 _ w e h1 fun v H1 L1 f1 p1 => ?_
  refine hd Z L1 st1 H1 s r dd st2 _ f1.wd (e.keep f1) h2 fun x H2 L2 f2 p2 => ?_
  refine hk Z L2 st2 H2 s r dk st3 _ f2.wd ((e.keep f1).keep f2) h3 fun y H3 L3 f3 p3 => ?_
  cases dd with
  | ref i =>
    dsimp only at h
    split at h
    · rename_i ks ds hi
      split at h
      · rename_i hz
        obtain ⟨k, e1, e2⟩ := Option.map_eq_some_iff.mp h
        cases e2
        have p2' := p2.keep f3
        unfold Den at p2'
        obtain ⟨a, ia, rfl⟩ := p2'
        obtain ⟨nz, oo, eo, vs, rfl, el, t⟩ := f3.wd.own i a _ ia hi
        have ek := keyD_ok p3 e1
        have pv := (p1.keep f2).keep f3
        refine ⟨a, _, rfl, .inl ⟨ks.zip vs, k, eo, ek, by rw [List.length_zip]; omega, rfl⟩, ?_⟩
        have dl : ds.length = vs.length := t.len
        have af := Afz.wr (o := .dK (putK (ks.zip vs) k v)) (d' := .dic (pPut k dv ks ds).1 (pPut k dv ks ds).2) f3.wd ia hi ⟨(pPut k v ks vs).2, by
          rw [pPut_zip k v el, pPut_keys k v dv ks vs ds], by
          rw [pPut_keys k dv v ks ds vs]; exact pPut_len k v el, Dens.pPut pv k t⟩
        exact q s _ L3 (f1.trans (f2.trans (f3.trans af))) ((((e.keep f1).keep f2).keep f3).keep af)
      · cases h
    · cases h
  | _ => cases h
end

/-! ### methods -/
def eM (ok : Sto → Dt → Bool) (g : Sto → Dt → List Dt → Option (Dt × Sto)) (fo : SE) (fa : SA) : SE := fun r st => (fo r st).bind fun x => if ok x.2 x.1 = true then (fa r x.2).bind fun y => g y.2 x.1 y.1 else none
def isS (_ : Sto) : Dt → Bool
  | .str _ => true
  | _ => false
def isL (st : Sto) (d : Dt) : Bool := (asL st d).isSome
section
variable {T : List (Addr × Str)} {K : PySem.W.Frag}
theorem sim_bmS {r : V → List V → Hp → VK → Prop} {to : TE} {t : TA} {fo : SE} {fa : SA} {g : Sto → Dt → List Dt → Option (Dt × Sto)} (ho : SimE T to fo) (ha : SimA T t fa) (hg : VOM T r g) : SimE T (tBM K "str" r to t) (eM isS g fo fa) := by
  intro Z L st H s rr d st' Q w e h q
  obtain ⟨⟨dx, st1⟩, h1, h⟩ := bind_some' h
  split at h
  case isFalse => cases h
  case isTrue hs =>
  obtain ⟨⟨dy, st2⟩, h2, h⟩ := bind_some' h
  refine ho Z L st H s rr dx st1 _ w e h1 fun x H1 L1 f1 p1 => ⟨?_, ?_⟩
  · cases dx with
    | str z => rw [den_str p1]; rfl
    | _ => cases hs
  refine ha Z L1 st1 H1 s rr dy st2 _ f1.wd (e.keep f1) h2 fun ys H2 L2 f2 p2 => ?_
  exact hg Z L2 st2 H2 x ys dx dy d st' Q f2.wd (p1.keep f2) p2 h fun v H3 L3 f3 p3 => q v H3 L3 (f1.trans (f2.trans f3)) p3
theorem sim_bmL {r : V → List V → Hp → VK → Prop} {to : TE} {t : TA} {fo : SE} {fa : SA} {g : Sto → Dt → List Dt → Option (Dt × Sto)} (ho : SimE T to fo) (ha : SimA T t fa) (hg : VOM T r g) : SimE T (tBM K "list" r to t) (eM isL g fo fa) := by
  intro Z L st H s rr d st' Q w e h q
  obtain ⟨⟨dx, st1⟩, h1, h⟩ := bind_some' h
  split at h
  case isFalse => cases h
  case isTrue hs =>
  obtain ⟨⟨dy, st2⟩, h2, h⟩ := bind_some' h
  refine ho Z L st H s rr dx st1 _ w e h1 fun x H1 L1 f1 p1 => ⟨?_, ?_⟩
  · obtain ⟨ds, hd⟩ := Option.isSome_iff_exists.mp hs
    obtain ⟨a, vs, rfl, ea, t⟩ := asL_ok f1.wd p1 hd
    exact .inl ⟨rfl, vs, SqL.of ea⟩
  refine ha Z L1 st1 H1 s rr dy st2 _ f1.wd (e.keep f1) h2 fun ys H2 L2 f2 p2 => ?_
  exact hg Z L2 st2 H2 x ys dx dy d st' Q f2.wd (p1.keep f2) p2 h fun v H3 L3 f3 p3 => q v H3 L3 (f1.trans (f2.trans f3)) p3
/-- xs.append(y) of a live list -/
def gApp (st : Sto) (x : Dt) (ys : List Dt) : Option (Dt × Sto) := match x, ys with
  | .ref k, [y] => (match st[k]? with
    | some (some (.lst ds)) => if ds.length < sizeLine then some (.non, st.set k (some (.lst (ds ++ [y])))) else none
    | _ => none)
  | _, _ => none
theorem vo_append : VOM T rAppend gApp := by
  intro Z L st H x xs dx dxs d st' Q w hx hxs h q
  unfold gApp at h
  split at h
  · rename_i k y
    split at h
    · rename_i ds hk
      split at h
      · rename_i hz
        cases h
        obtain ⟨v, rfl, p⟩ := dens1 hxs
        unfold Den at hx
        obtain ⟨a, ka, rfl⟩ := hx
        obtain ⟨nz, o, eo, vs, rfl, t⟩ := w.own k a _ ka hk
        refine ⟨a, vs, v, rfl, rfl, eo, by rw [← t.len]; exact hz, ?_⟩
        exact q _ _ L (Afz.wr (o := .lst (vs ++ [v])) w ka hk ⟨vs ++ [v], rfl, t.append (.cons p .nil)⟩) Den.non
      · cases h
    · cases h
  · cases h
def gEnds (st : Sto) (x : Dt) (ys : List Dt) : Option (Dt × Sto) := match x, ys with
  | .str a, [.str b] => some (.bl (Txt.endswith a b), st)
  | _, _ => none
theorem vo_ends : VOM T (fun x xs H Q => ∃ a b, x = .str a ∧ xs = [.str b] ∧ Q (.bl (Txt.endswith a b)) H) gEnds := by
  intro Z L st H x xs dx dxs d st' Q w hx hxs h q
  unfold gEnds at h
  split at h
  · cases h
    obtain ⟨v, rfl, p⟩ := dens1 hxs
    exact ⟨_, _, den_str hx, by rw [den_str p], q _ H L (.refl w) Den.bl⟩
  · cases h
def strs' : List Dt → Option (List Str)
  | [] => some []
  | .str b :: ds => (strs' ds).map fun bs => b :: bs
  | _ => none
theorem strs_ok {L : List Addr} {B : Addr → Prop} {H : Hp} : ∀ {ds : List Dt} {vs : List V} {bs : List Str}, Dens L B H ds vs → strs' ds = some bs → vs = bs.map V.str
  | [], vs, bs, h, e => by
    cases e
    unfold Dens at h
    exact h
  | .str b :: ds, vs, bs, h, e => by
    obtain ⟨v, r, rfl, p, t⟩ := h.uncons
    unfold strs' at e
    obtain ⟨bs', e1, rfl⟩ := Option.map_eq_some_iff.mp e
    rw [den_str p, strs_ok t e1]
    rfl
  | .non :: _, _, _, _, e => by cases e
  | .int _ :: _, _, _, _, e => by cases e
  | .bl _ :: _, _, _, _, e => by cases e
  | .ref _ :: _, _, _, _, e => by cases e
  | .lst _ :: _, _, _, _, e => by cases e
  | .tup _ :: _, _, _, _, e => by cases e
  | .dic _ _ :: _, _, _, _, e => by cases e
theorem strs_map {α : Type} (f : α → Str) : ∀ l : List α, strs' (l.map fun a => .str (f a)) = some (l.map f)
  | [] => rfl
  | a :: l => by
    show (strs' (l.map fun a => .str (f a))).map _ = _
    rw [strs_map f l]
    rfl
def gJoin (st : Sto) (x : Dt) (y : Dt) : Option (Dt × Sto) := match x with
  | .str a => (asL st y).bind fun ds => (strs' ds).bind fun ys => if (ys.map (·.length)).sum + ys.length * a.length ≤ 16777216 then some (.str (Txt.join a ys), st) else none
  | _ => none
def eM1 (g : Sto → Dt → Dt → Option (Dt × Sto)) (fo fe : SE) : SE := fun r st => (fo r st).bind fun x => if isS x.2 x.1 = true then (fe r x.2).bind fun y => g y.2 x.1 y.1 else none
theorem sim_join {to te : TE} {fo fe : SE} (ho : SimE T to fo) (he : SimE T te fe) : SimE T (tM1 (fun x xs H Q => ∃ a p, ∃ ys : List Str, x = .str a ∧ xs = [.ref p] ∧ (SqL K H p (ys.map V.str) ∨ SqT K H p (ys.map V.str)) ∧
    (ys.map (·.length)).sum + ys.length * a.length ≤ 16777216 ∧ Q (.str (Txt.join a ys)) H) to te) (eM1 gJoin fo fe) := by
  intro Z L st H s rr d st' Q w e h q
  obtain ⟨⟨dx, st1⟩, h1, h⟩ := bind_some' h
  split at h
  case isFalse => cases h
  case isTrue hs =>
  obtain ⟨⟨dy, st2⟩, h2, h⟩ := bind_some' h
  refine ho Z L st H s rr dx st1 _ w e h1 fun x H1 L1 f1 p1 => ⟨?_, ?_⟩
  · cases dx with
    | str z => exact ⟨z, den_str p1⟩
    | _ => cases hs
  refine he Z L1 st1 H1 s rr dy st2 _ f1.wd (e.keep f1) h2 fun y H2 L2 f2 p2 => ?_
  dsimp only at h
  unfold gJoin at h
  split at h
  · obtain ⟨ds, e1, e2⟩ := bind_some' h
    obtain ⟨ys, e3, e4⟩ := bind_some' e2
    split at e4
    · rename_i hz
      cases e4
      obtain ⟨p, vs, rfl, ep, t⟩ := asL_ok f2.wd p2 e1
      rw [strs_ok t e3] at ep
      exact ⟨_, p, ys, den_str p1, rfl, .inl (SqL.of ep), hz, q _ H2 L2 (f1.trans f2) Den.str⟩
    · cases e4
  · cases h
end

/-! ### isinstance -/
def tyD (st : Sto) : Dt → Option String
  | .non => some "NoneType"
  | .bl _ => some "bool"
  | .int _ => some "int"
  | .str _ => some "str"
  | .lst _ => some "list"
  | .tup _ => some "tuple"
  | .dic _ _ => none
  | .ref k => (match st[k]? with
    | some (some (.lst _)) => some "list"
    | some (some (.dic _ _)) => some "dict"
    | _ => none)
def gIsi (c : String) (st : Sto) (xs : List Dt) : Option (Dt × Sto) := match xs with
  | [x] => (tyD st x).bind fun t => (kitB t c).map fun b => (.bl b, st)
  | _ => none
end HB

set_option Elab.async false
set_option linter.all false
set_option maxRecDepth 100000
set_option maxHeartbeats 1000000
/-! HB, part h: isinstance, what is walked, dict comprehensions, promises as calls. -/
namespace HB
open PySem PySem.Spec PyProof.Rows L2

section
variable {T : List (Addr × Str)} {K : PySem.W.Frag}
/-! ### isinstance -/
def tyD2 (st : Sto) : Dt → Option String
  | .dic _ _ => some "dict"
  | d => tyD st d
def gIs (c : String) (st : Sto) (xs : List Dt) : Option (Dt × Sto) := match xs with
  | [x] => (tyD2 st x).bind fun t => (kitB t c).map fun b => (.bl b, st)
  | _ => none
theorem tyD_ok {Z : Addr → Prop} {L : List Addr} {st : Sto} {H : Hp} {d : Dt} {v : V} {n : String} (w : Wd T Z L st H) (h : Den L (Bad Z L st) H d v) (e : tyD2 st d = some n) : TyX K H v (.type n) := by
  cases d with
  | non => cases e; rw [den_non h]; exact .base .non
  | bl b => cases e; rw [den_bl h]; exact .base (.bl b)
  | int b => cases e; rw [den_int h]; exact .base (.int b)
  | str b => cases e; rw [den_str h]; exact .base (.str b)
  | lst ds =>
    cases e
    unfold Den at h
    obtain ⟨a, vs, rfl, _, ea, _⟩ := h
    exact .base (.lst ea)
  | tup ds =>
    cases e
    unfold Den at h
    obtain ⟨a, vs, rfl, ea, _⟩ := h
    exact .base (.tup ea)
  | dic ks ds =>
    cases e
    unfold Den at h
    obtain ⟨a, vs, rfl, _, ea, _⟩ := h
    rcases ea with ea | ⟨o, ea⟩
    · exact .base (.dK ea)
    · exact .fDict ea
  | ref k =>
    unfold tyD2 tyD at e
    dsimp only at e
    unfold Den at h
    obtain ⟨a, ka, rfl⟩ := h
    split at e
    · rename_i hk
      cases e
      obtain ⟨_, o, eo, vs, rfl, _⟩ := w.own k a _ ka hk
      exact .base (.lst eo)
    · rename_i hk
      cases e
      obtain ⟨_, o, eo, vs, rfl, _⟩ := w.own k a _ ka hk
      exact .base (.dK eo)
    · cases e
theorem sim_isi {te : TE} {f : SE} {c : String} (hf : SimE T te f) : SimE T (tCB (rIsi K) (tCons te (tCons (tC (.ty c)) tNil))) (eN (gIs c) (aCons f aNil)) := by
  intro Z L st H s r d st' Q w e h q
  obtain ⟨⟨ds, st1⟩, h1, h⟩ := bind_some' h
  obtain ⟨⟨dx, st2⟩, h2, h3⟩ := bind_some' h1
  cases h3
  refine hf Z L st H s r dx _ _ w e h2 fun x H1 L1 f1 p1 => ?_
  dsimp only at h
  unfold gIs at h
  obtain ⟨t, e1, e2⟩ := bind_some' h
  obtain ⟨b, e3, e4⟩ := Option.map_eq_some_iff.mp e2
  cases e4
  exact ⟨x, .ty c, .type t, .type c, b, rfl, .ty c, tyD_ok f1.wd p1 e1, kit_ty e3, q _ H1 L1 f1 Den.bl⟩

/-! ### promises as calls -/
def gF (n : Nat) (F : List Dt → Sto → Option (Dt × Sto)) (st : Sto) (ds : List Dt) : Option (Dt × Sto) := if ds.length = n then F ds st else none
theorem sim_g {n : Nat} {F : List Dt → Sto → Option (Dt × Sto)} {t : TA} {f : SA} (hf : SimA T t f) : SimE T (tG n (SpF T n F) t) (eN (gF n F) f) := by
  intro Z L st H s r d st' Q w e h q
  obtain ⟨⟨ds, st1⟩, h1, h⟩ := bind_some' h
  refine hf Z L st H s r ds st1 _ w e h1 fun vs H1 L1 f1 p1 => ?_
  dsimp only at h
  unfold gF at h
  split at h
  · rename_i hl
    have hv : vs.length = n := by rw [← p1.len]; exact hl
    exact ⟨hv, Z, L1, st1, ds, d, st', hv, f1.wd, p1, h, fun v H2 L2 f2 p2 => q v H2 L2 (f1.trans f2) p2⟩
  · cases h
/-- by keywords: p tells which parameter each keyword names -/
def gFk (n : Nat) (p : List Nat) (F : List Dt → Sto → Option (Dt × Sto)) (st : Sto) (ds : List Dt) : Option (Dt × Sto) :=
  if ds.length = p.length ∧ p.length = n then F ((List.range n).map fun i => ds.getD (p.idxOf i) .non) st else none
theorem dens_getD {L : List Addr} {B : Addr → Prop} {H : Hp} {ds : List Dt} {vs : List V} (h : Dens L B H ds vs) (i : Nat) : Den L B H (ds.getD i .non) (vs.getD i .non) := by
  rw [List.getD_eq_getElem?_getD, List.getD_eq_getElem?_getD]
  cases e : ds[i]? with
  | none =>
    have : vs[i]? = none := by rw [List.getElem?_eq_none_iff] at e ⊢; rw [← h.len]; exact e
    rw [this]
    exact Den.non
  | some d =>
    obtain ⟨v, h1, h2⟩ := h.get e
    rw [h1]
    exact h2
theorem dens_mapR {L : List Addr} {B : Addr → Prop} {H : Hp} {f : Nat → Dt} {g : Nat → V} (h : ∀ i, Den L B H (f i) (g i)) : ∀ l : List Nat, Dens L B H (l.map f) (l.map g)
  | [] => .nil
  | i :: l => .cons (h i) (dens_mapR h l)
theorem sim_gk {n : Nat} {p : List Nat} {F : List Dt → Sto → Option (Dt × Sto)} {t : TA} {f : SA} (hf : SimA T t f) (hp : p.Perm (List.range n)) : SimE T (tGk n p (SpF T n F) t) (eN (gFk n p F) f) := by
  intro Z L st H s r d st' Q w e h q
  obtain ⟨⟨ds, st1⟩, h1, h⟩ := bind_some' h
  refine hf Z L st H s r ds st1 _ w e h1 fun vs H1 L1 f1 p1 => ?_
  dsimp only at h
  unfold gFk at h
  split at h
  · rename_i hl
    have hv : vs.length = p.length := by rw [← p1.len]; exact hl.1
    have nd : p.Nodup := hp.nodup_iff.mpr List.nodup_range
    refine ⟨(List.range n).map fun i => vs.getD (p.idxOf i) .non, by simp, ?_, Z, L1, st1, (List.range n).map fun i => ds.getD (p.idxOf i) .non, d, st', by simp, f1.wd, dens_mapR (fun i => dens_getD p1 _) _, h, fun v H2 L2 f2 p2 => q v H2 L2 (f1.trans f2) p2⟩
    apply List.ext_getElem
    · rw [List.length_map, hv]
    · intro j h1 h2
      rw [List.getElem_map]
      have hj : j < p.length := by rw [List.length_map] at h2; exact h2
      have hin : p[j] < n := by
        have : p[j] ∈ p := List.getElem_mem _
        have := hp.mem_iff.mp this
        simpa using this
      have hid : p.idxOf p[j] = j := by
        have := List.idxOf_lt_length_iff.mpr (List.getElem_mem (l := p) (n := j) hj)
        have e2 : p[p.idxOf p[j]] = p[j] := List.getElem_idxOf this
        exact nodupIx nd (List.getElem?_eq_some_iff.mpr ⟨this, e2⟩) (List.getElem?_eq_some_iff.mpr ⟨hj, rfl⟩)
      simp [List.getD_eq_getElem?_getD, hin, hid, h1]
  · cases h

/-! ### what is walked -/
def iE (g : Sto → Dt → Option (List Dt)) (f : SE) : SA := fun r st => (f r st).bind fun x => (g x.2 x.1).map fun xs => (xs, x.2)
/-- a list that is not live -/
def itL (_ : Sto) : Dt → Option (List Dt)
  | .lst ds => some ds
  | _ => none
theorem sim_iL {te : TE} {f : SE} (hf : SimE T te f) : SimI T (iList K te) (iE itL f) := by
  intro Z L st H s r xs st' Q w e h q
  obtain ⟨⟨dx, st1⟩, h1, h2⟩ := bind_some' h
  obtain ⟨ys, h3, h4⟩ := Option.map_eq_some_iff.mp h2
  cases h4
  refine hf Z L st H s r dx _ _ w e h1 fun x H1 L1 f1 p1 => ?_
  cases dx with
  | lst ds =>
    cases h3
    have p1' := p1
    unfold Den at p1'
    obtain ⟨a, vs, rfl, nb, ea, t⟩ := p1'
    refine ⟨a, rfl, ⟨vs, SqL.of ea⟩, q _ H1 L1 f1 fun Z2 L2 st2 H2 f2 => ?_⟩
    have ea2 : H2 a = some (.lst vs) := f2.kp a _ ea (fun z => nb (.inr z)) (fun ps z => by cases z)
    have t2 := t.keep f2
    refine ⟨⟨vs, SqL.of ea2, Nat.le_of_eq t.len.symm⟩, fun i d hd => ?_⟩
    obtain ⟨v, hv, pv⟩ := t2.get hd
    refine ⟨⟨vs, v, SqL.of ea2, hv⟩, fun x H3 y => ?_⟩
    obtain ⟨rfl, y⟩ := y
    have := y vs (SqL.of ea2)
    rw [hv] at this
    cases this
    exact ⟨.refl f2.wd, pv⟩
  | _ => cases h3
/-- a text, sign by sign -/
def itS (_ : Sto) : Dt → Option (List Dt)
  | .str z => some (z.cps.toList.map fun c => .str ⟨#[c]⟩)
  | _ => none
theorem sim_iS {te : TE} {f : SE} (hf : SimE T te f) : SimI T (iStr te) (iE itS f) := by
  intro Z L st H s r xs st' Q w e h q
  obtain ⟨⟨dx, st1⟩, h1, h2⟩ := bind_some' h
  obtain ⟨ys, h3, h4⟩ := Option.map_eq_some_iff.mp h2
  cases h4
  refine hf Z L st H s r dx _ _ w e h1 fun x H1 L1 f1 p1 => ?_
  cases dx with
  | str z =>
    cases h3
    refine ⟨z, den_str p1, q _ H1 L1 f1 fun Z2 L2 st2 H2 f2 => ⟨?_, fun i d hd => ?_⟩⟩
    · show z.cps.size ≤ _
      rw [List.length_map, Array.length_toList]
      exact Nat.le_refl _
    · rw [List.getElem?_map] at hd
      obtain ⟨c, hc, rfl⟩ := Option.map_eq_some_iff.mp hd
      have hc' : z.cps[i]? = some c := by rw [Array.getElem?_toList] at hc; exact hc
      refine ⟨(Array.getElem?_eq_some_iff.mp hc').1, fun x H3 y => ?_⟩
      obtain ⟨rfl, c', y1, rfl⟩ := y
      rw [hc'] at y1
      cases y1
      exact ⟨.refl f2.wd, Den.str⟩
  | _ => cases h3
/-- range(n), range(a, b) -/
def rngL (lo : Int) (n : Nat) : List Dt := (List.range n).map fun i => .int (lo + (i : Nat))
theorem walk_rng {Z : Addr → Prop} {L : List Addr} {st : Sto} {H : Hp} (lo : Int) (n : Nat) : WalkD T Z L st H (Itr lo n) (rngL lo n) := by
  intro Z2 L2 st2 H2 f2
  refine ⟨?_, fun i d hd => ?_⟩
  · show n ≤ (rngL lo n).length
    unfold rngL
    simp
  · unfold rngL at hd
    rw [List.getElem?_map] at hd
    obtain ⟨j, hj, rfl⟩ := Option.map_eq_some_iff.mp hd
    obtain ⟨h1, h2⟩ := List.getElem?_eq_some_iff.mp hj
    simp at h1 h2
    subst h2
    refine ⟨h1, fun x H3 y => ?_⟩
    obtain ⟨rfl, rfl⟩ := y
    exact ⟨.refl f2.wd, Den.int⟩
def iR (g : List Dt → Option (List Dt)) (f : SA) : SA := fun r st => (f r st).bind fun x => (g x.1).map fun xs => (xs, x.2)
def rg1 : List Dt → Option (List Dt)
  | [.int j] => if -(2 ^ 62) ≤ j ∧ j < 2 ^ 62 then some (rngL 0 j.toNat) else none
  | _ => none
def rg2 : List Dt → Option (List Dt)
  | [.int i, .int j] => if -(2 ^ 62) ≤ i ∧ i < 2 ^ 62 ∧ -(2 ^ 62) ≤ j ∧ j < 2 ^ 62 then some (rngL i (j - i).toNat) else none
  | _ => none
theorem sim_rg1 {ta : TA} {f : SA} (hf : SimA T ta f) : SimI T (iRng1 ta) (iR rg1 f) := by
  intro Z L st H s r xs st' Q w e h q
  obtain ⟨⟨ds, st1⟩, h1, h2⟩ := bind_some' h
  obtain ⟨ys, h3, h4⟩ := Option.map_eq_some_iff.mp h2
  cases h4
  refine hf Z L st H s r ds _ _ w e h1 fun vs H1 L1 f1 p1 => ?_
  dsimp only at h3
  unfold rg1 at h3
  split at h3
  · split at h3
    · rename_i j hz
      cases h3
      obtain ⟨v, rfl, p⟩ := dens1 p1
      exact ⟨j, by rw [den_int p], hz.1, hz.2, q _ H1 L1 f1 (walk_rng 0 _)⟩
    · cases h3
  · cases h3
theorem sim_rg2 {ta : TA} {f : SA} (hf : SimA T ta f) : SimI T (iRng2 ta) (iR rg2 f) := by
  intro Z L st H s r xs st' Q w e h q
  obtain ⟨⟨ds, st1⟩, h1, h2⟩ := bind_some' h
  obtain ⟨ys, h3, h4⟩ := Option.map_eq_some_iff.mp h2
  cases h4
  refine hf Z L st H s r ds _ _ w e h1 fun vs H1 L1 f1 p1 => ?_
  dsimp only at h3
  unfold rg2 at h3
  split at h3
  · split at h3
    · rename_i i j hz
      cases h3
      obtain ⟨v, u, rfl, p, p'⟩ := dens2 p1
      exact ⟨i, j, by rw [den_int p, den_int p'], ⟨hz.1, hz.2.1, hz.2.2.1, hz.2.2.2⟩, q _ H1 L1 f1 (walk_rng i _)⟩
    · cases h3
  · cases h3
/-- enumerate(list) -/
def enumL (ds : List Dt) : List Dt := ds.zipIdx.map fun x => .tup [.int (x.2 : Nat), x.1]
def en : List Dt → Option (List Dt)
  | [.lst ds] => some (enumL ds)
  | _ => none
theorem sim_enum {ta : TA} {f : SA} (hf : SimA T ta f) : SimI T (iEnum K ta) (iR en f) := by
  intro Z L st H s r xs st' Q w e h q
  obtain ⟨⟨dx, st1⟩, h1, h2⟩ := bind_some' h
  obtain ⟨ys, h3, h4⟩ := Option.map_eq_some_iff.mp h2
  cases h4
  refine hf Z L st H s r dx _ _ w e h1 fun vs0 H1 L1 f1 p1 => ?_
  dsimp only at h3
  unfold en at h3
  split at h3
  · rename_i ds
    cases h3
    obtain ⟨v, rfl, p⟩ := dens1 p1
    unfold Den at p
    obtain ⟨a, vs, rfl, nb, ea, t⟩ := p
    refine ⟨a, vs, rfl, SqL.of ea, q _ H1 L1 f1 fun Z2 L2 st2 H2 f2 => ?_⟩
    have ea2 : H2 a = some (.lst vs) := f2.kp a _ ea (fun z => nb (.inr z)) (fun ps z => by cases z)
    have t2 := t.keep f2
    have wk := walk_enum (K := K) (a := a) (xs := vs)
    refine ⟨?_, fun i d hd => ?_⟩
    · have : (enumL ds).length = vs.length := by unfold enumL; simp [t.len]
      rw [this]
      exact wk.stops H2 (SqL.of ea2)
    · unfold enumL at hd
      rw [List.getElem?_map] at hd
      obtain ⟨⟨d0, j⟩, hj, rfl⟩ := Option.map_eq_some_iff.mp hd
      rw [List.getElem?_zipIdx] at hj
      obtain ⟨d1, hd1, e1⟩ := Option.map_eq_some_iff.mp hj
      simp at e1
      obtain ⟨rfl, rfl⟩ := e1
      obtain ⟨v, hv, pv⟩ := t2.get hd1
      have hi : i < vs.length := (List.getElem?_eq_some_iff.mp hv).1
      refine ⟨wk.goes i H2 hi (SqL.of ea2), fun x H3 y => ?_⟩
      obtain ⟨TT, x1, y1, rfl, nT, rfl, hx1, hy1⟩ := wk.yields i H2 x H3 hi (SqL.of ea2) y
      simp at hx1
      have hy2 : vs[i]? = some y1 := hy1
      rw [hv] at hy2
      cases hy2
      subst hx1
      exact ⟨.new f2.wd nT, .newT f2.wd nT (.cons Den.int (.cons pv .nil))⟩
  · cases h3
end

/-! ### dict comprehensions -/
def dcGo (k : SG) (c : ST) (fk fv : SE) (r : Evr) : List Dt → Sto → List Key → List Dt → Option ((List Key × List Dt) × Sto)
  | [], st, ks, ds => some ((ks, ds), st)
  | x :: xs, st, ks, ds => (k x r).bind fun r1 => (c r1 st).bind fun b => if b.1 = true then (fk r1 b.2).bind fun y => (fv r1 y.2).bind fun z => (keyD y.1).bind fun kk =>
      if ks.length < sizeLine then dcGo k c fk fv r xs z.2 (pPut kk z.1 ks ds).1 (pPut kk z.1 ks ds).2 else none
    else dcGo k c fk fv r xs b.2 ks ds
def dc (fi : SA) (own : List Nat) (k : SG) (c : ST) (fk fv : SE) : Evr → Sto → Option ((List Key × List Dt) × Sto) := fun r st => (fi r st).bind fun xs => dcGo k c fk fv (wipeD r own) xs.1 xs.2 [] []
def dToV (f : Evr → Sto → Option ((List Key × List Dt) × Sto)) : SE := fun r st => (f r st).bind fun z => some (.dic z.1.1 z.1.2, z.2)
def dToR (f : Evr → Sto → Option ((List Key × List Dt) × Sto)) : SE := fun r st => (f r st).bind fun z => some (.ref z.2.length, z.2 ++ [some (.dic z.1.1 z.1.2)])
section
variable {T : List (Addr × Str)}
theorem dc_run {is own : List Nat} {wi : TI} {fi : SA} {g : TG} {k : SG} {tt : TT} {c : ST} {tk tv : TE} {fk fv : SE} (hi : SimI T wi fi) (hg : SimG T is g k) (hc : SimT T tt c) (hk : SimE T tk fk) (hv : SimE T tv fv) (hs : ∀ i ∈ is, i ∈ own)
    {Z : Addr → Prop} {L : List Addr} {st : Sto} {H : Hp} {s : L2.St} {r : Evr} {ks : List Key} {zs : List Dt} {st' : Sto} {Q : VK} (w : Wd T Z L st H) (e : EnvOk L (Bad Z L st) H r s) (h : dc fi own k c fk fv r st = some ((ks, zs), st'))
    (q : ∀ D vs H' L', Afz T Z L st H (zAnd Z D) L' st' H' → H D = none → H' D = some (.dK (ks.zip vs)) → ks.length = vs.length → Dens L' (Bad (zAnd Z D) L' st') H' zs vs → Q (.ref D) H') : tDc wi g tt tk tv own s H Q := by
  obtain ⟨⟨xs, st1⟩, a1, a2⟩ := bind_some' h
  refine hi Z L st H s r xs st1 _ w e a1 fun J H1 L1 f1 wk D nD => ?_
  have nD0 : H D = none := by
    cases qq : H D with
    | none => rfl
    | some o => exact absurd nD (f1.trk D (by rw [qq]; simp))
  have m1 : Afz T Z L1 st1 H1 (zAnd Z D) L1 st1 (upd H1 D (.dK [])) := Afz.mine f1.wd nD
  refine ⟨fun i m H2 => m = xs.length - i ∧ i ≤ xs.length ∧ ∃ L2 st2 kc acc vs, Afz T Z L1 st1 H1 (zAnd Z D) L2 st2 H2 ∧ H2 D = some (.dK (kc.zip vs)) ∧ kc.length = vs.length ∧ Dens L2 (Bad (zAnd Z D) L2 st2) H2 acc vs ∧ dcGo k c fk fv (wipeD r own) (xs.drop i) st2 kc acc = some ((ks, zs), st'),
    ⟨xs.length, by simp, Nat.zero_le _, L1, st1, [], [], [], m1, upd_same, rfl, .nil, a2⟩, ?_⟩
  rintro i m H2 ⟨rfl, hle, L2, st2, kc, acc, vs, f2, hD, hl, hacc, h2⟩
  obtain ⟨ws, wg⟩ := wk (zAnd Z D) L2 st2 H2 f2
  by_cases hlt : i < xs.length
  · right
    obtain ⟨go, yl⟩ := wg i xs[i] (List.getElem?_eq_getElem hlt)
    rw [List.drop_eq_getElem_cons hlt] at h2
    obtain ⟨r3, b1, b2⟩ := bind_some' h2
    obtain ⟨⟨b, st3⟩, b3, b4⟩ := bind_some' b2
    refine ⟨go, fun H5 => ∃ L5 st5 kc5 acc5 vs5, Afz T Z L1 st1 H1 (zAnd Z D) L5 st5 H5 ∧ H5 D = some (.dK (kc5.zip vs5)) ∧ kc5.length = vs5.length ∧ Dens L5 (Bad (zAnd Z D) L5 st5) H5 acc5 vs5 ∧ dcGo k c fk fv (wipeD r own) (xs.drop (i + 1)) st5 kc5 acc5 = some ((ks, zs), st'),
      fun H5 x => ⟨xs.length - (i + 1), by omega, rfl, hlt, x⟩, fun x H3 y => ?_⟩
    obtain ⟨f3, p3⟩ := yl x H3 y
    have e3 := (((e.keep f1).keep f2).keep f3).wipe own
    refine hg (zAnd Z D) L2 st2 H3 _ _ x _ r3 _ f3.wd e3 p3 b1 fun s4 e4 wp => ⟨?_, ?_⟩
    · rw [wp own hs, wipe_wipe]
    refine hc (zAnd Z D) L2 st2 H3 s4 r3 b st3 _ f3.wd e4 b3 fun H4 L4 f4 => ?_
    have keepD : ∀ {L' : List Addr} {st'' : Sto} {H' : Hp}, Afz T (zAnd Z D) L2 st2 H2 (zAnd Z D) L' st'' H' → H' D = some (.dK (kc.zip vs)) := fun ff => ff.kp D _ hD (fun z => by
      obtain ⟨j, d, j1, j2⟩ := z
      exact (f2.wd.own j D d j1 j2).1 (.inr rfl)) (fun ps z => by cases z)
    cases b with
    | false =>
      rw [if_neg (by simp)] at b4
      exact iteF ⟨L4, st3, kc, acc, vs, f2.trans (f3.trans f4), keepD (f3.trans f4), hl, (hacc.keep f3).keep f4, b4⟩
    | true =>
      rw [if_pos rfl] at b4
      obtain ⟨⟨dy, st5⟩, c1, c2⟩ := bind_some' b4
      obtain ⟨⟨dz, st6⟩, c3, c4⟩ := bind_some' c2
      obtain ⟨kk, c5, c6⟩ := bind_some' c4
      split at c6
      case isFalse => cases c6
      case isTrue hz =>
      refine iteT (hk (zAnd Z D) L4 st3 H4 s4 r3 dy st5 _ f4.wd (e4.keep f4) c1 fun y H5 L5 f5 p5 => ?_)
      refine hv (zAnd Z D) L5 st5 H5 s4 r3 dz st6 _ f5.wd ((e4.keep f4).keep f5) c3 fun z H6 L6 f6 p6 => ?_
      have fall := f3.trans (f4.trans (f5.trans f6))
      have hacc6 := (((hacc.keep f3).keep f4).keep f5).keep f6
      have zD : zAnd Z D D := .inr rfl
      have hD6 := keepD fall
      have tD6 : ∀ zs, H6 D ≠ some (.tup zs) := fun zs z => by rw [hD6] at z; cases z
      have wd7 : Wd T (zAnd Z D) L6 st6 (upd H6 D (.dK (putK (kc.zip vs) kk z))) := f6.wd.chg zD fun u eu => by rw [hD6] at eu; cases eu; exact .inr ⟨_, rfl⟩
      have fa := f2.trans fall
      have ek : y = kV kk := keyD_ok p5 c5
      refine ⟨kc.zip vs, kk, ek, hD6, by rw [List.length_zip]; omega, L6, st6, (pPut kk dz kc acc).1, (pPut kk dz kc acc).2, (pPut kk z kc vs).2, ⟨wd7, fa.pre, fun b u eb nl nt => ?_, fa.nw, fun b n z => ?_, fun b us eb => ?_, fa.fr, fa.zs⟩, ?_, ?_, (Dens.pPut p6 kk hacc6).chg (.inl zD) tD6, c6⟩
      · rw [upd_ne (ne_of_none eb nD)]; exact fa.kp b u eb nl nt
      · by_cases hb : b = D
        · rw [hb, upd_same] at z; cases z
        · rw [upd_ne hb] at z; exact fa.trk b n z
      · rw [upd_ne (ne_of_none eb nD)]; exact fa.tp b us eb
      · rw [upd_same, pPut_zip kk z hl, pPut_keys kk z dz kc vs acc]
      · rw [pPut_keys kk dz z kc acc vs]; exact pPut_len kk z hl
  · left
    have hx : i = xs.length := by omega
    subst hx
    rw [List.drop_length] at h2
    cases h2
    exact ⟨ws, q D vs H2 L2 (f1.trans f2) nD0 hD hl hacc⟩
theorem sim_dcV {is own : List Nat} {wi : TI} {fi : SA} {g : TG} {k : SG} {tt : TT} {c : ST} {tk tv : TE} {fk fv : SE} (hi : SimI T wi fi) (hg : SimG T is g k) (hc : SimT T tt c) (hk : SimE T tk fk) (hv : SimE T tv fv) (hs : ∀ i ∈ is, i ∈ own := by decide) : SimE T (tDc wi g tt tk tv own) (dToV (dc fi own k c fk fv)) := by
  intro Z L st H s r d st' Q w e h q
  obtain ⟨⟨⟨ks, zs⟩, st1⟩, a1, h⟩ := bind_some' h
  cases h
  refine dc_run hi hg hc hk hv hs w e a1 fun D vs H' L' ff nD hD hl hv => ?_
  refine q _ H' L' ff.back ?_
  unfold Den
  refine ⟨D, vs, rfl, fun z => ?_, .inl hD, hl, hv.mono bad_zAnd⟩
  rcases z with z | ⟨j, d, j1, j2⟩
  · exact w.zt D z nD
  · exact (ff.wd.own j D d j1 j2).1 (.inr rfl)
theorem sim_dcR {is own : List Nat} {wi : TI} {fi : SA} {g : TG} {k : SG} {tt : TT} {c : ST} {tk tv : TE} {fk fv : SE} (hi : SimI T wi fi) (hg : SimG T is g k) (hc : SimT T tt c) (hk : SimE T tk fk) (hv : SimE T tv fv) (hs : ∀ i ∈ is, i ∈ own := by decide) : SimE T (tDc wi g tt tk tv own) (dToR (dc fi own k c fk fv)) := by
  intro Z L st H s r d st' Q w e h q
  obtain ⟨⟨⟨ks, zs⟩, st1⟩, a1, h⟩ := bind_some' h
  cases h
  refine dc_run hi hg hc hk hv hs w e a1 fun D vs H' L' ff nD hD hl hv => ?_
  refine q _ H' (L' ++ [D]) (ff.claim w nD hD ⟨vs, rfl, hl, hv⟩) ?_
  unfold Den
  exact ⟨D, by rw [← ff.wd.len]; simp, rfl⟩
end
end HB

set_option Elab.async false
set_option linter.all false
set_option maxRecDepth 100000
set_option maxHeartbeats 1000000
/-! HB, part i: repr of nested data. -/
namespace HB
open PySem PySem.Spec PyProof.Rows L2

mutual
def repT : Dt → Str
  | .non => "None"
  | .bl b => if b then "True" else "False"
  | .int i => toString i
  | .str x => reprText x
  | .ref _ => ""
  | .lst ds => listText (repTs ds)
  | .tup ds => tupleText (repTs ds)
  | .dic ks ds => dictText (repKs ks ds)
def repTs : List Dt → List Str
  | [] => []
  | d :: ds => repT d :: repTs ds
def repKs : List Key → List Dt → List Str
  | k :: ks, d :: ds => ((match k with
    | .inl i => toString i
    | .inr x => reprText x) ++ ": " ++ repT d) :: repKs ks ds
  | _, [] => []
  | [], _ :: _ => []
end
mutual
def repOk : Dt → Bool
  | .int i => decide (i.natAbs.log2 < 1920)
  | .ref _ => false
  | .lst ds => repOks ds
  | .tup ds => repOks ds
  | .dic ks ds => ks.all (fun k => match k with
    | .inl i => decide (i.natAbs.log2 < 1920)
    | .inr _ => true) && repOks ds
  | _ => true
def repOks : List Dt → Bool
  | [] => true
  | d :: ds => repOk d && repOks ds
end
mutual
def depD : Dt → Nat
  | .lst ds => depDs ds + 1
  | .tup ds => depDs ds + 1
  | .dic _ ds => depDs ds + 1
  | _ => 0
def depDs : List Dt → Nat
  | [] => 0
  | d :: ds => max (depD d) (depDs ds)
end
/-- one object tells one data -/
theorem zip_inj {ks ls : List Key} {vs us : List V} (h1 : ks.length = vs.length) (h2 : ls.length = us.length) (e : ks.zip vs = ls.zip us) : ks = ls ∧ vs = us := by
  have a := congrArg List.unzip e
  rw [List.unzip_zip h1, List.unzip_zip h2] at a
  exact ⟨congrArg Prod.fst a, congrArg Prod.snd a⟩
theorem rd_one {H : Hp} {a : Addr} {u u' : HO} (nf : ∀ o x, u ≠ .frz o x) (nf' : ∀ o x, u' ≠ .frz o x) (h : Rd H a u) (h' : Rd H a u') : u = u' := by
  rcases h with h | ⟨o, h⟩ <;> rcases h' with h' | ⟨o', h'⟩ <;> rw [h] at h' <;> cases h'
  · rfl
  · exact absurd rfl (nf _ _)
  · exact absurd rfl (nf' _ _)
  · rfl
mutual
theorem Den.one {L L' : List Addr} {B B' : Addr → Prop} {H : Hp} : ∀ {d e : Dt} {v : V}, noRef d = true → noRef e = true → Den L B H d v → Den L' B' H e v → d = e
  | .non, e, v, n, m, h, g => by
    rw [den_non h] at g
    cases e <;> (unfold Den at g; first | rfl | (cases g; done) | (obtain ⟨_, _, g, _⟩ := g; cases g; done) | (unfold noRef at m; cases m))
  | .bl b, e, v, n, m, h, g => by
    rw [den_bl h] at g
    cases e <;> (unfold Den at g; first | (cases g; done) | (cases g; rfl) | (obtain ⟨_, _, g, _⟩ := g; cases g; done) | (unfold noRef at m; cases m))
  | .int b, e, v, n, m, h, g => by
    rw [den_int h] at g
    cases e <;> (unfold Den at g; first | (cases g; done) | (cases g; rfl) | (obtain ⟨_, _, g, _⟩ := g; cases g; done) | (unfold noRef at m; cases m))
  | .str b, e, v, n, m, h, g => by
    rw [den_str h] at g
    cases e <;> (unfold Den at g; first | (cases g; done) | (cases g; rfl) | (obtain ⟨_, _, g, _⟩ := g; cases g; done) | (unfold noRef at m; cases m))
  | .ref _, e, v, n, m, h, g => by unfold noRef at n; cases n
  | .lst ds, e, v, n, m, h, g => by
    unfold noRef at n
    unfold Den at h
    obtain ⟨a, vs, rfl, _, ea, t⟩ := h
    cases e with
    | lst es =>
      unfold noRef at m
      unfold Den at g
      obtain ⟨a', vs', e1, _, ea', t'⟩ := g
      cases e1
      rw [ea] at ea'; cases ea'
      rw [Dens.one n m t t']
    | tup es =>
      unfold Den at g
      obtain ⟨a', vs', e1, ea', _⟩ := g
      cases e1
      rw [ea] at ea'; cases ea'
    | dic ks es =>
      unfold Den at g
      obtain ⟨a', vs', e1, _, ea', _⟩ := g
      cases e1
      rcases ea' with ea' | ⟨o, ea'⟩ <;> rw [ea] at ea' <;> cases ea'
    | ref k => unfold noRef at m; cases m
    | _ => unfold Den at g; cases g
  | .tup ds, e, v, n, m, h, g => by
    unfold noRef at n
    unfold Den at h
    obtain ⟨a, vs, rfl, ea, t⟩ := h
    cases e with
    | tup es =>
      unfold noRef at m
      unfold Den at g
      obtain ⟨a', vs', e1, ea', t'⟩ := g
      cases e1
      rw [ea] at ea'; cases ea'
      rw [Dens.one n m t t']
    | lst es =>
      unfold Den at g
      obtain ⟨a', vs', e1, _, ea', _⟩ := g
      cases e1
      rw [ea] at ea'; cases ea'
    | dic ks es =>
      unfold Den at g
      obtain ⟨a', vs', e1, _, ea', _⟩ := g
      cases e1
      rcases ea' with ea' | ⟨o, ea'⟩ <;> rw [ea] at ea' <;> cases ea'
    | ref k => unfold noRef at m; cases m
    | _ => unfold Den at g; cases g
  | .dic ks ds, e, v, n, m, h, g => by
    unfold noRef at n
    unfold Den at h
    obtain ⟨a, vs, rfl, _, ea, el, t⟩ := h
    cases e with
    | dic ls es =>
      unfold noRef at m
      unfold Den at g
      obtain ⟨a', vs', e1, _, ea', el', t'⟩ := g
      cases e1
      have ez := rd_one (fun o x z => by cases z) (fun o x z => by cases z) ea ea'
      injection ez with ez
      obtain ⟨rfl, rfl⟩ := zip_inj el el' ez
      rw [Dens.one n m t t']
    | lst es =>
      unfold Den at g
      obtain ⟨a', vs', e1, _, ea', _⟩ := g
      cases e1
      rcases ea with ea | ⟨o, ea⟩ <;> rw [ea'] at ea <;> cases ea
    | tup es =>
      unfold Den at g
      obtain ⟨a', vs', e1, ea', _⟩ := g
      cases e1
      rcases ea with ea | ⟨o, ea⟩ <;> rw [ea'] at ea <;> cases ea
    | ref k => unfold noRef at m; cases m
    | _ => unfold Den at g; cases g
theorem Dens.one {L L' : List Addr} {B B' : Addr → Prop} {H : Hp} : ∀ {ds es : List Dt} {vs : List V}, noRefs ds = true → noRefs es = true → Dens L B H ds vs → Dens L' B' H es vs → ds = es
  | [], es, vs, n, m, h, g => by
    have h1 := h.len; have h2 := g.len
    rw [← h1] at h2
    exact (List.length_eq_zero_iff.mp h2).symm
  | d :: ds, [], vs, n, m, h, g => by
    have := h.len; have := g.len
    simp at *; omega
  | d :: ds, e :: es, vs, n, m, h, g => by
    unfold noRefs at n m
    rw [Bool.and_eq_true] at n m
    obtain ⟨v, r, rfl, p, t⟩ := h.uncons
    obtain ⟨v', r', e1, p', t'⟩ := g.uncons
    cases e1
    rw [Den.one n.1 m.1 p p', Dens.one n.2 m.2 t t']
end
section
variable {X : Cx} {pins : List (Addr × Obj)} {s1 : L2.St} {H : Hp} {s : Shared} {L : List Addr} {B : Addr → Prop}
/-- the addresses as are those of parts of some data of at most n in size -/
def PartsOf (L : List Addr) (B : Addr → Prop) (H : Hp) (n : Nat) (as : List Addr) : Prop := ∀ b ∈ as, ∃ d, sizeOf d ≤ n ∧ noRef d = true ∧ Den L B H d (.ref b)
theorem all_get {prog : Program} {w : World} {as : List Addr} {h0 : Heap} {n : Nat} : ∀ {l : List Value} {ts : List Str}, ReprAllK prog w as h0 n l ts → ∀ (i : Nat) (y : Value), l.toArray[i]? = some y → ∃ t, ts[i]? = some t ∧ ReprK prog w as h0 n y t
  | [], _, .nil, i, y, e => by simp at e
  | x :: l, t :: ts, .cons h r, 0, y, e => by
    simp at e; subst e
    exact ⟨t, rfl, h⟩
  | x :: l, t :: ts, .cons h r, i + 1, y, e => by
    obtain ⟨t', h1, h2⟩ := all_get r i y (by simpa using e)
    exact ⟨t', by simpa using h1, h2⟩
theorem all_more {prog : Program} {w : World} {as as' : List Addr} {h0 : Heap} {n : Nat} (hs : ∀ b ∈ as, b ∈ as') : ∀ {l : List Value} {ts : List Str}, ReprAllK prog w as h0 n l ts → ReprAllK prog w as' h0 n l ts
  | _, _, .nil => .nil
  | _, _, .cons h r => .cons (h.more hs) (all_more hs r)
theorem repTs_len : ∀ ds : List Dt, (repTs ds).length = ds.length
  | [] => rfl
  | d :: ds => by unfold repTs; simp [repTs_len ds]
def keyT : Key → Str
  | .inl i => toString i
  | .inr x => reprText x
def keyOk : Key → Bool
  | .inl i => decide (i.natAbs.log2 < 1920)
  | .inr _ => true
theorem app_len (x y : Str) : (x ++ y).length = x.length + y.length := strLen_append x y
theorem key_rep {prog : Program} {w : World} {as : List Addr} {h0 : Heap} {n : Nat} {k : Key} {u : Value} (h : (mixKind prog w).is k u = true) (ho : keyOk k = true) (hz : (keyT k).length ≤ sizeLine) : ReprK prog w as h0 n u (keyT k) := by
  rcases keyIs_shape h with ⟨i, t, rfl, rfl⟩ | ⟨x, t, rfl, rfl⟩
  · exact ReprK.of_is (ReprIs.int t (of_decide_eq_true ho)) _ _ _
  · exact ReprK.of_is (ReprIs.str x t hz) _ _ _
theorem entries_rep {prog : Program} {w : World} {as : List Addr} {h0 : Heap} {n : Nat} : ∀ {es : List DictEntry} {ws : List (Key × Value)} {ks : List Key} {ds : List Dt}, Pairs (mixKind prog w) es ws → ks = ws.map (·.1) → ReprAllK prog w as h0 n (ws.map (·.2)) (repTs ds) → ks.all keyOk = true → piled (repKs ks ds) ≤ sizeLine → ReprEntriesK prog w as h0 n es (repKs ks ds)
  | [], [], ks, ds, .nil, e, h, _, _ => by
    subst e
    cases ds with
    | nil => unfold repKs; exact .nil
    | cons d ds => unfold repKs; exact .nil
  | e :: es, kv :: ws, ks, ds, .cons h1 h2 r, ek, h, ho, hz => by
    subst ek
    cases ds with
    | nil => unfold repTs at h; cases h
    | cons d ds =>
      unfold repTs at h
      cases h with
      | cons a1 a2 =>
        rw [List.map_cons] at ho hz ⊢
        rw [List.all_cons, Bool.and_eq_true] at ho
        unfold repKs at hz ⊢
        rw [piled_cons] at hz
        have e1 : ((match kv.1 with
          | .inl i => toString i
          | .inr x => reprText x) : Str) = keyT kv.1 := by
          cases kv.1 <;> rfl
        rw [e1] at hz ⊢
        rw [app_len, app_len] at hz
        refine .cons (key_rep h1 ho.1 (by omega)) (by rw [h2]; exact a1) (entries_rep r rfl a2 ho.2 (by omega))
theorem piled_vals : ∀ (ks : List Key) (ds : List Dt), ks.length = ds.length → piled (repTs ds) ≤ piled (repKs ks ds)
  | [], [], _ => by unfold repTs repKs; exact Nat.le_refl _
  | [], _ :: _, h => by simp at h
  | _ :: _, [], h => by simp at h
  | k :: ks, d :: ds, h => by
    unfold repTs repKs
    rw [piled_cons, piled_cons, app_len, app_len]
    have := piled_vals ks ds (by simpa using h)
    omega
theorem kv_split : ∀ {ks : List Key} {vs : List V} {ws : List (Key × Value)}, ks.length = vs.length → KV (ks.zip vs) ws → ks = ws.map (·.1) ∧ Vals vs (ws.map (·.2))
  | [], [], _, _, h => by
    cases h
    exact ⟨rfl, .nil⟩
  | [], _ :: _, _, h, _ => by simp at h
  | _ :: _, [], _, h, _ => by simp at h
  | k :: ks, v :: vs, _, hl, h => by
    rw [List.zip_cons_cons] at h
    cases h with
    | cons a b =>
      obtain ⟨h1, h2⟩ := kv_split (by simpa using hl) b
      obtain ⟨h3, h4⟩ := a
      exact ⟨by rw [h1, List.map_cons, ← h3], .cons h4 h2⟩
mutual
theorem rep_ok (I : Inv X pins s1 H s) : ∀ (d : Dt) (v : V) (u : Value) (n : Nat), noRef d = true → repOk d = true → depD d ≤ n → (repT d).length ≤ sizeLine → Den L B H d v → RelV v u → ∃ as, ReprK X.prog X.w as s.heap n u (repT d) ∧ PartsOf L B H (sizeOf d) as
  | .non, v, u, n, hn, ho, hd, hz, q, r => by
    rw [den_non q] at r; cases r
    exact ⟨[], ReprK.of_is ReprIs.none _ _ _, fun b hb => by simp at hb⟩
  | .bl b, v, u, n, hn, ho, hd, hz, q, r => by
    rw [den_bl q] at r; cases r
    unfold repT
    have := ReprK.of_is (prog := X.prog) (w := X.w) (ReprIs.bool b) [] s.heap n
    refine ⟨[], ?_, fun b hb => by simp at hb⟩
    cases b <;> exact this
  | .int i, v, u, n, hn, ho, hd, hz, q, r => by
    rw [den_int q] at r; obtain ⟨t, rfl⟩ := r
    unfold repOk at ho
    unfold repT
    exact ⟨[], ReprK.of_is (ReprIs.int t (of_decide_eq_true ho)) _ _ _, fun b hb => by simp at hb⟩
  | .str x, v, u, n, hn, ho, hd, hz, q, r => by
    rw [den_str q] at r; obtain ⟨t, rfl⟩ := r
    unfold repT at hz ⊢
    exact ⟨[], ReprK.of_is (ReprIs.str x t hz) _ _ _, fun b hb => by simp at hb⟩
  | .ref _, v, u, n, hn, ho, hd, hz, q, r => by unfold noRef at hn; cases hn
  | .lst ds, v, u, n, hn, ho, hd, hz, q, r => by
    have q0 := q
    have hn0 := hn
    unfold noRef at hn
    unfold repOk at ho
    unfold depD at hd
    unfold repT at hz ⊢
    unfold Den at q
    obtain ⟨a, vs, rfl, nb, ea, t⟩ := q
    cases r
    obtain ⟨its, rv, ⟨o, k, h1, h2, h3, h4⟩, _⟩ := I.list (SqL.of (K := X.K) ea)
    obtain ⟨m, rfl⟩ : ∃ m, n = m + 1 := ⟨n - 1, by omega⟩
    have hp := piled_le_listText (repTs ds)
    obtain ⟨as, hR, hP⟩ := reps_ok I ds vs its m hn ho (by omega) (by omega) t rv
    cases its with
    | nil =>
      cases rv
      have e0 : ds = [] := List.length_eq_zero_iff.mp t.len
      subst e0
      exact ⟨[], ReprK.listEmpty h1 h2 h4, fun b hb => by simp at hb⟩
    | cons y l =>
      have na : a ∉ as := fun z => by
        obtain ⟨d', z1, z2, z3⟩ := hP a z
        have e := Den.one hn0 z2 q0 z3
        rw [← e] at z1
        simp at z1
        omega
      refine ⟨a :: as, ReprK.list h1 h2 h4 na ?_ (all_get hR), fun b hb => ?_⟩
      · rw [repTs_len, t.len, rv.length]; simp
      · rcases List.mem_cons.mp hb with rfl | hb
        · exact ⟨.lst ds, Nat.le_refl _, hn0, q0⟩
        · obtain ⟨d', z1, z2, z3⟩ := hP b hb
          exact ⟨d', by simp; omega, z2, z3⟩
  | .tup ds, v, u, n, hn, ho, hd, hz, q, r => by
    have q0 := q
    have hn0 := hn
    unfold noRef at hn
    unfold repOk at ho
    unfold depD at hd
    unfold repT at hz ⊢
    unfold Den at q
    obtain ⟨a, vs, rfl, ea, t⟩ := q
    cases r
    obtain ⟨its, rv, ⟨o, h1, h2, k, h4⟩, _⟩ := I.tuple (SqT.of (K := X.K) ea)
    obtain ⟨m, rfl⟩ : ∃ m, n = m + 1 := ⟨n - 1, by omega⟩
    have hp := piled_le_tupleText (repTs ds)
    obtain ⟨as, hR, hP⟩ := reps_ok I ds vs its m hn ho (by omega) (by omega) t rv
    have na : a ∉ as := fun z => by
      obtain ⟨d', z1, z2, z3⟩ := hP a z
      have e := Den.one hn0 z2 q0 z3
      rw [← e] at z1
      simp at z1
      omega
    refine ⟨a :: as, ReprK.tuple h1 h2 h4 na hR, fun b hb => ?_⟩
    rcases List.mem_cons.mp hb with rfl | hb
    · exact ⟨.tup ds, Nat.le_refl _, hn0, q0⟩
    · obtain ⟨d', z1, z2, z3⟩ := hP b hb
      exact ⟨d', by simp; omega, z2, z3⟩
  | .dic ks ds, v, u, n, hn, ho, hd, hz, q, r => by
    have q0 := q
    have hn0 := hn
    unfold noRef at hn
    unfold repOk at ho
    rw [Bool.and_eq_true] at ho
    unfold depD at hd
    unfold repT at hz ⊢
    unfold Den at q
    obtain ⟨a, vs, rfl, nb, ea, el, t⟩ := q
    cases r
    obtain ⟨_, hsys, ws, kv, o, es, ep, h1, h2, h3, h4, h5, h6⟩ := dk_rd I.hok ea
    obtain ⟨m, rfl⟩ : ∃ m, n = m + 1 := ⟨n - 1, by omega⟩
    have hp := piled_le_dictText (repKs ks ds)
    obtain ⟨ek, rv⟩ := kv_split el kv
    have hpv := piled_vals ks ds (by rw [el, t.len])
    obtain ⟨as, hR, hP⟩ := reps_ok I ds vs (ws.map (·.2)) m hn ho.2 (by omega) (by omega) t rv
    have na : a ∉ as := fun z => by
      obtain ⟨d', z1, z2, z3⟩ := hP a z
      have e := Den.one hn0 z2 q0 z3
      rw [← e] at z1
      simp at z1
      omega
    have hko : ks.all keyOk = true := by
      have h9 := ho.1
      rw [List.all_eq_true] at h9 ⊢
      intro k hk
      have := h9 k hk
      cases k <;> exact this
    refine ⟨a :: as, ReprK.dict h1 h2.1 h3 hsys na (entries_rep h5 ek hR hko (by omega)), fun b hb => ?_⟩
    rcases List.mem_cons.mp hb with rfl | hb
    · exact ⟨.dic ks ds, Nat.le_refl _, hn0, q0⟩
    · obtain ⟨d', z1, z2, z3⟩ := hP b hb
      exact ⟨d', by simp; omega, z2, z3⟩
theorem reps_ok (I : Inv X pins s1 H s) : ∀ (ds : List Dt) (vs : List V) (us : List Value) (n : Nat), noRefs ds = true → repOks ds = true → depDs ds ≤ n → piled (repTs ds) ≤ sizeLine → Dens L B H ds vs → Vals vs us → ∃ as, ReprAllK X.prog X.w as s.heap n us (repTs ds) ∧ PartsOf L B H (sizeOf ds) as
  | [], vs, us, n, hn, ho, hd, hz, q, r => by
    unfold Dens at q
    subst q
    cases r
    exact ⟨[], .nil, fun b hb => by simp at hb⟩
  | d :: ds, vs, us, n, hn, ho, hd, hz, q, r => by
    unfold noRefs at hn
    unfold repOks at ho
    rw [Bool.and_eq_true] at hn ho
    unfold depDs at hd
    unfold repTs at hz ⊢
    rw [piled_cons] at hz
    obtain ⟨v, w, rfl, p, t⟩ := q.uncons
    cases r with
    | cons r1 r2 =>
      obtain ⟨as, h1, h2⟩ := rep_ok I d v _ n hn.1 ho.1 (by omega) (by omega) p r1
      obtain ⟨bs, h3, h4⟩ := reps_ok I ds w _ n hn.2 ho.2 (by omega) (by omega) t r2
      refine ⟨as ++ bs, .cons (h1.more fun b hb => by simp [hb]) (all_more (fun b hb => by simp [hb]) h3), fun b hb => ?_⟩
      rcases List.mem_append.mp hb with hb | hb
      · obtain ⟨d', z1, z2, z3⟩ := h2 b hb
        exact ⟨d', by simp; omega, z2, z3⟩
      · obtain ⟨d', z1, z2, z3⟩ := h4 b hb
        exact ⟨d', by simp; omega, z2, z3⟩
end
def rRep : List V → Hp → VK → Prop := fun xs H Q => ∃ (L : List Addr) (B : Addr → Prop) (d : Dt) (v : V), xs = [v] ∧ noRef d = true ∧ repOk d = true ∧ depD d ≤ 32 ∧ (repT d).length ≤ sizeLine ∧ Den L B H d v ∧ Q (.str (repT d)) H
theorem call_rep (hg : X.A.guards = some []) (hu : X.A.units + 64 < cLine) : CallR X (.builtin "repr") rRep := by
  intro pins s s1 H xs us Q I r h
  obtain ⟨L, B, d, v, rfl, hn, ho, hd, hz, q, qq⟩ := h
  obtain ⟨u, rfl, ru⟩ := vals1 r
  have fin : ∀ (h' : Heap) (t : Tok) (tk : Nat), (∀ b o, s.heap.get? b = some o → h'.get? b = some o) → EP X pins s1 Q (.str (repT d) t) { s with heap := h', toks := tk } := fun h' t tk hk => ⟨.str _, H, I.kept hk, ⟨t, rfl⟩, qq⟩
  have kk : ∀ b o, s.heap.get? b = some o → s.heap.get? b = some o := fun _ _ e => e
  have cl : ∀ as : List Addr, ∀ b ∈ as, Clear [] b := fun as b _ => Clear.nil b
  cases d with
  | non =>
    rw [den_non q] at ru; cases ru
    exact PySem.P.repr_of_none ⟨.str _, H, I.tok _, ⟨_, rfl⟩, qq⟩
  | bl b =>
    rw [den_bl q] at ru; cases ru
    refine PySem.P.repr_of_bool ⟨.str _, H, I.tok _, ⟨_, rfl⟩, ?_⟩
    unfold repT at qq
    cases b <;> exact qq
  | int i =>
    rw [den_int q] at ru; obtain ⟨t, rfl⟩ := ru
    unfold repOk at ho
    unfold repT at qq
    exact PySem.P.repr_of_int (of_decide_eq_true ho) ⟨.str _, H, I.tok _, ⟨_, rfl⟩, qq⟩
  | str x =>
    rw [den_str q] at ru; obtain ⟨t, rfl⟩ := ru
    unfold repT at qq hz
    exact PySem.P.repr_of_str ⟨.str _, H, I.tok _, ⟨_, rfl⟩, qq⟩ hz
  | ref k => unfold noRef at hn; cases hn
  | lst ds =>
    have q0 := q
    have hn0 := hn
    unfold noRef at hn
    unfold repOk at ho
    unfold depD at hd
    unfold repT at hz fin
    unfold Den at q
    obtain ⟨a, vs, rfl, nb, ea, t⟩ := q
    cases ru
    obtain ⟨its, rv, ⟨o, k, h1, h2, h3, h4⟩, _⟩ := I.list (SqL.of (K := X.K) ea)
    have hp := piled_le_listText (repTs ds)
    obtain ⟨as, hR, hP⟩ := reps_ok I ds vs its 32 hn ho (by omega) (by omega) t rv
    have hTy : s.TypeIs (.ref a) "list" := ⟨o, h1, h2⟩
    refine Calls.call_function_entry PySem.F.kind_repr PySem.F.plain_repr PySem.F.entry_repr (PySem.F.args_repr1 _) ?_
    unfold Builtin.«repr»
    refine wpAny_bind (m := oneArg "repr" _) (wpAny_pure ?_)
    refine wpAny_bind (wpAny_cRoomFor (by show X.A.units + 1 < cLine; omega) ?_)
    refine wpAny_bind (wpAny_specialOf (name := Str.ofString "__repr__") hTy PySem.F.slot_list_repr.lookup ?_)
    cases its with
    | nil =>
      cases rv
      have e0 : ds = [] := List.length_eq_zero_iff.mp t.len
      subst e0
      refine wpAny_bind (m := callSpecialIfBound? (.ref a) (Str.ofString "__repr__")) (wpAny_callSpecialIfBound?_slot (name := Str.ofString "__repr__") hTy PySem.F.slot_list_repr (call_list_repr_empty hTy h1 h4 ?_))
      exact wpAny_bind (wpAny_isInstance (T := "str") (b := true) rfl isSubtype_str_str (wpAny_pure ⟨_, rfl, fin s.heap _ _ kk⟩))
    | cons y l =>
      have na : a ∉ as := fun z => by
        obtain ⟨d', z1, z2, z3⟩ := hP a z
        have e := Den.one hn0 z2 q0 z3
        rw [← e] at z1
        simp at z1
        omega
      refine wpAny_bind (m := callSpecialIfBound? (.ref a) (Str.ofString "__repr__")) (wpAny_callSpecialIfBound?_slot (name := Str.ofString "__repr__") hTy PySem.F.slot_list_repr
        (call_list_reprK h1 h2 h4 na (by rw [repTs_len, t.len, rv.length]; simp) (all_get hR) hg (cl _) (by show X.A.units + 1 + (32 + 1) < cLine; omega) kk (fun h' u tk hk => ?_) hz))
      exact wpAny_bind (wpAny_isInstance (T := "str") (b := true) rfl isSubtype_str_str (wpAny_pure ⟨_, rfl, fin h' _ _ hk⟩))
  | tup ds =>
    have q0 := q
    have hn0 := hn
    unfold noRef at hn
    unfold repOk at ho
    unfold depD at hd
    unfold repT at hz fin
    unfold Den at q
    obtain ⟨a, vs, rfl, ea, t⟩ := q
    cases ru
    obtain ⟨its, rv, ⟨o, h1, h2, k, h4⟩, _⟩ := I.tuple (SqT.of (K := X.K) ea)
    have hp := piled_le_tupleText (repTs ds)
    obtain ⟨as, hR, hP⟩ := reps_ok I ds vs its 32 hn ho (by omega) (by omega) t rv
    have na : a ∉ as := fun z => by
      obtain ⟨d', z1, z2, z3⟩ := hP a z
      have e := Den.one hn0 z2 q0 z3
      rw [← e] at z1
      simp at z1
      omega
    have hTy : s.TypeIs (.ref a) "tuple" := ⟨o, h1, h2⟩
    refine Calls.call_function_entry PySem.F.kind_repr PySem.F.plain_repr PySem.F.entry_repr (PySem.F.args_repr1 _) ?_
    unfold Builtin.«repr»
    refine wpAny_bind (m := oneArg "repr" _) (wpAny_pure ?_)
    refine wpAny_bind (wpAny_cRoomFor (by show X.A.units + 1 < cLine; omega) ?_)
    refine wpAny_bind (wpAny_specialOf (name := Str.ofString "__repr__") hTy PySem.F.slot_tuple_repr.lookup ?_)
    refine wpAny_bind (m := callSpecialIfBound? (.ref a) (Str.ofString "__repr__")) (wpAny_callSpecialIfBound?_slotG (name := Str.ofString "__repr__") hTy PySem.F.slot_tuple_repr
      (call_tuple_reprK h1 h2 h4 na hR hg (cl _) (by show X.A.units + 1 + (32 + 1) < cLine; omega) kk (fun h' u tk hk => ?_) hz))
    exact wpAny_bind (wpAny_isInstance (T := "str") (b := true) rfl isSubtype_str_str (wpAny_pure ⟨_, rfl, fin h' _ _ hk⟩))
  | dic ks ds =>
    have q0 := q
    have hn0 := hn
    unfold noRef at hn
    unfold repOk at ho
    rw [Bool.and_eq_true] at ho
    unfold depD at hd
    unfold repT at hz fin
    unfold Den at q
    obtain ⟨a, vs, rfl, nb, ea, el, t⟩ := q
    cases ru
    obtain ⟨_, hsys, ws, kv, o, es, ep, h1, h2, h3, h4, h5, h6⟩ := dk_rd I.hok ea
    have hp := piled_le_dictText (repKs ks ds)
    obtain ⟨ek, rv⟩ := kv_split el kv
    have hpv := piled_vals ks ds (by rw [el, t.len])
    obtain ⟨as, hR, hP⟩ := reps_ok I ds vs (ws.map (·.2)) 32 hn ho.2 (by omega) (by omega) t rv
    have na : a ∉ as := fun z => by
      obtain ⟨d', z1, z2, z3⟩ := hP a z
      have e := Den.one hn0 z2 q0 z3
      rw [← e] at z1
      simp at z1
      omega
    have hko : ks.all keyOk = true := by
      have h9 := ho.1
      rw [List.all_eq_true] at h9 ⊢
      intro k hk
      have := h9 k hk
      cases k <;> exact this
    have hTy : s.TypeIs (.ref a) "dict" := ⟨o, h1, h2.1⟩
    refine Calls.call_function_entry PySem.F.kind_repr PySem.F.plain_repr PySem.F.entry_repr (PySem.F.args_repr1 _) ?_
    unfold Builtin.«repr»
    refine wpAny_bind (m := oneArg "repr" _) (wpAny_pure ?_)
    refine wpAny_bind (wpAny_cRoomFor (by show X.A.units + 1 < cLine; omega) ?_)
    refine wpAny_bind (wpAny_specialOf (name := Str.ofString "__repr__") hTy PySem.F.slot_dict_repr.lookup ?_)
    refine wpAny_bind (m := callSpecialIfBound? (.ref a) (Str.ofString "__repr__")) (wpAny_callSpecialIfBound?_slotG (name := Str.ofString "__repr__") hTy PySem.F.slot_dict_repr
      (call_dict_reprK h1 h2.1 h3 hsys na (entries_rep h5 ek hR hko (by omega)) hg (cl _) (by show X.A.units + 1 + (32 + 1) < cLine; omega) kk (fun h' u tk hk => ?_) hz))
    exact wpAny_bind (wpAny_isInstance (T := "str") (b := true) rfl isSubtype_str_str (wpAny_pure ⟨_, rfl, fin h' _ _ hk⟩))
def gRep (st : Sto) (xs : List Dt) : Option (Dt × Sto) := match xs with
  | [x] => (deref st 8 x).bind fun d => if noRef d = true ∧ repOk d = true ∧ depD d ≤ 32 ∧ (repT d).length ≤ sizeLine then some (.str (repT d), st) else none
  | _ => none
theorem vo_rep {T : List (Addr × Str)} : VON T rRep gRep := by
  intro Z L st H xs dxs d st' Q w hx h q
  unfold gRep at h
  split at h
  · obtain ⟨v, rfl, p⟩ := dens1 hx
    obtain ⟨c, e1, e2⟩ := bind_some' h
    split at e2
    · rename_i hz
      cases e2
      exact ⟨[], Z, c, v, rfl, hz.1, hz.2.1, hz.2.2.1, hz.2.2.2, deref_ok w e1 (p.mono fun b z => .inl z), q _ H L (.refl w) Den.str⟩
    · cases e2
  · cases h
end
end HB

set_option Elab.async false
set_option linter.all false
set_option maxRecDepth 100000
set_option maxHeartbeats 1000000
/-! HB, part j: sets of texts, sorted. -/
namespace HB
open PySem PySem.Spec PyProof.Rows L2

/-! ### plain lists -/
theorem perm_of_sub {α : Type} [DecidableEq α] : ∀ (l m : List α), l.Nodup → (∀ x ∈ l, x ∈ m) → m.length = l.length → m.Perm l
  | [], m, _, _, hl => by rw [List.length_eq_zero_iff.mp hl]
  | x :: l, m, nd, hs, hl => by
    obtain ⟨nx, nd'⟩ := List.nodup_cons.mp nd
    have hx := hs x List.mem_cons_self
    have p := List.perm_cons_erase hx
    refine p.trans (.cons x (perm_of_sub l (m.erase x) nd' (fun y hy => ?_) ?_))
    · have ne : y ≠ x := fun z => nx (z ▸ hy)
      exact (List.mem_erase_of_ne ne).mpr (hs y (List.mem_cons_of_mem _ hy))
    · rw [List.length_erase_of_mem hx, hl]; simp
def strLe (a b : Str) : Bool := decide (a.cps.toList ≤ b.cps.toList)
def sortS (l : List Str) : List Str := l.mergeSort strLe
def insD (k : Str) (l : List Str) : List Str := if k ∈ l then l else k :: l
def dd : List Str → List Str
  | [] => []
  | x :: xs => insD x (dd xs)
theorem str_ext {a b : Str} (h : a.cps.toList = b.cps.toList) : a = b := by
  cases a; cases b
  simp at h
  rw [h]
theorem strLe_total (a b : Str) : (strLe a b || strLe b a) = true := by
  unfold strLe
  rcases List.le_total a.cps.toList b.cps.toList with h | h <;> simp [h]
theorem strLe_trans (a b c : Str) (h : strLe a b = true) (h' : strLe b c = true) : strLe a c = true := by
  unfold strLe at *
  rw [decide_eq_true_eq] at *
  exact List.le_trans h h'
theorem strLe_anti (a b : Str) (h : strLe a b = true) (h' : strLe b a = true) : a = b := by
  unfold strLe at *
  rw [decide_eq_true_eq] at *
  exact str_ext (List.le_antisymm h h')
theorem sortS_sorted (l : List Str) : (sortS l).Pairwise fun a b => strLe a b = true := List.pairwise_mergeSort strLe_trans strLe_total l
theorem sortS_perm (l : List Str) : (sortS l).Perm l := List.mergeSort_perm l _
theorem sortS_of_perm {l m : List Str} (h : l.Perm m) : sortS l = sortS m :=
  List.Perm.eq_of_pairwise (le := fun a b => strLe a b = true) (fun a b _ _ h1 h2 => strLe_anti a b h1 h2) (sortS_sorted l) (sortS_sorted m) ((sortS_perm l).trans (h.trans (sortS_perm m).symm))
theorem insD_mem {k x : Str} {l : List Str} : x ∈ insD k l ↔ x = k ∨ x ∈ l := by
  unfold insD
  split
  · rename_i h
    exact ⟨.inr, fun z => z.elim (fun e => e ▸ h) id⟩
  · exact List.mem_cons
theorem insD_nodup {k : Str} {l : List Str} (h : l.Nodup) : (insD k l).Nodup := by
  unfold insD
  split
  · exact h
  · rename_i n
    exact List.nodup_cons.mpr ⟨n, h⟩
theorem dd_mem {x : Str} : ∀ {l : List Str}, x ∈ dd l ↔ x ∈ l
  | [] => Iff.rfl
  | y :: l => by
    unfold dd
    rw [insD_mem, dd_mem (l := l), List.mem_cons]
theorem dd_nodup : ∀ l : List Str, (dd l).Nodup
  | [] => List.nodup_nil
  | y :: l => insD_nodup (dd_nodup l)
theorem insD_len (k : Str) (l : List Str) : (insD k l).length ≤ l.length + 1 := by
  unfold insD
  split
  · omega
  · simp
theorem dd_len : ∀ l : List Str, (dd l).length ≤ l.length
  | [] => Nat.le_refl _
  | y :: l => by
    have := dd_len l
    have := insD_len y (dd l)
    simp only [dd, List.length_cons]
    omega

/-! ### the set -/
def SSet (P : Program) (w : World) (h : Heap) (a : Addr) (l : List Str) : Prop := ∃ D : Froz.SD, h.get? a = some (Froz.sObj "set" D) ∧ Froz.TxOk P w D l ∧ l.Nodup ∧ Ris D.2.2.place.toList ∧ (w.params.followText "set-order" = true ∨ D.2.2.led = true)
theorem plain_off_ris {t : SetTable} (h : Ris t.place.toList) : Ris (if t.plain = true then { t with plain := false } else t).place.toList := by
  split <;> exact h
theorem plain_off_led {t : SetTable} : (if t.plain = true then { t with plain := false } else t).led = t.led := by
  split <;> rfl
theorem tail_ris (ep : Nat) (es : Array (Int × Value)) (t : SetTable) (b : Bool) (h : Ris t.place.toList) : Ris (Froz.tailTx ep es t b).2.2.place.toList := by
  unfold Froz.tailTx
  split
  · exact relayAll_ris _ _ _
  · exact h
theorem tail_led (ep : Nat) (es : Array (Int × Value)) (t : SetTable) (b : Bool) : (Froz.tailTx ep es t b).2.2.led = t.led := by
  unfold Froz.tailTx
  split
  · exact relayAll_led _ _ _
  · rfl
theorem addTx_ris (h : Int) (v : Value) (D : Froz.SD) (r : Ris D.2.2.place.toList) : Ris (Froz.addTx h v D).2.2.place.toList := by
  unfold Froz.addTx
  exact tail_ris _ _ _ _ (plain_off_ris (layNew_ris D.2.2 D.1 h v r))
theorem addTx_led (h : Int) (v : Value) (D : Froz.SD) : (Froz.addTx h v D).2.2.led = D.2.2.led := by
  unfold Froz.addTx
  rw [tail_led, plain_off_led, layNew_led]
section
variable {P : Program} {w : World} {A : Around} {E : Value → Shared → Prop} {s : Shared} {a : Addr} {l : List Str}
theorem SSet.at {h h' : Heap} (R : SSet P w h a l) (k : ∀ o, h.get? a = some o → h'.get? a = some o) : SSet P w h' a l := by
  obtain ⟨D, ho, r⟩ := R
  exact ⟨D, k _ ho, r⟩
theorem sset_add {k : Str} {u : Tok} {Q : Bool → Shared → Prop} (R : SSet P w s.heap a l) (room : l.length + 1 < scanBound)
    (hQ : ∀ b h', Heap.SameBut a s.heap h' → SSet P w h' a (insD k l) → Q b { s with heap := h' }) : wpAny (model P w) A (setAddHashed a (.str k u) (hashStr w k)) Q E s := by
  obtain ⟨D, ho, F, nd, r, hl⟩ := R
  by_cases hk : k ∈ l
  · have hi : insD k l = l := by unfold insD; rw [if_pos hk]
    have q := hQ false s.heap (Heap.SameBut.refl a s.heap) ⟨D, ho, by rw [hi]; exact F, by rw [hi]; exact nd, r, hl⟩
    obtain ⟨es, ep, t⟩ := D
    have hd : (Froz.sObj "set" (es, ep, t)).data = .set es ep t := rfl
    have hf : t.fits es.size = true := F.fit
    have hel : ElemsOf (strKind P w) es.toList := F.el
    have hz : es.size = l.length := F.sz
    unfold setAddHashed setAddHashedIn
    refine wpAny_holding (wpAny_bind (wpAny_setState_of ho hd hf ?_))
    dsimp only
    rw [byScan_of (x := Value.str k u) rfl (by omega) hel]
    simp only [↓reduceIte]
    unfold setAddByScan
    refine wpAny_bind ?_
    refine wpAny_bind (wpAny_rule ?_)
    refine wpAny_bind (wpAny_setScan_of (knd := strKind P w) (k := k) (Froz.is_str k u) ho hd hf hel ?_)
    cases hfi : List.findIdx? (fun e => (strKind P w).is k e.2) es.toList with
    | some j =>
      dsimp only
      exact wpAny_pure (wpAny_pure q)
    | none =>
      obtain ⟨e, he, z⟩ := (F.mem k).mp hk
      have c := List.findIdx?_eq_none_iff.mp hfi e he
      rw [z] at c
      cases c
  · have hi : insD k l = k :: l := by unfold insD; rw [if_neg hk]
    refine Froz.add_x ho F hk room ?_
    refine hQ true _ (Heap.SameBut.update _ _ _) ⟨_, Froz.get_upd _ ho rfl, by rw [hi]; exact Froz.add_ok u F, insD_nodup nd, addTx_ris _ _ _ r, hl.imp id fun z => by rw [addTx_led]; exact z⟩
/-- the members' texts -/
def txt (v : Value) : Str := match v with
  | .str k _ => k
  | _ => Str.empty
theorem isStr_of {k : Str} {v : Value} (h : Value.isStrOf k v = true) : ∃ k u, v = Value.str k u := by
  cases v with
  | str y t => exact ⟨y, t, rfl⟩
  | _ => simp [Value.isStrOf] at h
theorem isStr_txt {k : Str} {v : Value} (h : Value.isStrOf k v = true) : txt v = k := by
  cases v with
  | str y t => simp [Value.isStrOf] at h; exact h
  | _ => simp [Value.isStrOf] at h
theorem txOk_mem {D : Froz.SD} (F : Froz.TxOk P w D l) : ∀ v ∈ D.1.toList.map (·.2), ∃ k u, v = Value.str k u := fun v hv => by
  obtain ⟨e, he, rfl⟩ := List.mem_map.mp hv
  obtain ⟨⟨k, hk, _⟩, _⟩ := F.el e he
  exact isStr_of hk
theorem txOk_perm {D : Froz.SD} (F : Froz.TxOk P w D l) (nd : l.Nodup) : ((D.1.toList.map (·.2)).map txt).Perm l := by
  refine perm_of_sub l _ nd (fun x hx => ?_) ?_
  · obtain ⟨e, he, z⟩ := (F.mem x).mp hx
    refine List.mem_map.mpr ⟨e.2, List.mem_map.mpr ⟨e, he, rfl⟩, ?_⟩
    exact isStr_txt z
  · rw [List.length_map, List.length_map, Array.length_toList]; exact F.sz
/-! ### set(xs) -/
def setL (xs : List Str) : List Str := dd xs.reverse
theorem take_rev {xs : List Str} {i : Nat} {x : Str} (h : xs[i]? = some x) : setL (xs.take (i + 1)) = insD x (setL (xs.take i)) := by
  unfold setL
  rw [List.take_add_one, h, List.reverse_append]
  rfl
theorem setL_len (xs : List Str) : (setL xs).length ≤ xs.length := by
  have := dd_len xs.reverse
  rw [List.length_reverse] at this
  exact this
theorem setL_nodup (xs : List Str) : (setL xs).Nodup := dd_nodup _
theorem setL_mem {x : Str} {xs : List Str} : x ∈ setL xs ↔ x ∈ xs := by unfold setL; rw [dd_mem, List.mem_reverse]
theorem sset_new {h : Heap} {a : Addr} (ho : h.get? a = some { cls := .type "set", dict := none, data := .set #[] 0 (.fresh 0 0 (!w.params.followText "set-order")) }) : SSet P w h a [] := by
  refine ⟨(#[], 0, .fresh 0 0 (!w.params.followText "set-order")), ho, Froz.TxOk.nil rfl, List.nodup_nil, List.Pairwise.nil, ?_⟩
  cases w.params.followText "set-order"
  · exact .inr rfl
  · exact .inl rfl
theorem sset_loop {I : Addr} {fp wr : List Addr} {G : Array GenState → Array GenState → Prop} {n : Nat} {Pv : Nat → Value → Prop} {St : Nat → Shared → Prop} {R : Result → Shared → Prop} (W : WalksS P w A.in1 I fp wr G n Pv St) (C : Addr) (hC : C ∉ fp) (xs : List Str) (hz : xs.length = n) (room : n + 1 < scanBound)
    (hv : ∀ i v, Pv i v → ∃ x u, xs[i]? = some x ∧ v = .str x u) : ∀ (k i : Nat) (s : Shared), n - i = k → i ≤ n → St i s → SSet P w s.heap C (setL (xs.take i)) → (∀ s', Moved (C :: wr) G s s' → SSet P w s'.heap C (setL xs) → R (.ok (.ret .none)) s') →
      codeAny (model P w) A (.builtin "set.update.loop" ⟨[.ref C, .ref I], []⟩) R s := by
  have nw : C ∉ wr := fun h => hC (W.sub _ h)
  have sub : ∀ b ∈ wr, b ∈ C :: wr := fun b => List.mem_cons_of_mem _
  intro k
  induction k with
  | zero =>
    intro i s hk hi st R0 fin
    have e : i = n := by omega
    subst e
    rw [List.take_of_length_le (by omega)] at R0
    refine codeAny_builtin PyProof.Rows.F.entry_set_update_loop ?_
    rw [Around.under_plainId PyProof.Rows.F.plain_set_update_loop _]
    refine wpAny_bind (m := pyNext (.ref I)) (W.done s _ _ st fun s' mv => ?_)
    exact wpAny_pure (fin s' (mv.mono sub) (R0.at fun o eo => mv.heap C _ nw eo))
  | succ k ih =>
    intro i s hk hi st R0 fin
    have lt : i < n := by omega
    refine codeAny_builtin PyProof.Rows.F.entry_set_update_loop ?_
    rw [Around.under_plainId PyProof.Rows.F.plain_set_update_loop _]
    refine wpAny_bind (m := pyNext (.ref I)) (W.item i s _ _ lt st fun v s1 pv st1 mv => ?_)
    obtain ⟨x, u, hx, rfl⟩ := hv i v pv
    have R1 : SSet P w s1.heap C (setL (xs.take i)) := R0.at fun o eo => mv.heap C _ nw eo
    refine wpAny_bind (m := holding [Value.str x u] (setAdd C (.str x u))) (wpAny_holding ?_)
    unfold setAdd
    refine wpAny_holding (wpAny_bind ((strKind P w).pyHash (k := x) (Froz.is_str x u) ?_))
    have hroom : (setL (xs.take i)).length + 1 < scanBound := by
      have := setL_len (xs.take i)
      rw [List.length_take] at this
      omega
    refine sset_add (s := { s1 with toks := s1.toks + 1 }) R1 hroom fun b h' sb R2 => ?_
    rw [← take_rev hx] at R2
    refine wpAny_pure ⟨plainId_quiet PyProof.Rows.F.plain_set_update_loop _, ih (i + 1) _ (by omega) lt (W.frame _ s1 _ _ st1 (Nat.le_succ _) fun c hc o eo => ?_) R2 fun s3 mv3 R3 => ?_⟩
    · rw [sb.2 c fun z : c = C => hC (z ▸ hc)]; exact eo
    · refine fin s3 (Moved.trans W.gtrans ((mv.mono sub).then_heap (Nat.le_succ _) fun c o nc eo => ?_) mv3) R3
      rw [sb.2 c fun z : c = C => nc (z ▸ List.mem_cons_self)]; exact eo
theorem strs_get : ∀ {us : List Value} {xs : List Str}, StrsAre us xs → ∀ (i : Nat) (v : Value), us[i]? = some v → ∃ x u, xs[i]? = some x ∧ v = .str x u
  | _, _, .nil, i, v, h => by simp at h
  | _, _, .cons x t r, 0, v, h => by simp at h; exact ⟨x, t, rfl, h.symm⟩
  | _, _, .cons x t r, i + 1, v, h => by
    obtain ⟨y, u, h1, h2⟩ := strs_get r i v (by simpa using h)
    exact ⟨y, u, by simpa using h1, h2⟩
/-- the new set's object -/
abbrev nS (w : World) : Obj := { cls := .type "set", dict := none, data := .set #[] 0 (.fresh 0 0 (!w.params.followText "set-order")) }
set_option maxHeartbeats 3200000 in
theorem call_sset {p : Addr} {its : Array Value} {xs : List Str} {Q : Value → Shared → Prop} (hh : A.handled = none) (hp : s.heap.IsList p its) (hi : StrsAre its.toList xs) (hb : xs.length + 1 < scanBound)
    (h : ∀ (h' : Heap) (tk : Nat), SSet P w h' s.heap.objs.size (setL xs) → (∀ b o, s.heap.get? b = some o → h'.get? b = some o) → Q (.ref s.heap.objs.size) { s with heap := h', toks := tk }) : wpAny (model P w) A (call (.type "set") [.ref p]) Q E s := by
  have hz : xs.length = its.size := by rw [← StrsAre.len_eq hi, Array.length_toList]
  obtain ⟨c, tl, hmro⟩ := PySem.F.called_set.mro
  have g1 := PySem.F.called_set.made
  have g2 := PySem.F.called_set.sub
  refine wpAny_call (codeAny_of_tree ?_)
  show wpAny _ _ (callAny (.type "set") _) _ _ _
  refine wpAny_pure ⟨Code.quiet_builtin _ (by decide +kernel), codeAny_builtin PySem.F.entry_type_call ?_⟩
  rw [Around.under_plain (weight_type_call_type "set" [.ref p] []) rfl]
  have g3 := PySem.F.called_set.notType
  have g4 := PySem.F.called_set.canCreate
  have g5 := PySem.F.typeCall_set_1 (.ref p)
  repeat (any_goals (first | assumption | wp_step))
  refine codeAny_mono (L2.code_set_led1 (.ref p) (E := E) (Q₁ := fun obj s₁ => obj = .ref s.heap.objs.size ∧ s₁ = { s with heap := s.heap.push (nS w) }) ⟨rfl, rfl⟩) fun r s₁ hr => ?_
  match r, hr with
  | .error e, hr => exact hr
  | .ok .next, hr => exact hr.elim
  | .ok .brk, hr => exact hr.elim
  | .ok .cont, hr => exact hr.elim
  | .ok (.ret obj), hr =>
    obtain ⟨rfl, rfl⟩ := hr
    have hS : (s.heap.push (nS w)).get? s.heap.objs.size = some (nS w) := Heap.get?_push_size _ rfl
    have hT : Shared.TypeIs { s with heap := s.heap.push (nS w) } (.ref s.heap.objs.size) "set" := ⟨_, hS, rfl⟩
    have g6 := PySem.F.called_set.init.lookup
    have g7 := PySem.F.called_set.init.bind (.ref s.heap.objs.size)
    repeat (any_goals (first | assumption | wp_step))
    refine codeAny_mono (codeAny_call_builtin (R := wants (fun r s₂ => r = .none ∧ ∃ h' tk, s₂ = { s with heap := h', toks := tk } ∧ SSet P w h' s.heap.objs.size (setL xs) ∧ (∀ b o, s.heap.get? b = some o → h'.get? b = some o)) E) PySem.F.called_set.init.plain PySem.F.entry_set_init (check_set_init_1 hT ?_)) fun r₂ s₂ hr₂ => ?_
    · obtain ⟨o, ho, hc, nl, hd⟩ := hp
      obtain ⟨ocls, odict, odata, oslots⟩ := o
      simp only at hc hd
      subst hc; subst hd
      have ho1 : (s.heap.push (nS w)).get? p = some { cls := .type "list", dict := odict, data := .seq its nl, slots := oslots } := Heap.get?_push_of_some _ ho
      have g8 := PySem.F.sub_list_set
      have g9 := PySem.F.sub_list_frozenset
      have g10 : (Value.type "list" == Value.type "dict") = false := by decide
      have hl1 : (s.heap.push (nS w)).IsList p its := ⟨_, ho1, rfl, nl, rfl⟩
      unfold Builtin.«set.__init__» noKeywords Builtin.Frozenset.updateFrom
      generalize hPI : pyIter = PI
      wp_walk
      subst hPI
      refine wpAny_pyIter_list hl1 ?_
      refine wpAny_bind (wpAny_runValue ?_)
      have lp : p < s.heap.objs.size := Heap.lt_size ho
      have hh3 : A.in1.in1.in1.handled = none := by simp [hh]
      have z1 : (s.heap.push (nS w)).objs.size = s.heap.objs.size + 1 := Heap.size_push ..
      have n1 : p ≠ (s.heap.push (nS w)).objs.size := by rw [z1]; exact Nat.ne_of_lt (Nat.lt_succ_of_lt lp)
      have n2 : s.heap.objs.size ∉ [(s.heap.push (nS w)).objs.size, p] := by
        rw [z1]
        simp only [List.mem_cons, List.not_mem_nil, or_false, not_or]
        exact ⟨Nat.ne_of_lt (Nat.lt_succ_self _), Nat.ne_of_gt lp⟩
      refine sset_loop ((Walks.list hh3 _ p n1 its).toS) s.heap.objs.size n2 xs hz (by omega) (fun i v e => strs_get hi i v (by rw [Array.getElem?_toList]; exact e)) (its.size - 0) 0 _ (by omega) (Nat.zero_le _)
        ⟨⟨_, Heap.get?_push_size _ rfl, rfl, rfl⟩, (hl1.push _)⟩ (sset_new (Heap.get?_push_of_some _ hS)) fun s' mv R' => ?_
      obtain ⟨h', g2, d', tk', os'⟩ := s'
      have eg : g2 = s.gens := mv.gens
      have ed : d' = s.drawn := mv.drawn
      have eo : os' = s.os := mv.os
      subst eg; subst ed; subst eo
      refine wpAny_pure ?_
      show wpAny _ _ (ret Value.none) _ _ _
      refine wpAny_pure ⟨rfl, h', tk', rfl, R', fun b o e => ?_⟩
      have lb : b < s.heap.objs.size := Heap.lt_size e
      refine mv.heap b o ?_ (Heap.get?_push_of_some _ (Heap.get?_push_of_some _ e))
      simp only [List.mem_cons, List.not_mem_nil, or_false, not_or]
      rw [z1]
      exact ⟨Nat.ne_of_lt lb, Nat.ne_of_lt (Nat.lt_succ_of_lt lb)⟩
    · match r₂, hr₂ with
      | .error e, hr₂ => exact hr₂
      | .ok .next, hr₂ => exact hr₂.elim
      | .ok .brk, hr₂ => exact hr₂.elim
      | .ok .cont, hr₂ => exact hr₂.elim
      | .ok (.ret r), hr₂ =>
        obtain ⟨rfl, h', tk, rfl, R', k'⟩ := hr₂
        repeat (any_goals (first | assumption | wp_step))
        exact h _ _ R' k'
end
end HB

set_option Elab.async false
set_option linter.all false
set_option maxRecDepth 100000
set_option maxHeartbeats 1000000
/-! HB, part k: sorted(set(xs)), sorted(xs), sorted(d, key=lambda state: (len(state), state)). -/
namespace HB
open PySem PySem.Spec PyProof.Rows L2

/-! ### the lambda, called -/
abbrev lamP (p : Pos) : Arguments := { posonlyargs := [], args := [{ arg := "state", annotation := none, pos := p }], vararg := none, kwonlyargs := [], kw_defaults := [], kwarg := none, defaults := [] }
abbrev lamB (p1 p2 p3 p4 p5 : Pos) : Expr := .Tuple [.Call (.Name "len" p1) [.Name "state" p2] [] p3, .Name "state" p4] 0 p5
abbrev lamSc : Scope := { kind := .function, names := [("state", .local), ("len", .globalImplicit)], isGenerator := false, isCoroutine := false, more := [] }
section
variable {P : Program} {w : World} {A : Around} {s : Shared}
theorem lam_key {f c' : Addr} {q : Str} {pm ctv : Value} {x : Str} {u : Tok} {mg mb : Str → Option Value} {p0 p1 p2 p3 p4 p5 : Pos} (of : s.heap.get? f = some (PySem.W.kla_obj "<lambda>" q (lamP p0) (lamB p1 p2 p3 p4 p5) lamSc [] pm c' ctv)) (hcd : s.heap.CodeRec (.ref c') q)
    (hroom : A.depth < recursionLimit) (lim : s.heap.NoLimit) (hg : s.heap.Ns mainGlobals mg) (hm : mg "len" = none) (hb : s.heap.Ns builtinsNs mb) (hv : mb "len" = some (.builtin "len")) (hz : x.length ≤ sizeLine) :
    wpAny (model P w) A (call (.ref f) [.str x u]) (PySem.W.KeyPure (.tuple [.int x.length, .str x]) s) (fun _ _ => False) s := by
  refine wpAny_call (PySem.W.kla_callFunE hroom of rfl rfl rfl rfl hcd ?_)
  have hbind : bindArgs (PySem.W.kla_fn "<lambda>" q (lamP p0) (lamB p1 p2 p3 p4 p5) lamSc [] pm (.ref c') ctv) ⟨[.str x u], []⟩ = pure [(("state" : Str), Value.str x u)] := rfl
  rw [hbind]
  refine wpAny_pure (wpAny_newFunctionEnv (show ∀ x ∈ lamSc.names, x.2 ≠ .cell by decide) (fun y hy => by rw [List.mem_singleton.mp hy]; rfl) (fun h₁ hns hsb => ⟨lim.fresh _ hsb, ?_⟩) rfl)
  refine PySem.W.kla_codeExpr ?_
  have kp : ∀ b o, s.heap.get? b = some o → h₁.get? b = some o := fun b o e => hsb.extBut b o (Nat.ne_of_lt (Heap.lt_size e)) (Heap.get?_push_of_some _ e)
  have line := line63
  refine wpAny_Tuple_spliced (args_cons (Call_ (Calls.Name_function_global rfl rfl (Calls.loadGlobal_builtin (hg.keeps kp) hm (hb.keeps kp) hv ?_))))
  refine callWith_builtin1 (args_cons (wpAny_Name (wpAny_loadName_local rfl rfl hns rfl ?_) (by decide)))
  refine args_nil (len_str (by omega) ?_)
  refine args_cons (wpAny_Name (wpAny_loadName_local rfl rfl hns rfl ?_) (by decide))
  refine args_nil ⟨(show 2 ≤ sizeLine by decide), ?_⟩
  refine ⟨_, _, rfl, fun b o e => Heap.get?_push_of_some _ (kp b o e), ?_⟩
  exact .tuple (Heap.get?_push_size _ rfl) rfl rfl (.cons (.int _ _) (.cons (.str _ _) .nil))
end
/-! ### the lambda, made -/
section
variable {X : Cx} {pins : List (Addr × Obj)} {s1 : L2.St} {H : Hp} {s : Shared}
open LamX in
/-- the lambda is made; all but the tables stays, nothing is forgotten -/
theorem lam_new {T : List (Addr × Str)} {c R : Addr} {params : Arguments} {body : Expr} {pos : Pos} {E : Value → Shared → Prop} {Q : Value → Shared → Prop} (I : Inv X pins s1 H s) (TB : TabB X.base X.mg c R) (hc : X.env.code = .ref c)
    (hm : (R, X.env.qual ++ "<lambda>") ∈ T) (hu : ∀ p ∈ T, p.1 = R → p.2 = X.env.qual ++ "<lambda>") (hT : Tabs T H) (hdef : defaultsOf params X.env = ([], []))
    (h : ∀ (f c' : Addr) (pm ctv : Value) (H1 : Hp) (s' : Shared), Inv X pins s1 H1 s' → ExtN H H1 → (∀ b, H b ≠ none → H1 b ≠ none) → Tabs T H1 →
      s'.heap.get? f = some (PySem.W.kla_obj "<lambda>" (X.env.qual ++ "<lambda>") params body lamSc [] pm c' ctv) → s'.heap.CodeRec (.ref c') (X.env.qual ++ "<lambda>") → Q (.ref f) s') :
    wpAny (model X.prog X.w) X.A (eval (.Lambda params body lamSc pos) X.env) Q E s := by
  obtain ⟨ps, hP, ok, ha⟩ := hT _ hm
  refine PySem.W.kla_eval hdef ?_
  have hR : s.heap.get? R = some { cls := .none, data := .fields ps } := I.hok R _ hP
  have bR : s.heap.BuiltinsAt X.mg R := TB.bm.keeps I.bk
  have hclo : closureFor lamSc X.env = pure ([] : List (Str × Addr)) := rfl
  cases hca : codeAmong pos ps.toList with
  | some cv =>
    obtain ⟨c', rfl, hco⟩ := ha pos cv hca
    refine PySem.W.kla_makeFunctionHit (mg := X.mg) (c := c) (P := R) (ps := ps) hclo I.ok.glob (I.mod.glob.keeps I.bk) hc (TB.code.keeps I.bk) hR ok hca bR fun ctv h' tk hx hsz => ?_
    obtain ⟨⟨oc, vs, t, a1, a2, a3⟩, _, _⟩ := I.hok c' _ hco
    exact h _ c' _ ctv H _ (I.kept fun b o e => Heap.get?_push_of_some _ (hx b o e)) (ExtN.refl H) (fun _ z => z) hT (Heap.get?_push_size _ rfl) ⟨c', oc, vs, t, rfl, Heap.get?_push_of_some _ (hx _ _ a1), a2, a3⟩
  | none =>
    refine PySem.W.kla_makeFunction (mg := X.mg) (c := c) (P := R) (ps := ps) hclo I.ok.glob (I.mod.glob.keeps I.bk) hc (TB.code.keeps I.bk) hR ok hca TB.gP bR fun c' ctv h' tk hx hge hlt hrec htb => ?_
    obtain ⟨c2, oc, vs, t, e2, a1, a2, a3⟩ := hrec
    cases e2
    have nC : H c' = none := I.hok.fresh hge
    have I1 := inv_table (t' := tk) (more := #[rawInt pos.line, rawInt pos.col, .ref c']) (h' := h'.push (PySem.W.kla_obj "<lambda>" (X.env.qual ++ "<lambda>") params body lamSc [] ((X.mg "__name__").getD .none) c' ctv)) I hP
      (fun b o hb e => Heap.get?_push_of_some _ (hx b o hb e)) (Heap.get?_push_of_some _ htb) hge ⟨oc, vs, t, Heap.get?_push_of_some _ a1, a2, a3⟩
    have nR : R ≠ c' := ne_of_none hP nC
    have ex : ExtN H (upd (upd H R (.tbl (ps ++ #[rawInt pos.line, rawInt pos.col, .ref c']))) c' (CodeO c' (X.env.qual ++ "<lambda>"))) := fun b o e n => by
      have nb : b ≠ R := fun z => by rw [z, hP] at e; exact n ps (Option.some.inj e).symm
      rw [upd_ne (ne_of_none e nC), upd_ne nb]; exact e
    have app : (ps ++ #[rawInt pos.line, rawInt pos.col, .ref c']).toList = ps.toList ++ [rawInt pos.line, rawInt pos.col, .ref c'] := by simp
    refine h _ c' _ ctv _ _ I1 ex (fun b nb => ?_) (fun p hp => ?_) (Heap.get?_push_size _ rfl) ⟨c', oc, vs, t, rfl, Heap.get?_push_of_some _ a1, a2, a3⟩
    · by_cases z : b = c'
      · rw [z, upd_same]; simp
      · rw [upd_ne z]
        by_cases y : b = R
        · rw [y, upd_same]; simp
        · rw [upd_ne y]; exact nb
    · by_cases hb : p.1 = R
      · rw [hu p hp hb, hb]
        refine ⟨_, by rw [upd_ne nR, upd_same], by rw [app]; exact PySem.TriplesOk_snoc _ _ _ _ ok, fun p' cv hcv => ?_⟩
        rw [app] at hcv
        rcases among_app _ ok hcv with z | z
        · obtain ⟨c0, z1, z2⟩ := ha p' cv z
          exact ⟨c0, z1, ex _ _ z2 codeO_ne⟩
        · exact ⟨c', z, upd_same⟩
      · obtain ⟨qs, b1, b2, b3⟩ := hT p hp
        refine ⟨qs, by rw [upd_ne (ne_of_none b1 nC), upd_ne hb]; exact b1, b2, fun p' cv hcv => ?_⟩
        obtain ⟨c0, z1, z2⟩ := b3 p' cv hcv
        exact ⟨c0, z1, ex _ _ z2 codeO_ne⟩
end
end HB

set_option Elab.async false
set_option linter.all false
set_option maxRecDepth 100000
set_option maxHeartbeats 1000000
/-! HB, part l: sorted as rules. -/
namespace HB
open PySem PySem.Spec PyProof.Rows L2

def isS1 (v : Value) (x : Str) : Prop := ∃ u, v = Value.str x u
theorem each_strs : ∀ {vs : List Value} {xs : List Str}, StrsAre vs xs → PySem.W.EachIs isS1 vs xs
  | _, _, .nil => .nil
  | _, _, .cons x t r => .cons ⟨t, rfl⟩ (each_strs r)
theorem strs_each : ∀ {vs : List Value} {xs : List Str}, PySem.W.EachIs isS1 vs xs → StrsAre vs xs
  | _, _, .nil => .nil
  | _, _, .cons ⟨t, e⟩ r => by subst e; exact .cons _ t (strs_each r)
theorem vals_strs : ∀ {vs : List Value} {xs : List Str}, StrsAre vs xs → Vals (xs.map V.str) vs
  | _, _, .nil => .nil
  | _, _, .cons x t r => .cons ⟨t, rfl⟩ (vals_strs r)
theorem strs_reads {h : Heap} {a : Addr} : ∀ {vs : List Value} {xs : List Str}, StrsAre vs xs → PySem.W.EachIs (fun v b => ∃ as, Reads h v (.str b) as ∧ a ∉ as) vs xs
  | _, _, .nil => .nil
  | _, _, .cons x t r => .cons ⟨[], .str _ _, by simp⟩ (strs_reads r)
theorem all_strs : ∀ {vs : List Value}, (∀ v ∈ vs, ∃ k u, v = Value.str k u) → StrsAre vs (vs.map txt)
  | [], _ => .nil
  | v :: vs, h => by
    obtain ⟨k, u, rfl⟩ := h v List.mem_cons_self
    exact .cons k u (all_strs fun x hx => h x (List.mem_cons_of_mem _ hx))
section
variable {P : Program} {w : World} {A : Around} {E : Value → Shared → Prop} {s : Shared}
theorem sort_strs {a : Addr} {vs : List Value} {xs : List Str} {n : Nat} {Q : Value → Shared → Prop} (ho : s.heap.get? a = some (seqObj "list" vs.toArray n)) (hS : StrsAre vs xs) (hL : xs.length ≤ sizeLine) (hu : A.units + 2 < cLine)
    (h : ∀ out c h', StrsAre out (sortS xs) → h'.get? a = some (seqObj "list" (List.toArray out) c) → (∀ b o, b ≠ a → s.heap.get? b = some o → h'.get? b = some o) → Q .none { s with heap := h' }) : wpAny (model P w) A (call (.builtin "list.sort") [.ref a]) Q E s := by
  refine PySem.W.list_sort_data (enc := PyData.str) (R := isS1) ho (each_strs hS) (strs_reads hS) (PySem.W.AllAlike.of fun _ _ => by simp [PySem.W.alike]) (PySem.W.Sortable.others fun b => ⟨by simp, fun xs => by simp⟩) hL (fun b _ => ?_) fun out hl he => ?_
  · have : (PyData.str b).depth = 0 := by simp [PyData.depth]
    omega
  · have e : PySem.W.dataLe false PyData.str = strLe := PySem.W.dataLe_str (fun x : Str => x)
    rw [e] at he
    obtain ⟨c, hc⟩ := sortedHeap_at (vs := vs) (out := out.toArray) ho
    exact h out c _ (strs_each he) hc fun b o hb e => (sortedHeap_old hb (Heap.lt_size e)).trans e
end
section
variable {X : Cx}
/-- a set of texts, tracked -/
def SSO (P : Program) (w : World) (a : Addr) (l : List Str) : HO := .ext fun h => SSet P w h a l
theorem sso_new {w : World} {P : Program} {H : Hp} {h : Heap} {a : Addr} {l : List Str} (R : SSet P w h a l) : ObjOk P w H h a (SSO P w a l) := by
  have ⟨D, ho, _⟩ := R
  exact ⟨R, ⟨_, ho⟩, fun h1 h2 p k => SSet.at p k⟩
def rSetS (X : Cx) : List V → Hp → VK → Prop := fun xs H Q => ∃ (a : Addr) (ys : List Str), xs = [.ref a] ∧ SqL X.K H a (ys.map V.str) ∧ ys.length + 1 < scanBound ∧ ∀ p, H p = none → Q (.ref p) (upd H p (SSO X.prog X.w p (setL ys)))
theorem cr_setS (hc : X.calm = true) : CallR X (.type "set") (rSetS X) := by
  intro pins s s1 H xs us Q I r h
  obtain ⟨a, ys, rfl, hq, hb, q⟩ := h
  rw [Vals.ref1 r]
  obtain ⟨its, rv, pl, hz⟩ := I.list hq
  refine call_sset (I.ok.hd hc) pl.isList (by simpa using strsAre_of rv) hb fun h' tk R k => ?_
  exact ⟨.ref s.heap.objs.size, upd H s.heap.objs.size (SSO X.prog X.w s.heap.objs.size (setL ys)), I.laid (t' := tk) k (Nat.le_refl _) (sso_new R), rfl, q _ (I.hok.fresh (Nat.le_refl _))⟩
def rSortSS (X : Cx) : List V → Hp → VK → Prop := fun xs H Q => ∃ (a : Addr) (l : List Str), xs = [.ref a] ∧ H a = some (SSO X.prog X.w a l) ∧ l.length < scanBound ∧ ∀ p, H p = none → Q (.ref p) (upd H p (.lst ((sortS l).map V.str)))
theorem sortS_len (l : List Str) : (sortS l).length = l.length := (sortS_perm l).length_eq
theorem cr_sortSS (hc : X.calm = true) (hu : X.A.units + 64 < cLine) : CallR X (.builtin "sorted") (rSortSS X) := by
  intro pins s s1 H xs us Q I r h
  obtain ⟨a, l, rfl, ha, hb, q⟩ := h
  rw [Vals.ref1 r]
  obtain ⟨D, ho, F, nd, ris, hl⟩ := (I.hok a _ ha).1
  refine Calls.call_function_entry kind_sorted plain_sorted entry_sorted (args_sorted1 _) ?_
  unfold Builtin.«sorted»
  refine wpAny_bind (m := checkCount "sorted" 1 1 _) (wpAny_pure ?_)
  have hz : D.1.size = l.length := F.sz
  refine wpAny_bind (collect_set (A := X.A.in1) (es := D.1) (ep := D.2.1) (t := D.2.2) (I.ok.hd hc) ⟨_, ho, rfl, rfl⟩ F.fit (by omega) ris hl fun s2 vs k2 z2 g2 o2 pm => ?_)
  have hS : StrsAre vs (vs.map txt) := all_strs fun v hv => txOk_mem F v (pm.mem_iff.mp hv)
  have pk : (vs.map txt).Perm l := (pm.map txt).trans (txOk_perm F nd)
  have hlen : (vs.map txt).length = l.length := pk.length_eq
  have hsz : l.length ≤ sizeLine := by unfold scanBound at hb; rw [sizeLine_eq]; omega
  refine wpAny_bind (wpAny_newList ?_ (by rw [List.length_map] at hlen; omega))
  have hoL : (s2.heap.push (seqObj "list" vs.toArray 0)).get? s2.heap.objs.size = some (seqObj "list" vs.toArray 0) := Heap.get?_push_size _ rfl
  refine wpAny_bind (wpAny_holding (sort_strs (s := { s2 with heap := s2.heap.push (seqObj "list" vs.toArray 0) }) hoL hS (by omega) (by show X.A.units + 1 + 2 < cLine; omega) fun out c h' ho2 hc2 kp => ?_))
  rw [sortS_of_perm pk] at ho2
  refine wpAny_pure ⟨_, rfl, ?_⟩
  have hn : H s2.heap.objs.size = none := I.hok.fresh z2
  have k3 : ∀ b o, s.heap.get? b = some o → h'.get? b = some o := fun b o e => by
    have := k2 b o e
    exact kp b o (Nat.ne_of_lt (Heap.lt_size this)) (Heap.get?_push_of_some _ this)
  have J : Inv X pins s1 (upd H s2.heap.objs.size (.lst ((sortS l).map V.str))) { s with heap := h', gens := s2.gens, drawn := s2.drawn, toks := s2.toks } :=
    I.call (ch := []) (Un.laid k3 z2 hn) (I.hok.laid k3 z2 ⟨by rw [List.length_map, sortS_len]; exact hsz, out, c, vals_strs ho2, hc2⟩) (by rw [g2]; exact I.bare) (fun _ z => nomatch z)
  have e : { s2 with heap := h' } = { s with heap := h', gens := s2.gens, drawn := s2.drawn, toks := s2.toks } := by
    cases s2; cases s; cases o2; rfl
  show EP X pins s1 Q _ { s2 with heap := h' }
  rw [e]
  exact ⟨.ref _, _, J, rfl, q _ hn⟩
/-- sorted(xs), a list of texts -/
def rSortL (K : PySem.W.Frag) : List V → Hp → VK → Prop := fun xs H Q => ∃ (a : Addr) (ys : List Str), xs = [.ref a] ∧ SqL K H a (ys.map V.str) ∧ ∀ p, H p = none → Q (.ref p) (upd H p (.lst ((sortS ys).map V.str)))
theorem cr_sortL (hu : X.A.units + 64 < cLine) : CallR X (.builtin "sorted") (rSortL X.K) := by
  intro pins s s1 H xs us Q I r h
  obtain ⟨a, ys, rfl, hq, q⟩ := h
  rw [Vals.ref1 r]
  obtain ⟨its, rv, pl, hz⟩ := I.list hq
  have hS := strsAre_of rv
  have hl : its.length = ys.length := StrsAre.len_eq hS
  have hL : ys.length ≤ sizeLine := by
    rw [List.length_map] at hz
    exact hz
  refine PySem.W.sorted_data (enc := PyData.str) (R := isS1) pl.isList (each_strs hS) ((strs_reads (a := 0) hS).mono fun _ _ ⟨as, x, _⟩ => ⟨as, x⟩) (PySem.W.AllAlike.of fun _ _ => by simp [PySem.W.alike]) (PySem.W.Sortable.others fun b => ⟨by simp, fun xs => by simp⟩) hL (fun b _ => ?_) fun out ho he => ?_
  · have : (PyData.str b).depth = 0 := by simp [PyData.depth]
    omega
  · have e : PySem.W.dataLe false PyData.str = strLe := PySem.W.dataLe_str (fun x : Str => x)
    rw [e] at he
    obtain ⟨c, hc⟩ := sortedAll_at s.heap its out.toArray
    have hn : H (s.heap.objs.size + 1) = none := I.hok.fresh (Nat.le_succ _)
    exact ⟨.ref _, upd H (s.heap.objs.size + 1) (.lst ((sortS ys).map V.str)), I.laid (t' := s.toks) (fun _ _ => sortedAll_old) (Nat.le_succ _) ⟨by rw [List.length_map, sortS_len]; exact hL, out, c, vals_strs (strs_each he), hc⟩, rfl, q _ hn⟩
end
end HB

set_option Elab.async false
set_option linter.all false
set_option maxRecDepth 100000
set_option maxHeartbeats 1000000
/-! HB, part m: sorted(d, key=lambda state: (len(state), state)); sorted as plain functions. -/
namespace HB
open PySem PySem.Spec PyProof.Rows L2

def keyLe (a b : Str) : Bool := decide (a.length < b.length) || (decide (a.length = b.length) && strLe a b)
def sortK (l : List Str) : List Str := l.mergeSort keyLe
def keyT2 (x : Str) : PyData := .tuple [.int x.length, .str x]
theorem dataLe_key : PySem.W.dataLe false keyT2 = keyLe := by
  funext a b
  show (!PySem.W.dataLt (keyT2 b) (keyT2 a)) = _
  unfold keyT2
  rw [PySem.W.dataLt_pair (by simp [PySem.W.alike]) (by simp [PySem.W.alike]), PySem.W.dataLt_int, PySem.W.dataLt_str]
  simp only [PyData.eqv, beq_iff_eq]
  unfold keyLe strLe
  by_cases h1 : (b.length : Int) = (a.length : Int)
  · have h1' : a.length = b.length := by omega
    by_cases h2 : b = a
    · subst h2
      simp
    · rw [if_pos h1, if_neg h2, PySem.W.not_lt_str]
      simp [h1']
  · rw [if_neg h1]
    have h1' : ¬ a.length = b.length := by omega
    by_cases h2 : a.length < b.length
    · have : ¬ (b.length : Int) < (a.length : Int) := by omega
      simp [h2, this]
    · have : (b.length : Int) < (a.length : Int) := by omega
      simp [h1', h2, this]
theorem sortK_len (l : List Str) : (sortK l).length = l.length := (List.mergeSort_perm l _).length_eq
theorem strs_at2 : ∀ {vs : List Value} {xs : List Str}, vs.length = xs.length → (∀ (j : Nat) v, vs[j]? = some v → ∃ x u, xs[j]? = some x ∧ v = .str x u) → StrsAre vs xs
  | [], [], _, _ => .nil
  | v :: vs, x :: xs, hl, h => by
    obtain ⟨y, u, e1, e2⟩ := h 0 v rfl
    simp at e1
    subst e1; subst e2
    exact .cons _ u (strs_at2 (by simpa using hl) fun j v e => by simpa using h (j + 1) v (by simpa using e))
  | [], _ :: _, hl, _ => by simp at hl
  | _ :: _, [], hl, _ => by simp at hl
def tSortK (T : List (Addr × Str)) (ta : TE) : TE := fun s1 H Q => ta s1 H fun x H1 => LamX.Tabs T H1 ∧ ∀ H2, LamX.ExtN H1 H2 → (∀ b, H1 b ≠ none → H2 b ≠ none) → LamX.Tabs T H2 →
  ∃ (a : Addr) (kvs : List (Key × V)) (ks : List Str), x = .ref a ∧ Rd H2 a (.dK kvs) ∧ kvs.map (·.1) = ks.map Sum.inr ∧ (∀ k ∈ ks, k.length ≤ sizeLine) ∧ ∀ p, H2 p = none → Q (.ref p) (upd H2 p (.lst ((sortK ks).map V.str)))
section
variable {X : Cx} {a : Expr} {ta : TE}
theorem pe_sortK {T : List (Addr × Str)} {k : Nat} {c R : Addr} {p0 p1 p2 p3 p4 p5 p6 p7 p8 p9 : Pos} (TB : LamX.TabB X.base X.mg c R) (hcode : X.env.code = .ref c) (hmT : (R, X.env.qual ++ "<lambda>") ∈ T) (huT : ∀ p ∈ T, p.1 = R → p.2 = X.env.qual ++ "<lambda>")
    (hr : Room (k + 2) X.A) (hg : Gl X "sorted") (hm : X.mg "sorted" = none) (hml : X.mg "len" = none) (ha : PE X a ta) (hs : starEach [a] X.env = (false, eval a X.env) :: starEach [] X.env := by rfl) :
    PE X (.Call (.Name "sorted" p6) [a] [{ arg := some "key", value := .Lambda (lamP p0) (lamB p1 p2 p3 p4 p5) lamSc p7, pos := p8 }] p9) (tSortK T ta) := by
  refine ⟨fun pins s s1 H Q I h => ?_⟩
  refine wpAny_Call_Name_kw (ld_blt I hg hm boot_sorted ?_)
  refine callWith_kw (args_cons (thn (ha.run pins s s1 H _ I h) fun v s2 ⟨x, H1, I1, r1, hT, q⟩ => args_nil ?_) hs) (by rw [hs]; rfl) (by rw [hs]; rfl) rfl rfl
  show wpAny _ _ (evalAll ((do let v ← eval (.Lambda (lamP p0) (lamB p1 p2 p3 p4 p5) lamSc p7) X.env; standAt p9; pure v) :: [])) _ _ s2
  refine wpAny_evalAll_cons (wpAny_bind (lam_new I1 TB hcode hmT huT hT rfl fun f c' pm ctv H2 s3 I3 ex trk hT2 hf hcd => wpAny_bind (wpAny_standAt (wpAny_pure (wpAny_evalAll_nil ?_)))))
  obtain ⟨d, kvs, ks, rfl, hd, hks, hkz, q⟩ := q H2 ex trk hT2
  cases r1
  show wpAny _ _ (call (.builtin "sorted") [.ref d] [(Str.ofString "key", .ref f)]) _ _ s3
  obtain ⟨z, lo, vs, rel, dd⟩ := dk_rd I3.hok hd
  obtain ⟨ep, hat⟩ := dd.dictAt
  have hkeys : vs.map (·.1) = ks.map Sum.inr := rel.keys.symm.trans hks
  have hl : vs.length = ks.length := by simpa using congrArg List.length hkeys
  have hL : vs.length ≤ sizeLine := by rw [← rel.length]; exact z
  refine call_function_entry_kw kind_sorted plain_sorted entry_sorted (PyProof.Rows.ksk_s1 _ _) ?_
  unfold Builtin.«sorted»
  refine wpAny_bind (m := checkCount "sorted" 1 1 _) (wpAny_pure ?_)
  refine wpAny_bind (PySem.W.kdu_collect (A := X.A.in1) (PySem.W.kdl_dict (knd := mixKind X.prog X.w) (kvs := vs) (ep := ep) lo) hr.hd hat hL fun h' tk acc hk hacc => ?_)
  have hal : acc.toList.length = ks.length := by rw [Array.length_toList, hacc.1, hl]
  have hS : StrsAre acc.toList ks := strs_at2 hal fun j v e => by
    obtain ⟨k, x, e1, e2⟩ := hacc.2 j v (by rw [← Array.getElem?_toList]; exact e)
    have e3 : (vs.map (·.1))[j]? = some k := by rw [List.getElem?_map, e1]; rfl
    rw [hkeys, List.getElem?_map] at e3
    cases e4 : ks[j]? with
    | none => rw [e4] at e3; cases e3
    | some y =>
      rw [e4] at e3
      obtain rfl : Sum.inr y = k := Option.some.inj e3
      obtain ⟨t, ev⟩ := Value.isStrOf_shape (x := y) (v := v) e2
      exact ⟨y, t, rfl, ev⟩
  have I4 : Inv X pins s1 H2 { s3 with heap := h', toks := tk } := I3.kept hk
  refine wpAny_bind (wpAny_newList ?_ (by rw [hal, ← hl]; exact hL))
  have hoL : (h'.push (seqObj "list" acc.toList.toArray 0)).get? h'.objs.size = some (seqObj "list" acc.toList.toArray 0) := Heap.get?_push_size _ rfl
  obtain ⟨mb, hb1, hb2⟩ := I3.mod.blt
  have hun := hr.un
  have hdp := hr.dp
  refine wpAny_bind (wpAny_holding (PySem.W.list_sort_key_data (s := { s3 with heap := h'.push (seqObj "list" acc.toList.toArray 0), toks := tk }) (f := .ref f) (b := false) (R := isS1) keyT2 hoL (each_strs hS) (PySem.W.AllAlike.of fun _ _ => by simp [PySem.W.alike, PySem.W.alikeAll, keyT2]) (PySem.W.Sortable.tuples fun _ => ⟨_, _, rfl⟩) (by rw [← hl]; exact hL)
    (fun x _ => ?_) (PyProof.Rows.ksk_l1 _ _) (PyProof.Rows.ksk_t1 _ _) (fun v x hv hx g tk2 kb => ?_) fun out c' g tk2 kb hg2 hlo he => ?_))
  · have : (keyT2 x).depth = 1 := by simp [keyT2, PyData.depth, PyData.depthAll]
    show X.A.units + 1 + 1 + (keyT2 x).depth < cLine
    omega
  · obtain ⟨u, rfl⟩ := hv
    have kall : ∀ b o, s3.heap.get? b = some o → g.get? b = some o := fun b o e => by
      have := hk b o e
      exact kb b o (Nat.ne_of_lt (Heap.lt_size this)) (Heap.get?_push_of_some _ this)
    refine lam_key (s := { s3 with heap := g, toks := tk2 }) (mg := X.mg) (mb := mb) (kall _ _ hf) (hcd.keeps kall) ?_ (I3.nolimit.keeps kall) ((I3.mod.glob.keeps I3.bk).keeps kall) hml ((hb1.keeps I3.bk).keeps kall) ((hb2 _ (by decide)).trans boot_len) (hkz x hx)
    show X.A.depth < recursionLimit
    omega
  · rw [dataLe_key] at he
    have k5 : ∀ b o, h'.get? b = some o → g.get? b = some o := fun b o e => kb b o (Nat.ne_of_lt (Heap.lt_size e)) (Heap.get?_push_of_some _ e)
    have hn : H2 h'.objs.size = none := I4.hok.fresh (Nat.le_refl _)
    refine wpAny_pure ⟨_, rfl, .ref h'.objs.size, upd H2 h'.objs.size (.lst ((sortK ks).map V.str)), I4.laid (t' := tk2) k5 (Nat.le_refl _) ⟨?_, out, c', vals_strs (strs_each he), hg2⟩, rfl, q _ hn⟩
    rw [List.length_map, sortK_len, ← hl]; exact hL
end
end HB

set_option Elab.async false
set_option linter.all false
set_option maxRecDepth 100000
set_option maxHeartbeats 1000000
/-! HB, part n: subscripts as a rule, sorted as plain functions, the law's first statement. -/
namespace HB
open PySem PySem.Spec PyProof.Rows L2

theorem ix_dic {X : Cx} (hu : X.A.units + 64 < cLine) : IxR X rIxDic := by
  intro value slice pins s s1 H x y v u Q I rx ry h hs
  obtain ⟨a, z, rfl, g, q⟩ := h
  obtain rfl : v = Value.ref a := rx
  exact tail_any (dict_typeIs I g) PySem.F.slot_dict_getitem.lookup (d_getItem (by omega) I g ry fun w' s3 I3 rw' => ⟨z, H, I3, rw', q⟩) hs
theorem ix_A {X : Cx} (hu : X.A.units + 64 < cLine) : IxR X (rIxA X.K) := ix_seq.or (ix_dic hu)

section
variable {T : List (Addr × Str)} {K : PySem.W.Frag}
theorem dens_strs {L : List Addr} {B : Addr → Prop} {H : Hp} : ∀ xs : List Str, Dens L B H (xs.map Dt.str) (xs.map V.str)
  | [] => .nil
  | _ :: xs => .cons Den.str (dens_strs xs)
/-- sorted(set(xs)) -/
def gSS (st : Sto) (xs : List Dt) : Option (Dt × Sto) := match xs with
  | [x] => (asL st x).bind fun ds => (strs' ds).bind fun ys => if ys.length + 1 < scanBound then some (.lst ((sortS (setL ys)).map .str), st) else none
  | _ => none
theorem sim_ss {X : Cx} {te : TE} {f : SE} (hf : SimE T te f) : SimE T (tCB (rSortSS X) (tCons (tCB (rSetS X) (tCons te tNil)) tNil)) (eN gSS (aCons f aNil)) := by
  intro Z L st H s r d st' Q w e h q
  obtain ⟨⟨ds, st1⟩, h1, h⟩ := bind_some' h
  obtain ⟨⟨dx, st2⟩, h2, h3⟩ := bind_some' h1
  cases h3
  refine hf Z L st H s r dx _ _ w e h2 fun x H1 L1 f1 p1 => ?_
  dsimp only at h
  unfold gSS at h
  obtain ⟨es, e1, h⟩ := bind_some' h
  obtain ⟨ys, e2, h⟩ := bind_some' h
  split at h
  case isFalse => cases h
  case isTrue hb =>
  cases h
  obtain ⟨a, vs, rfl, ea, t⟩ := asL_ok f1.wd p1 e1
  have ev := strs_ok t e2
  subst ev
  refine ⟨a, ys, rfl, SqL.of ea, hb, fun p np => ?_⟩
  have n1 : Af T Z L1 _ H1 L1 _ (upd H1 p (SSO X.prog X.w p (setL ys))) := .new f1.wd np
  have hlen : (setL ys).length < scanBound := by have := setL_len ys; omega
  refine ⟨p, setL ys, rfl, upd_same, hlen, fun p2 np2 => ?_⟩
  exact q _ _ L1 (f1.trans (n1.trans (.new n1.wd np2))) (.newL n1.wd np2 (dens_strs _))
/-- sorted(xs), texts -/
def gSortL (st : Sto) (xs : List Dt) : Option (Dt × Sto) := match xs with
  | [x] => (asL st x).bind fun ds => (strs' ds).map fun ys => (.lst ((sortS ys).map .str), st)
  | _ => none
theorem vo_sortL : VON T (rSortL K) gSortL := by
  intro Z L st H xs dxs d st' Q w hx h q
  unfold gSortL at h
  split at h
  · obtain ⟨v, rfl, p⟩ := dens1 hx
    obtain ⟨es, e1, h⟩ := bind_some' h
    obtain ⟨ys, e2, e3⟩ := Option.map_eq_some_iff.mp h
    cases e3
    obtain ⟨a, vs, rfl, ea, t⟩ := asL_ok w p e1
    have ev := strs_ok t e2
    subst ev
    exact ⟨a, ys, rfl, SqL.of ea, fun p np => q _ _ L (.new w np) (.newL w np (dens_strs _))⟩
  · cases h
/-- the keys are texts -/
def kStrs : List Key → Option (List Str)
  | [] => some []
  | .inr x :: ks => (kStrs ks).map fun xs => x :: xs
  | _ => none
theorem kStrs_ok : ∀ {ks : List Key} {xs : List Str}, kStrs ks = some xs → ks = xs.map Sum.inr
  | [], _, h => by cases h; rfl
  | .inr x :: ks, _, h => by
    obtain ⟨ys, e1, e2⟩ := Option.map_eq_some_iff.mp h
    subst e2
    rw [kStrs_ok e1]; rfl
  | .inl _ :: ks, _, h => by cases h
/-- sorted(d, key=..), as a new live object -/
def eSortK (f : SE) : SE := fun r st => (f r st).bind fun x => (asD x.2 x.1).bind fun y => (kStrs y.1).bind fun ks => if ks.all (fun k => decide (k.length ≤ sizeLine)) = true then some (.ref x.2.length, x.2 ++ [some (.lst ((sortK ks).map .str))]) else none
theorem zip_keys : ∀ {ks : List Key} {vs : List V}, ks.length = vs.length → (ks.zip vs).map (·.1) = ks
  | [], _, _ => rfl
  | k :: ks, v :: vs, h => by
    rw [List.zip_cons_cons, List.map_cons, zip_keys (by simpa using h)]
  | _ :: _, [], h => by simp at h
theorem Wd.lam {Z : Addr → Prop} {L : List Addr} {st : Sto} {H H2 : Hp} (w : Wd T Z L st H) (ex : LamX.ExtN H H2) (trk : ∀ b, H b ≠ none → H2 b ≠ none) (hT : LamX.Tabs T H2) : Af T Z L st H L st H2 := by
  have stay : ∀ b u, H b = some u → (∀ ps, u ≠ .tbl ps) → H2 b = some u := ex
  refine ⟨⟨hT, w.len, w.inj, fun k a d h1 h2 => ?_, fun a z => trk a (w.zt a z)⟩, ⟨[], by simp⟩, fun b u e _ n => stay b u e n, fun a l => .inl l, trk, fun b us e => stay b _ e (fun ps z => by cases z), fun k a h e => absurd (List.getElem?_eq_some_iff.mp e).1 (by omega), fun a z => .inl z⟩
  obtain ⟨nz, o, e, q⟩ := w.own k a d h1 h2
  refine ⟨nz, o, stay a o e fun ps z => ?_, q.imp fun ds vs t => t.stay stay⟩
  rcases q.kind with ⟨xs, y⟩ | ⟨kvs, y⟩ <;> (rw [y] at z; cases z)
theorem sim_sortK {te : TE} {f : SE} (hf : SimE T te f) : SimE T (tSortK T te) (eSortK f) := by
  intro Z L st H s r d st' Q w e h q
  obtain ⟨⟨dx, st1⟩, h1, h⟩ := bind_some' h
  obtain ⟨⟨ks, ds⟩, h2, h⟩ := bind_some' h
  obtain ⟨xs, h3, h⟩ := bind_some' h
  split at h
  case isFalse => cases h
  case isTrue hz =>
  cases h
  refine hf Z L st H s r dx _ _ w e h1 fun x H1 L1 f1 p1 => ?_
  refine ⟨f1.wd.tabs, fun H2 ex trk hT => ?_⟩
  have f2 := f1.wd.lam ex trk hT
  obtain ⟨a, vs, rfl, ea, el, t⟩ := asD_ok f2.wd (p1.keep f2) h2
  refine ⟨a, _, xs, rfl, ea, ?_, fun k hk => ?_, fun p np => ?_⟩
  · exact (zip_keys el).trans (kStrs_ok h3)
  · rw [List.all_eq_true] at hz
    simpa using hz k hk
  · refine q _ _ (L1 ++ [p]) (f1.trans (f2.trans (.newR f2.wd np ⟨_, rfl, dens_strs _⟩))) ?_
    unfold Den
    exact ⟨p, by rw [← f2.wd.len]; simp, rfl⟩
/-- a new object, from now on a value -/
def eFrz (f : SE) : SE := fun r st => (f r st).bind fun x => match x.1 with
  | .ref k => (match x.2[k]? with
    | some (some d) => some (d, x.2.set k none)
    | _ => none)
  | _ => none
theorem sim_eFrz {te : TE} {f : SE} (hf : SimE T te f) : SimE T te (eFrz f) := by
  intro Z L st H s r d st' Q w e h q
  obtain ⟨⟨dx, st1⟩, h1, h⟩ := bind_some' h
  refine hf Z L st H s r dx _ _ w e h1 fun x H1 L1 f1 p1 => ?_
  cases dx with
  | ref k =>
    dsimp only at h
    split at h
    · rename_i d' hd
      cases h
      unfold Den at p1
      obtain ⟨a, ka, rfl⟩ := p1
      obtain ⟨ff, pp⟩ := f1.wd.frz ka hd
      exact q _ H1 L1 (f1.trans ff) pp
    · cases h
  | _ => cases h
end

/-! ### at one world -/
section
variable {T : List (Addr × Str)} {K : PySem.W.Frag} {Z : Addr → Prop} {L : List Addr} {st : Sto} {H : Hp} {s : L2.St} {r : Evr}
theorem at_op {ta tb : TE} {fa fb : SE} {o : R2} {g : Sto → Dt → Dt → Option (Dt × Sto)} (e : EnvOk L (Bad Z L st) H r s) (ha : EAt T Z L st H s r ta fa) (hb : SimE T tb fb) (ho : VO2 T o g) : EAt T Z L st H s r (tOp o ta tb) (eOp2 g fa fb) := by
  intro d st' Q h q
  obtain ⟨⟨dx, st1⟩, h1, h⟩ := bind_some' h
  obtain ⟨⟨dy, st2⟩, h2, h⟩ := bind_some' h
  refine ha dx st1 _ h1 fun x H1 L1 f1 p1 => ?_
  refine hb Z L1 st1 H1 s r dy st2 _ f1.wd (e.keep f1) h2 fun y H2 L2 f2 p2 => ?_
  exact ho Z L2 st2 H2 x y dx dy d st' Q f2.wd (p1.keep f2) p2 h fun v H3 L3 f3 p3 => q v H3 L3 (f1.trans (f2.trans f3)) p3
theorem at_iL {te : TE} {f : SE} (hf : EAt T Z L st H s r te f) : IAt T Z L st H s r (iList K te) (iE itL f) := by
  intro xs st' Q h q
  obtain ⟨⟨dx, st1⟩, h1, h2⟩ := bind_some' h
  obtain ⟨ys, h3, h4⟩ := Option.map_eq_some_iff.mp h2
  cases h4
  refine hf dx _ _ h1 fun x H1 L1 f1 p1 => ?_
  cases dx with
  | lst ds =>
    cases h3
    have p1' := p1
    unfold Den at p1'
    obtain ⟨a, vs, rfl, nb, ea, t⟩ := p1'
    refine ⟨a, rfl, ⟨vs, SqL.of ea⟩, q _ H1 L1 f1 fun Z2 L2 st2 H2 f2 => ?_⟩
    have ea2 : H2 a = some (.lst vs) := f2.kp a _ ea (fun z => nb (.inr z)) (fun ps z => by cases z)
    have t2 := t.keep f2
    refine ⟨⟨vs, SqL.of ea2, Nat.le_of_eq t.len.symm⟩, fun i d hd => ?_⟩
    obtain ⟨v, hv, pv⟩ := t2.get hd
    refine ⟨⟨vs, v, SqL.of ea2, hv⟩, fun x H3 y => ?_⟩
    obtain ⟨rfl, y⟩ := y
    have := y vs (SqL.of ea2)
    rw [hv] at this
    cases this
    exact ⟨.refl f2.wd, pv⟩
  | _ => cases h3
end
end HB

set_option Elab.async false
set_option linter.all false
set_option maxRecDepth 100000
set_option maxHeartbeats 1000000
/-! HB, part o: the end of a law. -/
namespace HB
open PySem PySem.Spec PyProof.Rows L2

section
variable {P : Program} {w : World} {K : PySem.W.Frag} {mg mb : Str → Option Value} {k : Nat} {fa a : Addr} {cs : List (Addr × Addr)} {fd : FuncData} {x : Str} {sp : Sp} {s₁ : Shared} {vs : List Value} {ns : List Int}
abbrev tabO : Obj := { cls := .none, data := .fields #[] }
abbrev scrO (vs : List Value) : Obj := { cls := .type "list", data := .seq vs.toArray }
open Classical in
/-- what is known of the heap at the law's entry: the tables, the script if it is not of the module -/
noncomputable def h0 (K : PySem.W.Frag) (cs : List (Addr × Addr)) (a : Addr) (vs : List Value) (ns : List Int) : Hp := fun b =>
  if (∃ p ∈ cs, p.2 = b) then some (.tbl #[]) else if b = a ∧ K.lookup a = none then some (.frz (scrO vs) (.lst (ns.map V.int))) else none
theorem h0_cases {b : Addr} {u : HO} (h : h0 K cs a vs ns b = some u) : (∃ p ∈ cs, p.2 = b ∧ u = .tbl #[]) ∨ (b = a ∧ K.lookup a = none ∧ u = .frz (scrO vs) (.lst (ns.map V.int))) := by
  unfold h0 at h
  split at h
  · rename_i q
    obtain ⟨p, hp, e⟩ := q
    cases h
    exact .inl ⟨p, hp, e, rfl⟩
  · split at h
    · rename_i q
      cases h
      exact .inr ⟨q.1, q.2, rfl⟩
    · cases h
theorem law_go (KX : K.In s₁.heap) (hns : s₁.heap.Ns mainGlobals mg) (hb : s₁.heap.Ns builtinsNs mb) (hbb : ∀ x : Str, x ≠ "__name__" → mb x = bootBuiltins x) (hlim : s₁.heap.NoLimit) (hg : s₁.gens = #[])
    (hT : ∀ p ∈ cs, s₁.heap.get? p.2 = some tabO) (nT : ∀ p ∈ cs, K.lookup p.2 = none) (C : ∀ p ∈ cs, PySem.W.CodeHd s₁.heap p.1 p.2)
    (hbm : ∃ (bm : Addr) (ob : Obj), mg "__builtins__" = some (.ref bm) ∧ bm ≠ builtinsNs ∧ s₁.heap.get? bm = some ob ∧ ob.cls = .type "module" ∧ ob.dict = some builtinsNs ∧ ob.data = .plain)
    (ha : s₁.heap.get? a = some (scrO vs)) (hi : IntsAre vs ns) (hl : ns.length ≤ sizeLine) (hr : Room k callerA)
    (F : ∀ base : Heap, K.In base → base.Ns mainGlobals mg → (∀ p ∈ cs, LamX.TabB base mg p.1 p.2) → GFn P w K mg base k fa fd [x] sp) (hbind : ∀ (s : Shared) (u : Value), BindsTo s fd ⟨[u], []⟩ [(x, u)])
    (hsp : ∀ H : Hp, (∀ p ∈ cs, H p.2 = some (.tbl #[])) → SqL K H a (ns.map V.int) → sp [.ref a] H (fun v _ => v = .bl true) E0) :
    codeAny (model P w) callerA (.call (.ref fa) ⟨[.ref a], []⟩) (fun r s' => r = .ok (.ret (.bool true)) ∧ OldK s₁.heap s'.heap ∧ s'.os = s₁.os ∧ AllBare s'.gens) s₁ := by
  have rv := vals_ints hi
  have lv := hi.length
  have hH : ∀ p ∈ cs, h0 K cs a vs ns p.2 = some (.tbl #[]) := fun p hp => if_pos ⟨p, hp, rfl⟩
  have na : ¬ ∃ p ∈ cs, p.2 = a := fun ⟨p, hp, e⟩ => by
    have q := hT p hp
    rw [e, ha] at q
    have := congrArg Obj.data (Option.some.inj q)
    cases this
  have hS : SqL K (h0 K cs a vs ns) a (ns.map V.int) := by
    cases hk : K.lookup a with
    | some o =>
      have e := KX a o hk
      rw [ha] at e
      cases e
      exact .inr ⟨_, vs.toArray, _, hk, rfl, rfl, rfl, by rw [List.size_toArray, lv]; exact hl, by simpa using rv⟩
    | none => exact .inl (.inr ⟨scrO vs, by unfold h0; rw [if_neg na, if_pos ⟨rfl, hk⟩]⟩)
  have hok : HOk P w (h0 K cs a vs ns) s₁.heap := fun b u e => by
    rcases h0_cases e with ⟨p, hp, rfl, rfl⟩ | ⟨rfl, _, rfl⟩
    · exact hT p hp
    · exact ⟨ha, by rw [List.length_map]; exact hl, vs, _, rv, ha⟩
  -- what is neither a table nor the script is not hidden
  have free : ∀ {b : Addr} {o : Obj}, s₁.heap.get? b = some o → (∀ us n, o.data ≠ .seq us n) → o.data ≠ .fields #[] → h0 K cs a vs ns b = none := fun {b o} e h1 h2 => by
    cases q : h0 K cs a vs ns b with
    | none => rfl
    | some u =>
      rcases h0_cases q with ⟨p, hp, rfl, _⟩ | ⟨rfl, _, _⟩
      · rw [hT p hp] at e; cases e; exact (h2 rfl).elim
      · rw [ha] at e; cases e; exact (h1 _ _ rfl).elim
  have stays : ∀ {b : Addr} {o : Obj}, s₁.heap.get? b = some o → (∀ us n, o.data ≠ .seq us n) → o.data ≠ .fields #[] → (hidT s₁.heap (h0 K cs a vs ns)).get? b = some o := fun e h1 h2 => hidT_get e (free e h1 h2)
  have nsK : ∀ {b : Addr} {m : Str → Option Value}, s₁.heap.Ns b m → (hidT s₁.heap (h0 K cs a vs ns)).Ns b m := fun {b m} ⟨o, es, ep, e, d, r⟩ =>
    ⟨o, es, ep, stays e (fun us n z => by rw [d] at z; cases z) (fun z => by rw [d] at z; cases z), d, r⟩
  have hKb : K.In (hidT s₁.heap (h0 K cs a vs ns)) := fun b o e => hidT_get (KX b o e) (by
    cases q : h0 K cs a vs ns b with
    | none => rfl
    | some u =>
      rcases h0_cases q with ⟨p, hp, rfl, _⟩ | ⟨rfl, hk, _⟩
      · rw [nT p hp] at e; cases e
      · rw [hk] at e; cases e)
  have hM : L2.Mod K mg (hidT s₁.heap (h0 K cs a vs ns)) := ⟨hKb, nsK hns, ⟨mb, nsK hb, hbb⟩, let ⟨mc, h1, h2⟩ := hlim; ⟨mc, nsK h1, h2⟩⟩
  have TB : ∀ p ∈ cs, LamX.TabB (hidT s₁.heap (h0 K cs a vs ns)) mg p.1 p.2 := fun p hp => by
    refine ⟨?_, ?_, fun z => ?_⟩
    · obtain ⟨o, us, file, tf, flags, tg, inF, text, tt, e1, r1, r2, r3, r⟩ := C p hp
      refine ⟨o, us, file, tf, flags, tg, inF, text, tt, stays e1 (fun us n z => by rw [r2] at z; cases z) (fun z => ?_), r1, r2, r3, r⟩
      rw [r2] at z
      cases z
      simp at r3
    · obtain ⟨bm, ob, b1, b2, b3, b4, b5, b6⟩ := hbm
      refine ⟨bm, ob, b1, b2, fun q => ?_, fun q => ?_, stays b3 (fun us n z => by rw [b6] at z; cases z) (fun z => by rw [b6] at z; cases z), b4, b5, b6⟩
      · obtain ⟨o, es, ep, e, hd, _⟩ := hns
        rw [q, e] at b3
        cases b3
        rw [hd] at b6
        cases b6
      · rw [q, hT p hp] at b3
        cases b3
        cases b6
    · obtain ⟨o, es, ep, e, hd, _⟩ := hns
      rw [z, hT p hp] at e
      cases e
      cases hd
  have e0 : Env0 P w K mg (hidT s₁.heap (h0 K cs a vs ns)) callerA [] s₁ (h0 K cs a vs ns) :=
    ⟨rfl, hM, fun b o e => of_hidT e, Nat.le_of_eq (hidT_size _ _), trivial, fun b hb => absurd (show b ∈ ([] : List Addr) from hb) (by simp), hok, .of_eq hg⟩
  refine codeAny_mono ((F _ hKb (nsK hns) TB).run callerA [] s₁ (h0 K cs a vs ns) ⟨[.ref a], []⟩ [.ref a] [.ref a] _ hr rfl e0 (hbind s₁ (.ref a)) rfl (.cons rfl .nil) (hsp _ hH hS)) fun r s' h => ?_
  match r, h with
  | .error _, h => exact h.elim
  | .ok .next, h => exact h.elim
  | .ok .brk, h => exact h.elim
  | .ok .cont, h => exact h.elim
  | .ok (.ret u), h =>
    obtain ⟨v, H', os, bare, un, hok', r', q⟩ := h
    obtain rfl : v = .bl true := q
    obtain rfl : u = Value.bool true := r'
    have tabs : ∀ p ∈ cs, ∃ more : Array Value, s'.heap.get? p.2 = some { cls := .none, data := .fields more } := fun p hp => by
      obtain ⟨more, z⟩ := un.tbls p.2 #[] (hH p hp)
      exact ⟨_, hok' p.2 _ z⟩
    have rest : ∀ b o, (¬ ∃ p ∈ cs, p.2 = b) → s₁.heap.get? b = some o → s'.heap.get? b = some o := fun b o nb e => by
      cases q : h0 K cs a vs ns b with
      | none => exact un.keep b o e q (fun z => absurd (show b ∈ ([] : List Addr) from z) (by simp)) (by simp)
      | some u =>
        rcases h0_cases q with ⟨p, hp, e', _⟩ | ⟨e', _, e2⟩
        · exact absurd ⟨p, hp, e'⟩ nb
        · rw [e2] at q
          obtain ⟨e3, _⟩ := hok' b _ (un.frzs b _ _ q)
          rw [e', ha] at e
          cases e
          exact e3
    refine ⟨rfl, ⟨fun b o e => ?_, fun b o e => ?_⟩, os, bare⟩
    · by_cases nb : ∃ p ∈ cs, p.2 = b
      · obtain ⟨p, hp, rfl⟩ := nb
        obtain ⟨more, hm⟩ := tabs p hp
        rw [hT p hp] at e
        cases e
        exact .inr (.inl ⟨((C p hp).tab (hT p hp)).isCodeTable, rfl, #[], more, rfl, by rw [Array.empty_append]; exact hm⟩)
      · exact .inl (rest b o nb e)
    · by_cases nb : ∃ p ∈ cs, p.2 = b
      · obtain ⟨p, hp, rfl⟩ := nb
        obtain ⟨more, hm⟩ := tabs p hp
        exact ⟨_, hm⟩
      · exact ⟨o, rest b o nb e⟩
end
/-- what is known of the law at the head's heap h: cs, the code objects that make lambdas and their tables -/
def LawAt (l : PySem.W.OpenLaw) (w : World) (K : PySem.W.Frag) (k n : Nat) (x : Str) (mg : Str → Option Value) (fa : Addr) (h : Heap) : Prop :=
  ∃ (fd : FuncData) (cs : List (Addr × Addr)) (sp : Sp), (∀ p ∈ cs, h.get? p.2 = some tabO) ∧ (∀ p ∈ cs, K.lookup p.2 = none) ∧ (∀ p ∈ cs, PySem.W.CodeHd h p.1 p.2) ∧ (∀ (s : Shared) (u : Value), BindsTo s fd ⟨[u], []⟩ [(x, u)]) ∧
    (∀ (H : Hp) (a : Addr) (ns : List Int), ns.length ≤ n → (∀ z ∈ ns, Builtin.Int.intBits z ≤ 1048576) → (∀ p ∈ cs, H p.2 = some (.tbl #[])) → SqL K H a (ns.map V.int) → sp [.ref a] H (fun v _ => v = .bl true) E0) ∧
    ∀ base : Heap, K.In base → base.Ns mainGlobals mg → (∀ p ∈ cs, LamX.TabB base mg p.1 p.2) → GFn l.prog w K mg base k fa fd [x] sp
theorem walk_go {l : PySem.W.OpenLaw} {n k : Nat} {q : Program} {loose : List Str} {XP : (Str → Option Value) → Heap → Prop} {YP : World → Heap → Prop} {d : DefRec} {K : Params → PySem.W.Frag} {x : Str}
    (hn : l.most = some n) (hn2 : n ≤ sizeLine) (hdf : d.params.defaults = []) (hr : Room k callerA) (hY : ∀ (w : World) (h : Heap), YP w h → (K w.params).In h)
    (F : ∀ (w : World) (mg : Str → Option Value) (fa : Addr) (h : Heap), YP w h → (K w.params).In h → h.Ns mainGlobals mg → mg d.name = some (.ref fa) → LawAt l w (K w.params) k n x mg fa h) :
    PySem.W.WalkO q loose XP YP l.row.toRowW d [] (fun f vs => PySem.call f vs) := by
  refine Att.attach_callB hn hdf fun w s₀ s₁ mg mb fa o pm cd doc a vs ns G Y ho hd hcd hmg hobj hints hlen hbits hg => ?_
  have KX := hY w _ Y
  obtain ⟨fd, cs, sp, hT, nT, C, hb, hsp, hF⟩ := F w mg fa _ Y KX G.T.g hmg
  exact law_go KX G.T.g G.T.b G.T.builtins G.T.nolimit hg hT nT C G.T.bmain hobj hints (Nat.le_trans hlen hn2) hr hF hb fun H hH hS => hsp H a ns hlen hbits hH hS
end HB

set_option Elab.async false
set_option linter.all false
set_option maxRecDepth 100000
set_option maxHeartbeats 1000000
/-! HB, part p: one judgement for the derivation and the plain function. -/
namespace HB
open PySem PySem.Spec PyProof.Rows L2

section
variable (T : List (Addr × Str))
/-- the readings that a plain function gives -/
def rE (f : SE) : TE := fun s H Q => ∃ Z L st r d st', Wd T Z L st H ∧ EnvOk L (Bad Z L st) H r s ∧ f r st = some (d, st') ∧ ∀ v H' L', Af T Z L st H L' st' H' → Den L' (Bad Z L' st') H' d v → Q v H'
def rT (f : ST) : TT := fun s H Q => ∃ Z L st r b st', Wd T Z L st H ∧ EnvOk L (Bad Z L st) H r s ∧ f r st = some (b, st') ∧ ∀ H' L', Af T Z L st H L' st' H' → Q b H'
def rA (f : SA) : TA := fun s H Q => ∃ Z L st r d st', Wd T Z L st H ∧ EnvOk L (Bad Z L st) H r s ∧ f r st = some (d, st') ∧ ∀ v H' L', Af T Z L st H L' st' H' → Dens L' (Bad Z L' st') H' d v → Q v H'
def rS (g : SS) : TS := fun D s H => ∃ Z L st r o, Wd T Z L st H ∧ EnvOk L (Bad Z L st) H r s ∧ g r st = some o ∧ OuOk T Z L st H D o
def rI (f : SA) : TI := fun s H Q => ∃ Z L st r d st', Wd T Z L st H ∧ EnvOk L (Bad Z L st) H r s ∧ f r st = some (d, st') ∧ ∀ J H' L', Af T Z L st H L' st' H' → WalkD T Z L' st' H' J d → Q J H'
def rO (f : SO) : TO := fun s H Q => ∃ Z L st r d st', Wd T Z L st H ∧ EnvOk L (Bad Z L st) H r s ∧ f r st = some (d, st') ∧ ∀ H' L', Af T Z L st H L' st' H' → Q d H'
end
section
variable {T : List (Addr × Str)}
theorem sE {f : SE} : SimE T (rE T f) f := fun Z L st H s r d st' Q w e h q => ⟨Z, L, st, r, d, st', w, e, h, q⟩
theorem sT {f : ST} : SimT T (rT T f) f := fun Z L st H s r d st' Q w e h q => ⟨Z, L, st, r, d, st', w, e, h, q⟩
theorem sA {f : SA} : SimA T (rA T f) f := fun Z L st H s r d st' Q w e h q => ⟨Z, L, st, r, d, st', w, e, h, q⟩
theorem sS {g : SS} : SimS T (rS T g) g := fun Z L st H s r o D w e h q => ⟨Z, L, st, r, o, w, e, h, q⟩
theorem sI {f : SA} : SimI T (rI T f) f := fun Z L st H s r d st' Q w e h q => ⟨Z, L, st, r, d, st', w, e, h, q⟩
theorem sO {f : SO} : SimO T (rO T f) f := fun Z L st H s r d st' Q w e h q => ⟨Z, L, st, r, d, st', w, e, h, q⟩
variable {X : Cx}
theorem toE {e : Expr} {t : TE} {f : SE} (h : PE X e t) (k : SimE T t f) : PE X e (rE T f) := ⟨fun pins s s1 H Q I ⟨Z, L, st, r, d, st', w, ev, hf, q⟩ => h.run pins s s1 H Q I (k Z L st H s1 r d st' Q w ev hf q)⟩
theorem toTT {e : Expr} {t : TT} {f : ST} (h : PT X e t) (k : SimT T t f) : PT X e (rT T f) := ⟨fun pins s s1 H Q I ⟨Z, L, st, r, d, st', w, ev, hf, q⟩ => h.run pins s s1 H Q I (k Z L st H s1 r d st' Q w ev hf q)⟩
theorem toW {e : Expr} {t : TT} {f : ST} (h : PW X e t) (k : SimT T t f) : PW X e (rT T f) := ⟨fun wh pins s s1 H Q I ⟨Z, L, st, r, d, st', w, ev, hf, q⟩ => h.run wh pins s s1 H Q I (k Z L st H s1 r d st' Q w ev hf q)⟩
theorem toTs {e : List Expr} {t : TT} {f : ST} (h : PTs X e t) (k : SimT T t f) : PTs X e (rT T f) := ⟨fun pins s s1 H Q I ⟨Z, L, st, r, d, st', w, ev, hf, q⟩ => h.run pins s s1 H Q I (k Z L st H s1 r d st' Q w ev hf q)⟩
theorem toA {e : List Expr} {t : TA} {f : SA} (h : PA X e t) (k : SimA T t f) : PA X e (rA T f) := ⟨fun pos pins s s1 H Q I ⟨Z, L, st, r, d, st', w, ev, hf, q⟩ => h.run pos pins s s1 H Q I (k Z L st H s1 r d st' Q w ev hf q)⟩
theorem toK {e : List Keyword} {t : TA} {f : SA} (h : PK X e t) (k : SimA T t f) : PK X e (rA T f) := ⟨fun pos pins s s1 H Q I ⟨Z, L, st, r, d, st', w, ev, hf, q⟩ => h.run pos pins s s1 H Q I (k Z L st H s1 r d st' Q w ev hf q)⟩
theorem toS {e : Stmt} {t : TS} {f : SS} (h : PS X e t) (k : SimS T t f) : PS X e (rS T f) := ⟨fun pins s s1 H D I ⟨Z, L, st, r, o, w, ev, hf, q⟩ => h.run pins s s1 H D I (k Z L st H s1 r o D w ev hf q)⟩
theorem toSs {e : List Stmt} {t : TS} {f : SS} (h : PSs X e t) (k : SimS T t f) : PSs X e (rS T f) := ⟨fun pins s s1 H D I ⟨Z, L, st, r, o, w, ev, hf, q⟩ => h.run pins s s1 H D I (k Z L st H s1 r o D w ev hf q)⟩
theorem toI {tg e : Expr} {t : TI} {f : SA} (h : PI X tg e t) (k : SimI T t f) : PI X tg e (rI T f) := ⟨fun pins s s1 H Q I ⟨Z, L, st, r, d, st', w, ev, hf, q⟩ => h.run pins s s1 H Q I (k Z L st H s1 r d st' Q w ev hf q)⟩
theorem toO {e : Option Expr} {t : TO} {f : SO} (h : PO X e t) (k : SimO T t f) : PO X e (rO T f) := ⟨fun pins s s1 H Q I ⟨Z, L, st, r, d, st', w, ev, hf, q⟩ => h.run pins s s1 H Q I (k Z L st H s1 r d st' Q w ev hf q)⟩
end
/-! ### the rules -/
section
variable {T : List (Addr × Str)} {X : Cx} {a b c e o : Expr} {es rest : List Expr} {fa fb fc : SE} {ga gb : ST} {fs : SA} {pos : Pos}
theorem jv (i : Nat) {x : Str} (hN : X.N[i]? = some x := by rfl) (hv : Vis X.env.scope x := by first | exact Or.inl rfl | exact Or.inr (Or.inl rfl) | exact Or.inr (Or.inr rfl)) (hd : (x == ("__debug__" : Str)) = false := by decide)
    (hcd : (x == ("__classdict__" : Str)) = false := by decide) : PE X (.Name x pos) (rE T (eVar i)) := toE (pe_var hN hv hd hcd) sim_var
theorem jInt {i : Int} {j : Nat} : PE X (.Constant (.int i) j pos) (rE T (eC (.int i))) := toE pe_int sim_int
theorem jStr {x : Str} {j : Nat} : PE X (.Constant (.str x) j pos) (rE T (eC (.str x))) := toE pe_str sim_str
theorem jBl {x : Bool} {j : Nat} : PE X (.Constant (.bool x) j pos) (rE T (eC (.bl x))) := toE pe_bl sim_bl
theorem jNon {j : Nat} : PE X (.Constant .none j pos) (rE T (eC .non)) := toE pe_non sim_non
theorem jGI {x : Str} {i : Int} {t : Tok} (hg : Gl X x) (hm : X.mg x = some (.int i t)) (hd : (x == ("__debug__" : Str)) = false := by decide) : PE X (.Name x pos) (rE T (eC (.int i))) := toE (pe_glob (v := .int i) hg hm ⟨t, rfl⟩ hd) sim_int
theorem jOp {op : Operator} {r : R2} {g : Sto → Dt → Dt → Option (Dt × Sto)} (ho : OpR X (binaryOp op) r) (hv : VO2 T r g) (ha : PE X a (rE T fa)) (hb : PE X b (rE T fb)) : PE X (.BinOp a op b pos) (rE T (eOp2 g fa fb)) := toE (pe_op ho ha hb) (sim_op sE sE hv)
theorem jCmp {op : CmpOp} {r : R2} {g : Sto → Dt → Dt → Option (Dt × Sto)} (ho : OpR X (compareOp op) r) (hv : VO2 T r g) (ha : PE X a (rE T fa)) (hb : PE X b (rE T fb)) (hm : behindInMarks op b = false := by first | rfl | exact nomark _) : PE X (.Compare a [op] [b] pos) (rE T (eOp2 g fa fb)) := toE (pe_cmpR ho ha hb hm) (sim_op sE sE hv)
theorem jtCmp {op : CmpOp} {r : R2} {g : Sto → Dt → Dt → Option (Dt × Sto)} (ho : OpR X (compareOp op) r) (hv : VO2 T r g) (ha : PE X a (rE T fa)) (hb : PE X b (rE T fb)) (hm : behindInMarks op b = false := by first | rfl | exact nomark _) : PT X (.Compare a [op] [b] pos) (rT T (cB (eOp2 g fa fb))) := toTT (pt_cmpR ho ha hb hm) (sim_cBT (sim_op sE sE hv))
theorem jtVal (h : PE X e (rE T fa)) (he : ∀ whole, isTrue e X.env whole = (do let v ← whole; standAt e.pos; holding [v] (truthy v)) := by intro _; rfl) : PT X e (rT T (cB fa)) := toTT (pt_val h he) (sim_cB sE)
theorem jtNot (h : PT X a (rT T ga)) : PT X (.UnaryOp .Not a pos) (rT T (cNot ga)) := toTT (pt_not h) (sim_not sT)
theorem jwAnd1 (h : PT X a (rT T ga)) : PW X (.BoolOp .And [a] pos) (rT T ga) := pw_and1 h
theorem jwOr1 (h : PT X a (rT T ga)) : PW X (.BoolOp .Or [a] pos) (rT T ga) := pw_or1 h
theorem jwAnd (ha : PT X a (rT T ga)) (hb : PW X (.BoolOp .And (b :: rest) pos) (rT T gb)) : PW X (.BoolOp .And (a :: b :: rest) pos) (rT T (cAnd ga gb)) := toW (pw_and ha hb) (sim_and sT sT)
theorem jwOr (ha : PT X a (rT T ga)) (hb : PW X (.BoolOp .Or (b :: rest) pos) (rT T gb)) : PW X (.BoolOp .Or (a :: b :: rest) pos) (rT T (cOr ga gb)) := toW (pw_or ha hb) (sim_or sT sT)
theorem jOne {op : BoolOp} (h : PE X a (rE T fa)) : PE X (.BoolOp op [a] pos) (rE T fa) := pe_one h
theorem jAnd (ha : PE X a (rE T fa)) (hb : PE X (.BoolOp .And (b :: rest) pos) (rE T fb)) : PE X (.BoolOp .And (a :: b :: rest) pos) (rE T (eAndV fa fb)) := toE (pe_and ha hb) (sim_andV sE sE)
theorem jOr (ha : PE X a (rE T fa)) (hb : PE X (.BoolOp .Or (b :: rest) pos) (rE T fb)) : PE X (.BoolOp .Or (a :: b :: rest) pos) (rE T (eOrV fa fb)) := toE (pe_or ha hb) (sim_orV sE sE)
theorem jNot (ha : PE X a (rE T fa)) : PE X (.UnaryOp .Not a pos) (rE T (eNotV fa)) := toE (pe_not ha) (sim_notV sE)
theorem jIf (hc : PT X c (rT T ga)) (ha : PE X a (rE T fa)) (hb : PE X b (rE T fb)) : PE X (.IfExp c a b pos) (rE T (eIf ga fa fb)) := toE (pe_ifExp hc ha hb) (sim_if sT sE sE)
theorem jNil : PA X [] (rA T aNil) := toA pa_nil sim_nil
theorem jCons (ha : PE X e (rE T fa)) (hr : PA X es (rA T fs)) (hs : starEach (e :: es) X.env = (false, eval e X.env) :: starEach es X.env := by rfl) : PA X (e :: es) (rA T (aCons fa fs)) := toA (pa_cons ha hr hs) (sim_cons sE sA)
theorem jB {x : Str} {id : String} {r : List V → Hp → VK → Prop} {g : Sto → List Dt → Option (Dt × Sto)} {p : Pos} (hc : CallR X (.builtin id) r) (hv : VON T r g) (hg : Gl X x) (hm : X.mg x = none) (hb : bootBuiltins x = some (.builtin id)) (ha : PA X (e :: es) (rA T fs)) (hn : x ≠ "__name__" := by decide) (hdb : (x == ("__debug__" : Str)) = false := by decide)
    (he : starEach (e :: es) X.env = (false, eval e X.env) :: starEach es X.env := by rfl) (hpl : (backTo pos (starEach es X.env)).any (·.1) = false := by rfl) : PE X (.Call (.Name x p) (e :: es) [] pos) (rE T (eN g fs)) := toE (pe_callB hc hg hm hb ha hn hdb he hpl) (sim_N sA hv)
theorem jTy {x : Str} {id : String} {r : List V → Hp → VK → Prop} {g : Sto → List Dt → Option (Dt × Sto)} {p : Pos} (hc : CallR X (.type id) r) (hv : VON T r g) (hg : Gl X x) (hm : X.mg x = none) (hb : bootBuiltins x = some (.type id)) (ha : PA X (e :: es) (rA T fs)) (hn : x ≠ "__name__" := by decide) (hdb : (x == ("__debug__" : Str)) = false := by decide)
    (he : starEach (e :: es) X.env = (false, eval e X.env) :: starEach es X.env := by rfl) (hpl : (backTo pos (starEach es X.env)).any (·.1) = false := by rfl) : PE X (.Call (.Name x p) (e :: es) [] pos) (rE T (eN g fs)) := toE (pe_callTy hc hg hm hb ha hn hdb he hpl) (sim_N sA hv)
/-- isinstance(e, c) -/
theorem jIsi {y : Str} {c : String} {p p2 : Pos} (hg : Gl X "isinstance") (hm : X.mg "isinstance" = none) (hgc : Gl X y) (hmc : X.mg y = none) (hbc : bootBuiltins y = some (.type c)) (ha : PE X e (rE T fa)) (hn : y ≠ "__name__" := by decide) (hdb : (y == ("__debug__" : Str)) = false := by decide)
    (he : starEach [e, .Name y p2] X.env = (false, eval e X.env) :: starEach [.Name y p2] X.env := by rfl) : PE X (.Call (.Name "isinstance" p) [e, .Name y p2] [] pos) (rE T (eN (gIs c) (aCons fa aNil))) :=
  toE (pe_callB call_isi hg hm boot_isinstance (pa_cons ha (pa_cons (pe_bltn (v := .ty c) hgc hmc hbc rfl hn hdb) pa_nil rfl) he) (by decide) (by decide) he rfl) (sim_isi sE)
/-- f(e, ..) -/
theorem jCall {k : Nat} {x : Str} {ps : List Str} {F : List Dt → Sto → Option (Dt × Sto)} {p : Pos} (c : GCal X.prog X.w X.K X.mg X.base k x ps (SpF T ps.length F)) (hr : Room k X.A) (hg : X.A.guards = some []) (gl : Gl X x) (ha : PA X (e :: es) (rA T fs)) (hdb : (x == ("__debug__" : Str)) = false := by decide)
    (he : starEach (e :: es) X.env = (false, eval e X.env) :: starEach es X.env := by rfl) (hpl : (backTo pos (starEach es X.env)).any (·.1) = false := by rfl) : PE X (.Call (.Name x p) (e :: es) [] pos) (rE T (eN (gF ps.length F) fs)) := toE (pe_g c hr hg gl ha hdb he hpl) (sim_g sA)
theorem jkNil : PK X [] (rA T aNil) := toK pk_nil sim_nil
theorem jkCons {kws : List Keyword} {nm : Option Str} {kpos : Pos} (ha : PE X e (rE T fa)) (hr : PK X kws (rA T fs)) : PK X (⟨nm, e, kpos⟩ :: kws) (rA T (aCons fa fs)) := toK (pk_cons ha hr) (sim_cons sE sA)
theorem jCallK {k : Nat} {x : Str} {ps : List Str} {F : List Dt → Sto → Option (Dt × Sto)} {p : Pos} {kws : List Keyword} {q : List Nat} (c : GCal X.prog X.w X.K X.mg X.base k x ps (SpF T ps.length F)) (hr : Room k X.A) (hg : X.A.guards = some []) (gl : Gl X x) (hk : PK X kws (rA T fs)) (hq : q.Perm (List.range ps.length)) (hdb : (x == ("__debug__" : Str)) = false := by decide)
    (hall : (backToKw pos (keywordEach kws X.env)).all (·.1.isSome) = true := by rfl) (hks : (backToKw pos (keywordEach kws X.env)).filterMap (·.1) = q.map fun i => ps.getD i "" := by rfl)
    (hpl : ((backTo pos (starEach [] X.env)).any (·.1) || (backToKw pos (keywordEach kws X.env)).any (·.1.isNone)) = false := by rfl) : PE X (.Call (.Name x p) [] kws pos) (rE T (eN (gFk ps.length q F) fs)) := toE (pe_gk c hr hg gl hk hq hdb hall hks hpl) (sim_gk sA hq)
theorem jIx (hu : X.A.units + 64 < cLine) (ha : PE X a (rE T fa)) (hb : PE X b (rE T fb)) (hs : PlainIx b := by intro _ _; rfl) : PE X (.Subscript a b pos) (rE T (eOp2 gIx fa fb)) := toE (pe_ix (ix_A hu) ha hb hs) (sim_op sE sE vo_Ix)
theorem joNone : PO X none (rO T oNo) := toO po_none sim_oNo
theorem joSome (h : PE X e (rE T fa)) : PO X (some e) (rO T (oE fa)) := toO (po_some h) (sim_oE sE)
theorem jSl {lo hi : Option Expr} {fl fh : SO} {p2 : Pos} (he : PE X e (rE T fa)) (hl : PO X lo (rO T fl)) (hh : PO X hi (rO T fh)) : PE X (.Subscript e (.Slice lo hi none p2) pos) (rE T (eSl fa fl fh)) := toE (pe_slice sl_any he hl hh) (sim_sl sE sO sO)
theorem jLstV (h : PA X es (rA T fs)) : PE X (.List es pos) (rE T (toV (small fs))) := toE (pe_lst h) (sim_lstV sA)
theorem jLstR (h : PA X es (rA T fs)) : PE X (.List es pos) (rE T (toR (small fs))) := toE (pe_lst h) (sim_lstR sA)
theorem jTup {x1 : Nat} (h : PA X es (rA T fs)) : PE X (.Tuple es x1 pos) (rE T (toT fs)) := toE (pe_tup h) (sim_tup sA)
theorem jDR : PE X (.Dict [] [] pos) (rE T eDR) := toE pe_dnewK sim_dnewR
theorem jFrz (h : PE X e (rE T fa)) : PE X e (rE T (eFrz fa)) := toE h (sim_eFrz sE)
theorem jSS {p p2 q : Pos} (hc : X.calm = true) (hu : X.A.units + 64 < cLine) (hg : Gl X "sorted") (hm : X.mg "sorted" = none) (hg2 : Gl X "set") (hm2 : X.mg "set" = none) (ha : PE X a (rE T fa)) (he : starEach [a] X.env = (false, eval a X.env) :: starEach [] X.env := by rfl)
    (he2 : starEach [.Call (.Name "set" p2) [a] [] q] X.env = (false, eval (.Call (.Name "set" p2) [a] [] q) X.env) :: starEach [] X.env := by rfl) : PE X (.Call (.Name "sorted" p) [.Call (.Name "set" p2) [a] [] q] [] pos) (rE T (eN gSS (aCons fa aNil))) :=
  toE (pe_callB (cr_sortSS hc hu) hg hm boot_sorted (pa_cons (pe_callTy (cr_setS hc) hg2 hm2 boot_set (pa_cons ha pa_nil he) (by decide) (by decide) he rfl) pa_nil he2) (by decide) (by decide) he2 rfl) (sim_ss sE)
theorem jSortK {k : Nat} {c R : Addr} {p0 p1 p2 p3 p4 p5 p6 p7 p8 p9 : Pos} (TB : LamX.TabB X.base X.mg c R) (hcode : X.env.code = .ref c) (hmT : (R, X.env.qual ++ "<lambda>") ∈ T) (huT : ∀ p ∈ T, p.1 = R → p.2 = X.env.qual ++ "<lambda>")
    (hr : Room (k + 2) X.A) (hg : Gl X "sorted") (hm : X.mg "sorted" = none) (hml : X.mg "len" = none) (ha : PE X a (rE T fa)) (hs : starEach [a] X.env = (false, eval a X.env) :: starEach [] X.env := by rfl) :
    PE X (.Call (.Name "sorted" p6) [a] [{ arg := some "key", value := .Lambda (lamP p0) (lamB p1 p2 p3 p4 p5) lamSc p7, pos := p8 }] p9) (rE T (eSortK fa)) := toE (pe_sortK TB hcode hmT huT hr hg hm hml ha hs) (sim_sortK sE)
theorem jJoin {apos : Pos} (ho : PE X o (rE T fa)) (he : PE X e (rE T fb)) (hs : starEach [e] X.env = [(false, eval e X.env)] := by rfl) (hbase : attributeBase o "join" X.env (eval o X.env) = eval o X.env := by rfl) (hline : (apos.endLine == pos.line) = true := by rfl) :
    PE X (.Call (.Attribute o "join" apos) [e] [] pos) (rE T (eM1 gJoin fa fb)) := toE (pe_join ho he hs hbase hline) (sim_join sE sE)
theorem jApp {apos : Pos} (ho : PE X o (rE T fa)) (ha : PA X [e] (rA T fs))
    (hbase : attributeBase o "append" X.env (eval o X.env) = eval o X.env := by rfl)
    (hfew : ((backTo pos (starEach [e] X.env)).all (fun x => !x.1) && (backToKw pos (keywordEach [] X.env)).all (fun x => x.1.isSome) && decide ([e].length + ([] : List Keyword).length + (if ([] : List Keyword).isEmpty then 0 else 1) < 30)) = true := by rfl)
    (hline : (apos.endLine == pos.line) = true := by rfl) (hs : starEach [e] X.env = (false, eval e X.env) :: starEach [] X.env := by rfl) :
    PE X (.Call (.Attribute o "append" apos) [e] [] pos) (rE T (eM isL gApp fa fs)) := toE (pe_bm PySem.F.plainAttrs_list PySem.F.slot_list_append PySem.F.type_list_append mt_append ho ha hbase hfew hline hs rfl) (sim_bmL sE sA vo_append)
theorem jEnds {apos : Pos} (ho : PE X o (rE T fa)) (ha : PA X [e] (rA T fs))
    (hbase : attributeBase o "endswith" X.env (eval o X.env) = eval o X.env := by rfl)
    (hfew : ((backTo pos (starEach [e] X.env)).all (fun x => !x.1) && (backToKw pos (keywordEach [] X.env)).all (fun x => x.1.isSome) && decide ([e].length + ([] : List Keyword).length + (if ([] : List Keyword).isEmpty then 0 else 1) < 30)) = true := by rfl)
    (hline : (apos.endLine == pos.line) = true := by rfl) (hs : starEach [e] X.env = (false, eval e X.env) :: starEach [] X.env := by rfl) :
    PE X (.Call (.Attribute o "endswith" apos) [e] [] pos) (rE T (eM isS gEnds fa fs)) := toE (pe_bm PySem.F.plainAttrs_str PySem.F.slot_str_endswith PySem.F.type_str_endswith mt_endswith ho ha hbase hfew hline hs rfl) (sim_bmS sE sA vo_ends)
/-! what is walked -/
theorem jiL {tg : Expr} (h : PE X e (rE T fa)) : PI X tg e (rI T (iE itL fa)) := toI (pi_list h) (sim_iL sE)
theorem jiS {tg : Expr} (h : PE X e (rE T fa)) : PI X tg e (rI T (iE itS fa)) := toI (pi_str h) (sim_iS sE)
theorem jiR1 {tg : Expr} {p : Pos} (hg : Gl X "range") (hm : X.mg "range" = none) (ha : PA X [a] (rA T fs)) (hs : starEach [a] X.env = [(false, eval a X.env)] := by rfl) : PI X tg (.Call (.Name "range" p) [a] [] pos) (rI T (iR rg1 fs)) := toI (pi_range1 hg hm ha hs) (sim_rg1 sA)
theorem jiR2 {tg : Expr} {p : Pos} (hg : Gl X "range") (hm : X.mg "range" = none) (ha : PA X [a, b] (rA T fs)) (hs : starEach [a, b] X.env = [(false, eval a X.env), (false, eval b X.env)] := by rfl) (hs2 : starEach [b] X.env = [(false, eval b X.env)] := by rfl) :
    PI X tg (.Call (.Name "range" p) [a, b] [] pos) (rI T (iR rg2 fs)) := toI (pi_range2 hg hm ha hs hs2) (sim_rg2 sA)
theorem jiEn {p tpos : Pos} {elts : List Expr} {kk : Nat} (hg : Gl X "enumerate") (hm : X.mg "enumerate" = none) (ha : PA X [e] (rA T fs)) (hs : starEach [e] X.env = [(false, eval e X.env)] := by rfl) :
    PI X (.Tuple elts kk tpos) (.Call (.Name "enumerate" p) [e] [] pos) (rI T (iR en fs)) := toI (pi_enum hg hm ha hs) (sim_enum sA)
/-! comprehensions -/
abbrev blkX (X : Cx) (scope : Scope) (s : Shared) (H : Hp) (C : Addr) (cl : List (Str × Addr)) (fp : List Addr) : Cx := X.blk s H scope (compEnvC scope cl C X.env) fp
theorem jLcV {elt tg iter : Expr} {ifs : List Expr} {scope : Scope} {own : List (Str × Nat)} {g : TG} {k : SG} {fi : SA} {is : List Nat} (hc : X.calm = true) (hN : X.N.Nodup) (hk : SimG T is g k) (hi : PI X tg iter (rI T fi)) (ok : BlkOk X.N X.env.scope scope own)
    (hg : ∀ s H C cl fp, PG (blkX X scope s H C cl fp) tg g) (ht : ∀ s H C cl fp, PTs (blkX X scope s H C cl fp) ifs (rT T ga)) (he : ∀ s H C cl fp, PE (blkX X scope s H C cl fp) elt (rE T fa)) (hz : ∀ i ∈ is, i ∈ own.map (·.2)) (hs : ∀ x, foldedSetIterable iter X.env x = pure x := by intro _; rfl) :
    PE X (.ListComp elt [⟨tg, iter, ifs, 0⟩] scope pos) (rE T (toV (lc fi (own.map (·.2)) k ga fa))) := toE (pe_lc hc hN hi ok hg ht he hs) (sim_lcV sI hk sT sE hz)
theorem jDcV {kx vx tg iter : Expr} {ifs : List Expr} {scope : Scope} {own : List (Str × Nat)} {g : TG} {k : SG} {fi : SA} {is : List Nat} (hc : X.calm = true) (hN : X.N.Nodup) (hk : SimG T is g k) (hi : PI X tg iter (rI T fi)) (ok : BlkOk X.N X.env.scope scope own)
    (hg : ∀ s H C cl fp, PG (blkX X scope s H C cl fp) tg g) (ht : ∀ s H C cl fp, PTs (blkX X scope s H C cl fp) ifs (rT T ga)) (hkx : ∀ s H C cl fp, PE (blkX X scope s H C cl fp) kx (rE T fa)) (hvx : ∀ s H C cl fp, PE (blkX X scope s H C cl fp) vx (rE T fb)) (hz : ∀ i ∈ is, i ∈ own.map (·.2)) (hs : ∀ x, foldedSetIterable iter X.env x = pure x := by intro _; rfl) :
    PE X (.DictComp kx vx [⟨tg, iter, ifs, 0⟩] scope pos) (rE T (dToV (dc fi (own.map (·.2)) k ga fa fb))) := toE (pe_dc hc hN hi ok hg ht hkx hvx hs) (sim_dcV sI hk sT sE sE hz)
/-! statements -/
variable {st : Stmt} {ss : List Stmt} {g k : SS}
theorem jsOne (h : PS X st (rS T g)) : PSs X [st] (rS T g) := pss_one h
theorem jsNil : PSs X [] (rS T sNx) := toSs pss_nil sim_nx
theorem jsCons (h1 : PS X st (rS T g)) (h2 : PSs X ss (rS T k)) : PSs X (st :: ss) (rS T (sSeq g k)) := toSs (pss_cons h1 h2) (sim_seq sS sS)
theorem jsFrz {i : Nat} (h : PSs X ss (rS T g)) : PSs X ss (rS T (sSeq (sFrz i) g)) := toSs h (sim_frz sS)
theorem jsNo : PSs X ss (rS T sNo) := toSs pss_never sim_never
theorem jsSet {i : Nat} {x : Str} {pos' : Pos} (hN : X.N.Nodup) (he : PE X e (rE T fa)) (hi : X.N[i]? = some x := by rfl) (hx : Loc X.env.scope x := by first | exact Or.inl rfl | exact Or.inr rfl) (hs : swapsWith e (some (.Name x pos')) pos.line X.env = pure false := by rfl) (hf : X.fn x = true ∨ X.env.scope.names.lookup x = some .local := by first | exact .inl rfl | exact .inr rfl) :
    PS X (.Assign [.Name x pos'] e pos) (rS T (sSet i fa)) := toS (ps_set hN hi hx he hs hf) (sim_set sE)
theorem jsSetLc {i : Nat} {y : Str} {py lpos : Pos} {elt tg iter : Expr} {ifs : List Expr} {scope : Scope} {own : List (Str × Nat)} {g : TG} {k : SG} {fi : SA} {is : List Nat} (hc : X.calm = true) (hN : X.N.Nodup) (hk : SimG T is g k)
    (hsw : swapsWith (.ListComp elt [⟨tg, iter, ifs, 0⟩] scope lpos) (some (.Name y py)) pos.line X.env = pure true) (hi : PI X tg iter (rI T fi)) (ok : BlkOk X.N X.env.scope scope own)
    (hg : ∀ s H C cl fp, PG (blkX X scope s H C cl fp) tg g) (ht : ∀ s H C cl fp, PTs (blkX X scope s H C cl fp) ifs (rT T ga)) (he : ∀ s H C cl fp, PE (blkX X scope s H C cl fp) elt (rE T fa)) (hz : ∀ i ∈ is, i ∈ own.map (·.2)) (hy : X.N[i]? = some y := by rfl) (hyl : X.env.scope.names.lookup y = some .local := by rfl) (hs : ∀ x, foldedSetIterable iter X.env x = pure x := by intro _; rfl) :
    PS X (.Assign [.Name y py] (.ListComp elt [⟨tg, iter, ifs, 0⟩] scope lpos) pos) (rS T (sSet i (toV (lc fi (own.map (·.2)) k ga fa)))) := toS (ps_setLc hc hN hy hyl hsw hi ok hg ht he hs) (sim_set (sim_lcV sI hk sT sE hz))
theorem jsRet (he : PE X e (rE T fa)) : PS X (.Return (some e) pos) (rS T (sRet fa)) := toS (ps_ret he) (sim_ret sE)
theorem jsRetN : PS X (.Return none pos) (rS T sRetN) := toS ps_retN sim_retN
theorem jsEx (he : PE X e (rE T fa)) (hs : swapsWith e none pos.line X.env = pure false := by rfl) : PS X (.Expr e pos) (rS T (sEx fa)) := toS (ps_expr he hs) (sim_ex sE)
theorem jsIf {p q : List Stmt} (hc : PT X c (rT T ga)) (ha : PSs X p (rS T g)) (hb : PSs X q (rS T k)) : PS X (.If c p q pos) (rS T (sIf ga g k)) := toS (ps_if hc ha hb) (sim_ifS sT sS sS)
theorem jsFor {tg iter : Expr} {body : List Stmt} {tgt : TG} {kt : SG} {fi : SA} {is : List Nat} (hp : PassesOwn (model X.prog X.w) X.A X.env X.xe) (hc : X.calm = true) (hk : SimG T is tgt kt) (hi : PI X tg iter (rI T fi)) (hg : PG X tg tgt) (hb : PSs X body (rS T g)) (hs : ∀ x, foldedSetIterable iter X.env x = pure x := by intro _; rfl) :
    PS X (.For tg iter body [] pos) (rS T (sFor fi kt g)) := toS (ps_for hp hc hi hg hb hs) (sim_for sI hk sS)
theorem jsDP {value i : Expr} {pos' : Pos} (hu : X.A.units + 64 < cLine) (ho : PE X o (rE T fa)) (hi : PE X i (rE T fb)) (hv : PE X value (rE T fc)) (hs : swapsWith value (some (.Subscript o i pos')) pos.line X.env = pure false := by rfl) : PS X (.Assign [.Subscript o i pos'] value pos) (rS T (sDP fa fb fc)) :=
  toS (ps_dput (by omega) ho hi hv hs) (sim_dput sE sE sE)
/-- xs[i] = v of a live list -/
def sLP (fd fk fv : SE) : SS := fun r st => (fv r st).bind fun x => (fd r x.2).bind fun y => (fk r y.2).bind fun z => match y.1, z.1 with
  | .ref i, .int k => (match z.2[i]? with
    | some (some (.lst ds)) => (ixN ds.length k).map fun j => .nx r (z.2.set i (some (.lst (ds.set j x.1))))
    | _ => none)
  | _, _ => none
theorem sim_lput {td ty tv : TE} {fd fk fv : SE} (hd : SimE T td fd) (hk : SimE T ty fk) (hv : SimE T tv fv) : SimS T (tAsg tv (gSub td ty rSetL)) (sLP fd fk fv) := by
  intro Z L st H s r o D w e h q
  obtain ⟨⟨dv, st1⟩, h1, h⟩ := bind_some' h
  obtain ⟨⟨dd, st2⟩, h2, h⟩ := bind_some' h
  obtain ⟨⟨dk, st3⟩, h3, h⟩ := bind_some' h
  refine hv Z L st H s r dv st1 _ w e h1 fun v H1 L1 f1 p1 => ?_
  refine hd Z L1 st1 H1 s r dd st2 _ f1.wd (e.keep f1) h2 fun x H2 L2 f2 p2 => ?_
  refine hk Z L2 st2 H2 s r dk st3 _ f2.wd ((e.keep f1).keep f2) h3 fun y H3 L3 f3 p3 => ?_
  dsimp only at h
  split at h
  · rename_i i k _
    split at h
    · rename_i ds hi
      obtain ⟨j, e1, e2⟩ := Option.map_eq_some_iff.mp h
      cases e2
      have p2' := p2.keep f3
      unfold Den at p2'
      obtain ⟨a, ia, rfl⟩ := p2'
      obtain ⟨nz, oo, eo, vs, rfl, t⟩ := f3.wd.own i a _ ia hi
      refine ⟨a, vs, k, j, rfl, den_int p3, eo, by rw [← t.len]; exact e1, ?_⟩
      have af := Afz.wr (o := .lst (vs.set j v)) (d' := .lst (ds.set j dv)) f3.wd ia hi ⟨_, rfl, t.set ((p1.keep f2).keep f3) j⟩
      exact q s _ L3 (f1.trans (f2.trans (f3.trans af))) ((((e.keep f1).keep f2).keep f3).keep af)
    · cases h
  · cases h
theorem jsLP {value i : Expr} {pos' : Pos} (ho : PE X o (rE T fa)) (hi : PE X i (rE T fb)) (hv : PE X value (rE T fc))
    (ha : ∀ v, assign (.Subscript o i pos') X.env v = (do
      let ov ← holding [v] (eval o X.env)
      let iv ← holding [v, ov] (eval i X.env)
      standAt pos'
      holding [v, ov, iv] (setItem ov iv v)
      release [v, ov, iv] []) := by intro _; rfl)
    (hs : swapsWithSole [.Subscript o i pos'] value pos.line X.env = pure false := by rfl) (hw : swappedStores [.Subscript o i pos'] value X.env = pure none := by rfl) (h1 : (assignEach [.Subscript o i pos'] X.env).map (·.2) = [assign (.Subscript o i pos') X.env] := by rfl) :
    PS X (.Assign [.Subscript o i pos'] value pos) (rS T (sLP fa fb fc)) := toS (ps_asg hv (pg_sub ho hi set_list ha) hs hw h1) (sim_lput sE sE sE)
end
end HB

set_option Elab.async false
set_option linter.all false
set_option maxRecDepth 100000
set_option maxHeartbeats 1000000
/-! HB, part q: defs by their derivations; the law's def; the head's hook with tables of code objects. -/
namespace HB
open PySem PySem.Spec PyProof.Rows L2

/-! ### calls by position alone -/
structure GP (P : Program) (w : World) (K : PySem.W.Frag) (mg : Str → Option Value) (base : Heap) (k : Nat) (x : Str) (ps : List Str) (sp : Sp) : Prop where
  ex : ∃ (f : Addr) (fd : FuncData), mg x = some (.ref f) ∧ PySem.W.keepIn K (.ref f) = true ∧ GFn P w K mg base k f fd ps sp ∧ ∀ (s : Shared) (us : List Value), us.length = ps.length → BindsTo s fd ⟨us, []⟩ (ps.zip us)
theorem jCallP {T : List (Addr × Str)} {X : Cx} {e : Expr} {es : List Expr} {fs : SA} {pos p : Pos} {k : Nat} {x : Str} {ps : List Str} {F : List Dt → Sto → Option (Dt × Sto)} (c : GP X.prog X.w X.K X.mg X.base k x ps (SpF T ps.length F)) (hr : Room k X.A) (hg : X.A.guards = some []) (gl : Gl X x) (ha : PA X (e :: es) (rA T fs)) (hdb : (x == ("__debug__" : Str)) = false := by decide)
    (he : starEach (e :: es) X.env = (false, eval e X.env) :: starEach es X.env := by rfl) (hpl : (backTo pos (starEach es X.env)).any (·.1) = false := by rfl) : PE X (.Call (.Name x p) (e :: es) [] pos) (rE T (eN (gF ps.length F) fs)) := by
  obtain ⟨f, fd, hm, hk, G, hb⟩ := c.ex
  have z : PE X (.Call (.Name x p) (e :: es) [] pos) (tG ps.length (SpF T ps.length F) (rA T fs)) := by
    constructor
    intro pins s s1 H Q I h
    refine wpAny_Call_Name_kw (ld_glob I gl hm ?_ hdb)
    refine PySem.W.callWith_K (h₀ := X.base) I.ok.mod.kin hk (thn (ha.run pos pins s s1 H _ I h) fun us s2 ⟨vs, H1, I1, r, hl, q⟩ => ⟨I1.kIn, ?_⟩) he hpl
    have hl' : us.length = ps.length := by rw [← r.length]; exact hl
    exact run_g G hr hg (hb s2 us hl') hl' I1 r q
  exact toE z (sim_g sA)
section
variable {T : List (Addr × Str)} {P : Program} {w : World} {K : PySem.W.Frag} {mg : Str → Option Value} {base : Heap} {x : Str} {args : Arguments} {body : List Stmt} {sc : Scope} {f : Addr} {fd : FuncData} {N ps : List Str} {k : Nat}
/-- a def by its derivation -/
theorem gfnJ {g : SS} (F : FunD K x x args body sc [] [] f fd) (S : FnScope N ps sc)
    (hb : ∀ A outer s H, Room k (gX P w K mg base N x sc f fd.code A outer s H).A → (gX P w K mg base N x sc f fd.code A outer s H).A.guards = some [] → PSs (gX P w K mg base N x sc f fd.code A outer s H) body (rS T g)) :
    GFn P w K mg base (k + 1) f fd ps (SpF T ps.length (bodyF g N.length)) := gfn F S hb sS
/-- a weaker promise -/
theorem GFn.weak {n : Nat} {F G : List Dt → Sto → Option (Dt × Sto)} (h : GFn P w K mg base k f fd ps (SpF T n F)) (hi : ∀ ds st x, G ds st = some x → F ds st = some x) : GFn P w K mg base k f fd ps (SpF T n G) := by
  refine h.imp fun vs H Q => ?_
  rintro ⟨Z, L, st, ds, d, st', hl, wd, dn, hF, q⟩
  exact ⟨Z, L, st, ds, d, st', hl, wd, dn, hi _ _ _ hF, q⟩
theorem liftV_mono {f g : List Dt → Option Dt} (h : ∀ ds d, f ds = some d → g ds = some d) (ds : List Dt) (st : Sto) (x : Dt × Sto) (e : liftV f ds st = some x) : liftV g ds st = some x := by
  unfold liftV at e ⊢
  split at e
  · rename_i hn
    obtain ⟨d, e1, e2⟩ := Option.map_eq_some_iff.mp e
    rw [if_pos hn, h ds d e1]
    exact congrArg some e2
  · cases e
theorem liftR_mono {f g : List Dt → Option Dt} (h : ∀ ds d, f ds = some d → g ds = some d) (ds : List Dt) (st : Sto) (x : Dt × Sto) (e : liftR f ds st = some x) : liftR g ds st = some x := by
  unfold liftR at e ⊢
  split at e
  · rename_i hn
    obtain ⟨d, e1, e2⟩ := Option.map_eq_some_iff.mp e
    rw [if_pos hn, h ds d e1]
    exact congrArg some e2
  · cases e
theorem liftE_mono {f g : Dt → List Dt → Option (Dt × Dt)} (h : ∀ c ds d, f c ds = some d → g c ds = some d) (ds : List Dt) (st : Sto) (x : Dt × Sto) (e : liftE f ds st = some x) : liftE g ds st = some x := by
  unfold liftE at e ⊢
  split at e
  · split at e
    · rename_i hn
      rw [if_pos hn]
      split at e
      · rename_i c hc
        split at e
        · rename_i hn2
          obtain ⟨d, e1, e2⟩ := Option.map_eq_some_iff.mp e
          simp only [hc, if_pos hn2, h _ _ d e1]
          exact congrArg some e2
        · cases e
      · cases e
    · cases e
  · cases e
theorem GFn.byV {n : Nat} {F : List Dt → Sto → Option (Dt × Sto)} {m : List Dt → Option Dt} (h : GFn P w K mg base k f fd ps (SpF T n F)) (hi : ∀ ds d, m ds = some d → fV F ds = some d) : GFn P w K mg base k f fd ps (SpF T n (liftV m)) := (gfn_V h).weak (liftV_mono hi)
theorem GFn.byR {n : Nat} {F : List Dt → Sto → Option (Dt × Sto)} {m : List Dt → Option Dt} (h : GFn P w K mg base k f fd ps (SpF T n F)) (hi : ∀ ds d, m ds = some d → fR F ds = some d) : GFn P w K mg base k f fd ps (SpF T n (liftR m)) := (gfn_R h).weak (liftR_mono hi)
theorem GFn.byE {n : Nat} {F : List Dt → Sto → Option (Dt × Sto)} {m : Dt → List Dt → Option (Dt × Dt)} (h : GFn P w K mg base k f fd ps (SpF T n F)) (hi : ∀ c ds d, m c ds = some d → fE F c ds = some d) : GFn P w K mg base k f fd ps (SpF T n (liftE m)) := (gfn_E h).weak (liftE_mono hi)
theorem GP.of {sp : Sp} (F : FunD K x x args body sc [] [] f fd) (hm : mg x = some (.ref f)) (G : GFn P w K mg base k f fd ps sp)
    (h : ∀ (kV doc pm : Value) (an : Option Addr) (cdv ct : Value) (us : List Value), us.length = ps.length → bindArgs (PySem.W.fnOf x x args body sc .none kV doc pm an cdv ct) ⟨us, []⟩ = pure (ps.zip us)) : GP P w K mg base k x ps sp :=
  ⟨f, fd, hm, F.kp, G, fun s us hl => FunD.bindsA F h s us hl⟩
theorem perm_one {p : List Nat} (h : p.Perm [0]) : p = [0] := List.perm_singleton.mp h
theorem perm_two {p : List Nat} (h : p.Perm [0, 1]) : p = [0, 1] ∨ p = [1, 0] := by
  have hl := h.length_eq
  match p, hl with
  | [a, b], _ =>
    have nd : [a, b].Nodup := h.nodup_iff.mpr (by decide)
    have ha : a ∈ [0, 1] := h.mem_iff.mp (by simp)
    have hb : b ∈ [0, 1] := h.mem_iff.mp (by simp)
    simp at nd ha hb
    rcases ha with rfl | rfl <;> rcases hb with rfl | rfl <;> first | exact absurd rfl nd | simp
theorem GCal.of {sp : Sp} (F : FunD K x x args body sc [] [] f fd) (hm : mg x = some (.ref f)) (G : GFn P w K mg base k f fd ps sp)
    (h : ∀ (kV doc pm : Value) (an : Option Addr) (cdv ct : Value) (us : List Value), us.length = ps.length → bindArgs (PySem.W.fnOf x x args body sc .none kV doc pm an cdv ct) ⟨us, []⟩ = pure (ps.zip us))
    (h2 : ∀ (kV doc pm : Value) (an : Option Addr) (cdv ct : Value) (p : List Nat) (ws : List Value), ws.length = ps.length → p.Perm (List.range ps.length) → bindArgs (PySem.W.fnOf x x args body sc .none kV doc pm an cdv ct) ⟨[], (p.map fun i => ps.getD i "").zip (p.map fun i => ws.getD i .none)⟩ = pure (ps.zip ws)) : GCal P w K mg base k x ps sp := by
  refine ⟨f, fd, hm, F.kp, G, fun s us hl => FunD.bindsA F h s us hl, fun s p ws hl hp => ?_⟩
  obtain ⟨oc, od, dV, kV, doc, pm, an, cdv, ct, osl, rfl, lk, hcd, hD, hK⟩ := F.ex
  rcases hD with ⟨_, rfl⟩ | ⟨e, _⟩
  · exact .of_eq (h2 kV doc pm an cdv ct p ws hl hp)
  · exact absurd rfl e
/-! ### the law's def -/
/-- what is asked of the law's plain function: ns, the script's numbers -/
def SpL (T : List (Addr × Str)) (K : PySem.W.Frag) (ok : List Int → Prop) : Sp := fun vs H Q _ => ∃ (a : Addr) (ns : List Int), vs = [.ref a] ∧ LamX.Tabs T H ∧ SqL K H a (ns.map V.int) ∧ ok ns ∧ ∀ H', Q (.bl true) H'
/-- the script's first numbers -/
def eScr (n : Int) (ns : List Int) : SE := fun _ st => some (.lst (cutL (ns.map Dt.int) none (some n)), st)
theorem dens_ints {L : List Addr} {B : Addr → Prop} {H : Hp} : ∀ xs : List Int, Dens L B H (xs.map Dt.int) (xs.map V.int)
  | [] => .nil
  | _ :: xs => .cons Den.int (dens_ints xs)
theorem gfnL {g : List Int → SS} {ok : List Int → Prop} {n : Int} {t : TE → TS} (F : FunD K x x args body sc [] [] f fd) (S : FnScope N ["_law_script"] sc)
    (hb : ∀ A outer s H, Room k (gX P w K mg base N x sc f fd.code A outer s H).A → (gX P w K mg base N x sc f fd.code A outer s H).A.guards = some [] → PSs (gX P w K mg base N x sc f fd.code A outer s H) body (t (tSl (rSlA K) (tVar 0) tNoPart (tPart (tC (.int n))))))
    (hs : ∀ ns te Z L st H s r o D, Wd T Z L st H → EnvOk L (Bad Z L st) H r s → EAt T Z L st H s r te (eScr n ns) → g ns r st = some o → OuOk T Z L st H D o → t te D s H)
    (hok : ∀ ns, ok ns → ∃ st', g ns (List.replicate N.length none) [] = some (.rt (.bl true) st')) :
    GFn P w K mg base (k + 1) f fd ["_law_script"] (SpL T K ok) := by
  obtain ⟨oc, od, dV, kV, doc, pm, an, cdv, ct, osl, rfl, lk, hcd, _, _⟩ := F.ex
  constructor
  intro A outer s H binds us vs Q hr hg e0 hbt hlu rv hsp
  obtain ⟨a, ns, rfl, tabs, hS, hk, q⟩ := hsp
  have keeps : ∀ b o, base.get? b = some o → s.heap.get? b = some o := fun b o e => (e0.bs b o e).1
  have inK : K.In s.heap := e0.mod.kin.keeps keeps
  have places : ∀ y ∈ (["_law_script"] : List Str).zip us, sc.names.lookup y.1 = some .local ∨ (sc.names.lookup y.1 = some .cell ∧ ((cellsFrom (s.heap.objs.size + 1) sc.names []).lookup y.1).isSome = true) := by
    intro y hy
    cases S.par y.1 (List.of_mem_zip (a := y.1) (b := y.2) hy).1 with
    | inl z => exact .inl z
    | inr z => exact .inr ⟨z, PySem.W.cellsFrom_some _ _ _ (.inl z)⟩
  refine codeAny_call_function hr.depth (inK _ _ lk) rfl S.co S.gen rfl (PySem.W.codeRec_of inK hcd) (hbt _ _ _ _ ?_)
  refine wpAny_newFunctionEnv_cells S.kind places fun env he s1 ic => ?_
  subst he
  refine ⟨(e0.mod.nolimit.keeps keeps).keeps ic.toInCall.keep, codeAny_func ?_⟩
  have I : Inv (cxOf CX0 P w K mg base N x sc f cdv A outer s H E0) [] (L2.start N [.ref a]) H s1 := inv_start S hr.hd e0 rfl rv ic
  have ht := hb A outer s H (hr.deeper _) hg
  obtain ⟨st', a1⟩ := hok ns hk
  have hN : 1 ≤ N.length := by
    have := congrArg List.length S.pre
    rw [List.length_take] at this
    simp at this
    omega
  have w0 : Wd T (fun _ => False) [] [] H := ⟨tabs, rfl, fun i j b d e h => by simp at h, fun i b d h => by simp at h, fun b z => z.elim⟩
  have ev : EnvOk [] (Bad (fun _ => False) [] []) H (List.replicate N.length none) (L2.start N [.ref a]) := by
    refine ⟨by unfold L2.start; simp; omega, fun i d e => ?_⟩
    rw [List.getElem?_replicate] at e
    split at e <;> cases e
  have reading : t (tSl (rSlA K) (tVar 0) tNoPart (tPart (tC (.int n)))) { nx := fun _ H' => Q .non H', rt := Q } (L2.start N [.ref a]) H := by
    refine hs ns _ _ _ _ _ _ _ _ _ w0 ev (fun d st2 Q2 hd q2 => ?_) a1 fun v H' L' f p => ?_
    · cases hd
      refine ⟨.ref a, rfl, n, rfl, .inl ⟨a, ns.map V.int, rfl, hS, fun p np => ?_⟩⟩
      refine q2 _ _ [] (.new w0 np) (.newL w0 np ?_)
      show Dens _ _ _ (cutL (ns.map Dt.int) none (some n)) (cutV (ns.map V.int) none (some n))
      unfold cutL cutV
      rw [List.length_map, List.length_map]
      exact ((dens_ints ns).drop _).take _
    · rw [den_bl p]; exact q H'
  refine wpAny_mono (ht.nox.run [] s1 _ H _ I reading) (fun fl s2 hq => ?_) fun _ _ hx => hx
  match fl, hq with
  | .ret u, ⟨v, _, H', J, rv', qv⟩ => exact ⟨v, H', J.os, J.bare, J.base, J.hok, rv', qv⟩
  | .next, ⟨_, H', J, qv⟩ => exact ⟨.non, H', J.os, J.bare, J.base, J.hok, rfl, qv⟩
  | .brk, ⟨_, _, _, qv⟩ => exact False.elim qv
  | .cont, ⟨_, _, _, qv⟩ => exact False.elim qv
end
end HB

set_option Elab.async false
set_option linter.all false
set_option maxRecDepth 100000
set_option maxHeartbeats 1000000
/-! HB, part r: the head's hook with tables of code objects; the end over it. -/
namespace HB
open PySem PySem.Spec PyProof.Rows L2

def tabAt (g : Addr → Option Obj) (R : Addr) : Bool := match g R with
  | some ⟨.none, none, .fields ps, sl⟩ => decide (ps.size = 0) && decide (sl.size = 0)
  | _ => false
def isStrV : Value → Bool
  | .str _ _ => true
  | _ => false
def isIntV : Value → Bool
  | .int _ _ => true
  | _ => false
def isBoolV : Value → Bool
  | .bool _ => true
  | _ => false
def hdOk (c R : Addr) (cls : Value) (vs : Array Value) : Bool :=
  decide (cls = .type "code") && (isStrV (vs.getD 18 .none) && (isIntV (vs.getD 7 .none) && (isBoolV (vs.getD 9 .none) && (isIntV (vs.getD 10 .none) && decide (c ≠ R)))))
def tabOk (g : Addr → Option Obj) (K : PySem.W.Frag) (x : Str) : Bool := match K.lookup (He.ga K x) with
  | some ⟨_, _, .func fd, _⟩ => (match fd.code with
    | .ref c => (match g c with
      | some ⟨cls, _, .fields vs, _⟩ => (match (vs[11]? : Option Value) with
        | some (.ref R) => (K.lookup R).isNone && (tabAt g R && hdOk c R cls vs)
        | _ => false)
      | _ => false)
    | _ => false)
  | _ => false
/-- the def x makes lambdas: c its code object, R the table -/
structure TabD (K : PySem.W.Frag) (h : Heap) (x : Str) (c R : Addr) : Prop where
  fn : ∃ oc od fd osl, K.lookup (He.ga K x) = some ⟨oc, od, .func fd, osl⟩ ∧ fd.code = .ref c
  no : K.lookup R = none
  tab : h.get? R = some tabO
  hd : PySem.W.CodeHd h c R
theorem tabAt_ok {h : Heap} {R : Addr} (e : tabAt h.get? R = true) : h.get? R = some tabO := by
  unfold tabAt at e
  split at e
  · rename_i ps sl q
    rw [Bool.and_eq_true, decide_eq_true_eq, decide_eq_true_eq] at e
    rw [q, Array.size_eq_zero_iff.mp e.1, Array.size_eq_zero_iff.mp e.2]
  · cases e
theorem str_of {v : Value} (h : isStrV v = true) : ∃ x t, v = .str x t := by
  cases v <;> first | exact ⟨_, _, rfl⟩ | cases h
theorem int_of {v : Value} (h : isIntV v = true) : ∃ x t, v = .int x t := by
  cases v <;> first | exact ⟨_, _, rfl⟩ | cases h
theorem bool_of {v : Value} (h : isBoolV v = true) : ∃ x, v = .bool x := by
  cases v <;> first | exact ⟨_, rfl⟩ | cases h
theorem tabOk_ok {h : Heap} {K : PySem.W.Frag} {x : Str} (e : tabOk h.get? K x = true) : ∃ c R, TabD K h x c R := by
  unfold tabOk at e
  split at e
  · rename_i oc od fd osl h1
    split at e
    · rename_i c h2
      split at e
      · rename_i cls od2 vs osl2 h3
        split at e
        · rename_i R h4
          simp only [Bool.and_eq_true] at e
          obtain ⟨e1, e2, e3⟩ := e
          unfold hdOk at e3
          simp only [Bool.and_eq_true, decide_eq_true_eq] at e3
          obtain ⟨a1, a2, a3, a4, a5, a6⟩ := e3
          obtain ⟨z1, t1, b1⟩ := str_of a2
          obtain ⟨z2, t2, b2⟩ := int_of a3
          obtain ⟨z3, b3⟩ := bool_of a4
          obtain ⟨z4, t4, b4⟩ := int_of a5
          refine ⟨c, R, ⟨oc, od, fd, osl, h1, h2⟩, Option.isNone_iff_eq_none.mp e1, tabAt_ok e2, _, vs, z1, t1, z2, t2, z3, z4, t4, h3, a1, rfl, h4, ?_, b1, b2, b3, b4, a6⟩
          rw [Array.getD_eq_getD_getElem?, h4]; rfl
        · cases e
      · cases e
    · cases e
  · cases e
def hookT (n : Nat) (fa : List He.Fa) (fn : List He.DefD) (ls : List Str) : PySem.W.Hook where
  α := He.AlD × Bool
  obs := fun s => (He.obsDG n fa fn s.heap.get?, ls.all (tabOk s.heap.get? (He.frG s.heap.get? (He.asD s.heap.get? n))))
  val := fun _ => (He.valD fn, true)
  says := fun _ h => ∃ K : PySem.W.Frag, K.In h ∧ He.SaysD fa fn K ∧ ∀ x ∈ ls, ∃ c R, TabD K h x c R
  of := fun _ s e => ⟨He.frG s.heap.get? (He.asD s.heap.get? n), He.frG_in, congrArg (fun z : He.AlD × Bool => z.1) e, fun x hx => tabOk_ok (List.all_eq_true.mp (congrArg (fun z : He.AlD × Bool => z.2) e) x hx)⟩
  keeps := fun _ _ _ ⟨K, hK, c, t⟩ k => ⟨K, PySem.W.Frag.In.keeps hK k, c, fun x hx => let ⟨a, R, d⟩ := t x hx; ⟨a, R, d.fn, d.no, k _ _ d.tab, d.hd.keeps k⟩⟩
def obT (n : Nat) (fa : List He.Fa) (fn : List He.DefD) (ls : List Str) (g : Addr → Option Obj) : He.AlD × Bool := (He.obsDG n fa fn g, ls.all (tabOk g (He.frG g (He.asD g n))))
theorem obT_eq {n : Nat} {fa : List He.Fa} {fn : List He.DefD} {ls : List Str} {g : Addr → Option Obj} {s : Shared} (h : ∀ a, g a = s.heap.get? a) : obT n fa fn ls g = (hookT n fa fn ls).obs s := by
  have e : g = s.heap.get? := funext h
  rw [e]; rfl
theorem walk_goE {l : PySem.W.OpenLaw} {n k : Nat} {q : Program} {loose : List Str} {XP : (Str → Option Value) → Heap → Prop} {YP : World → Heap → Prop} {d : DefRec} {x : Str}
    (hn : l.most = some n) (hn2 : n ≤ sizeLine) (hdf : d.params.defaults = []) (hr : Room k callerA)
    (F : ∀ (w : World) (mg : Str → Option Value) (fa : Addr) (h : Heap), YP w h → h.Ns mainGlobals mg → mg d.name = some (.ref fa) → ∃ K : PySem.W.Frag, K.In h ∧ LawAt l w K k n x mg fa h) :
    PySem.W.WalkO q loose XP YP l.row.toRowW d [] (fun f vs => PySem.call f vs) := by
  refine Att.attach_callB hn hdf fun w s₀ s₁ mg mb fa o pm cd doc a vs ns G Y ho hd hcd hmg hobj hints hlen hbits hg => ?_
  obtain ⟨K, KX, fd, cs, sp, hT, nT, C, hb, hsp, hF⟩ := F w mg fa _ Y G.T.g hmg
  exact law_go KX G.T.g G.T.b G.T.builtins G.T.nolimit hg hT nT C G.T.bmain hobj hints (Nat.le_trans hlen hn2) hr hF hb fun H hH hS => hsp H a ns hlen hbits hH hS
end HB

set_option Elab.async false
set_option linter.all false
set_option maxRecDepth 100000
set_option maxHeartbeats 1000000
/-! HB, part s: more of the rules, as the printed derivations use them. -/
namespace HB
open PySem PySem.Spec PyProof.Rows L2

abbrev cT : Int → Int → Bool := fun _ _ => true
def cMul (i j : Int) : Bool := decide ((-(2 ^ 64) < i ∧ i < 2 ^ 64) ∨ (-(2 ^ 64) < j ∧ j < 2 ^ 64))
def cDiv (_ j : Int) : Bool := decide (0 < j ∧ j < 1073741824)
def cMod (_ j : Int) : Bool := decide (0 < j)
def cPow (i j : Int) : Bool := decide (0 ≤ j ∧ (Builtin.Int.intBits i : Int) * j ≤ 2 ^ 27)
def gMin : Sto → Dt → Dt → Option (Dt × Sto) := gI cT fun i j => i - j
def gMul : Sto → Dt → Dt → Option (Dt × Sto) := gI cMul fun i j => i * j
def gDiv : Sto → Dt → Dt → Option (Dt × Sto) := gI cDiv fun i j => i / j
def gMod : Sto → Dt → Dt → Option (Dt × Sto) := gI cMod fun i j => i % j
def gPow : Sto → Dt → Dt → Option (Dt × Sto) := gI cPow fun i j => i ^ j.toNat
def gLt : Sto → Dt → Dt → Option (Dt × Sto) := gIb fun i j => decide (i < j)
def gGt : Sto → Dt → Dt → Option (Dt × Sto) := gIb fun i j => decide (j < i)
def gGe : Sto → Dt → Dt → Option (Dt × Sto) := gIb fun i j => decide (j ≤ i)
theorem cMul_ok {i j : Int} (h : cMul i j = true) : CMul i j := by unfold cMul at h; simp only [decide_eq_true_eq] at h; exact h
theorem cDiv_ok {i j : Int} (h : cDiv i j = true) : CDiv i j := by unfold cDiv at h; simp only [decide_eq_true_eq] at h; exact h
theorem cMod_ok {i j : Int} (h : cMod i j = true) : 0 < j := by unfold cMod at h; simp only [decide_eq_true_eq] at h; exact h
theorem cPow_ok {i j : Int} (h : cPow i j = true) : CPowW i j := by unfold cPow at h; simp only [decide_eq_true_eq] at h; exact h
section
variable {T : List (Addr × Str)} {X : Cx} {a b c e o : Expr} {es rest : List Expr} {fa fb fc : SE} {ga gb : ST} {fs : SA} {pos : Pos}
theorem jAdd (ha : PE X a (rE T fa)) (hb : PE X b (rE T fb)) : PE X (.BinOp a .Add b pos) (rE T (eOp2 gAdd fa fb)) := jOp op_Add vo_Add ha hb
theorem jMin (ha : PE X a (rE T fa)) (hb : PE X b (rE T fb)) : PE X (.BinOp a .Sub b pos) (rE T (eOp2 gMin fa fb)) := jOp op_sub vo_I0 ha hb
theorem jMul (ha : PE X a (rE T fa)) (hb : PE X b (rE T fb)) : PE X (.BinOp a .Mult b pos) (rE T (eOp2 gMul fa fb)) := jOp op_mul (vo_I fun i j h => cMul_ok h) ha hb
theorem jDiv (ha : PE X a (rE T fa)) (hb : PE X b (rE T fb)) : PE X (.BinOp a .FloorDiv b pos) (rE T (eOp2 gDiv fa fb)) := jOp op_fdiv (vo_I fun i j h => cDiv_ok h) ha hb
theorem jMod (ha : PE X a (rE T fa)) (hb : PE X b (rE T fb)) : PE X (.BinOp a .Mod b pos) (rE T (eOp2 gMod fa fb)) := jOp op_mod (vo_I fun i j h => cMod_ok h) ha hb
theorem jPow (ha : PE X a (rE T fa)) (hb : PE X b (rE T fb)) : PE X (.BinOp a .Pow b pos) (rE T (eOp2 gPow fa fb)) := jOp op_powW (vo_I fun i j h => cPow_ok h) ha hb
def eNeg (f : SE) : SE := fun r st => (f r st).bind fun x => match x.1 with
  | .int i => some (.int (-i), x.2)
  | _ => none
theorem jNeg (ha : PE X a (rE T fa)) : PE X (.UnaryOp .USub a pos) (rE T (eNeg fa)) := by
  refine toE (pe_un un_neg ha) fun Z L st H s r d st' Q w e h q => ?_
  obtain ⟨⟨dx, st1⟩, h1, h⟩ := bind_some' h
  refine sE Z L st H s r dx _ _ w e h1 fun x H1 L1 f1 p1 => ?_
  cases dx with
  | int i => cases h; exact ⟨i, den_int p1, q _ H1 L1 f1 Den.int⟩
  | _ => cases h
theorem vLt : VO2 T (rI0 fun i j => .bl (decide (i < j))) gLt := vo_Ib
theorem vGt : VO2 T (rI0 fun i j => .bl (decide (j < i))) gGt := vo_Ib
theorem vGe : VO2 T (rI0 fun i j => .bl (decide (j ≤ i))) gGe := vo_Ib
theorem jChain {op op' : CmpOp} {r r' : R2} {g g' : Sto → Dt → Dt → Option (Dt × Sto)} (ho : OpR X (compareOp op) r) (hv : VO2 T r g) (ho' : OpR X (compareOp op') r') (hv' : VO2 T r' g') (ha : PE X a (rE T fa)) (hb : PE X b (rE T fb)) (hc : PE X c (rE T fc))
    (hm : lastMarks [op, op'] [b, c] = false := by with_unfolding_all rfl) : PE X (.Compare a [op, op'] [b, c] pos) (rE T (eChain g g' fa fb fc)) := toE (pe_chain ho ho' ha hb hc hm) (sim_chain hv hv' sE sE sE)
theorem jtChain {op op' : CmpOp} {r r' : R2} {g g' : Sto → Dt → Dt → Option (Dt × Sto)} (ho : OpR X (compareOp op) r) (hv : VO2 T r g) (ho' : OpR X (compareOp op') r') (hv' : VO2 T r' g') (ha : PE X a (rE T fa)) (hb : PE X b (rE T fb)) (hc : PE X c (rE T fc))
    (hm : lastMarks [op, op'] [b, c] = false := by with_unfolding_all rfl) : PT X (.Compare a [op, op'] [b, c] pos) (rT T (cB (eChain g g' fa fb fc))) := toTT (pt_chain ho ho' ha hb hc hm) (sim_cBT (sim_chain hv hv' sE sE sE))
theorem jg (i : Nat) {x : Str} (hN : X.N.Nodup) (hi : X.N[i]? = some x := by rfl) (hx : Loc X.env.scope x := by first | exact Or.inl rfl | exact Or.inr rfl) (hf : X.fn x = true ∨ X.env.scope.names.lookup x = some .local := by first | exact .inl rfl | exact .inr rfl) : PG X (.Name x pos) (gName i) := pg_name hN hi hx hf
theorem sim_g2 {K : PySem.W.Frag} {i j : Nat} : SimG T [i, j] (gTup K 2 (gCons (gName i) (gCons (gName j) gNil))) (kTup (ksCons (kName i) (ksCons (kName j) ksNil))) := by
  refine sim_gtup (is := [i] ++ ([j] ++ [])) (sim_gcons sim_gname (sim_gcons sim_gname sim_gnil)) fun ds r r' h => ?_
  match ds, h with
  | [_, _], _ => rfl
  | [], h => cases h
  | [_], h => cases h
  | _ :: _ :: _ :: _, h => cases h
theorem jg2 {x y : Expr} {i j k : Nat} (hc : X.calm = true) (h1 : PG X x (gName i)) (h2 : PG X y (gName j)) (hs : (assignEach [x, y] X.env).map (·.2) = assign x X.env :: (assignEach [y] X.env).map (·.2) := by rfl) (hs2 : (assignEach [y] X.env).map (·.2) = assign y X.env :: (assignEach [] X.env).map (·.2) := by rfl)
    (hn : (assignEach [x, y] X.env).length = 2 := by rfl) (hst : (assignEach [x, y] X.env).findIdx? (·.1) = none := by rfl) : PG X (.Tuple [x, y] k pos) (gTup X.K 2 (gCons (gName i) (gCons (gName j) gNil))) := pg_tup hc (pgs_cons h1 (pgs_cons h2 pgs_nil hs2) hs) hn hst
theorem jLcR {elt tg iter : Expr} {ifs : List Expr} {scope : Scope} {own : List (Str × Nat)} {g : TG} {k : SG} {fi : SA} {is : List Nat} (hc : X.calm = true) (hN : X.N.Nodup) (hk : SimG T is g k) (hi : PI X tg iter (rI T fi)) (ok : BlkOk X.N X.env.scope scope own)
    (hg : ∀ s H C cl fp, PG (blkX X scope s H C cl fp) tg g) (ht : ∀ s H C cl fp, PTs (blkX X scope s H C cl fp) ifs (rT T ga)) (he : ∀ s H C cl fp, PE (blkX X scope s H C cl fp) elt (rE T fa)) (hz : ∀ i ∈ is, i ∈ own.map (·.2)) (hs : ∀ x, foldedSetIterable iter X.env x = pure x := by intro _; rfl) :
    PE X (.ListComp elt [⟨tg, iter, ifs, 0⟩] scope pos) (rE T (toR (lc fi (own.map (·.2)) k ga fa))) := toE (pe_lc hc hN hi ok hg ht he hs) (sim_lcR sI hk sT sE hz)
theorem jtNil : PTs X [] (rT T cYes) := toTs pts_nil sim_yes
theorem jtOne (h : PT X c (rT T ga)) : PTs X [c] (rT T ga) := pts_one h
end
end HB

set_option Elab.async false
set_option linter.all false
set_option maxRecDepth 100000
set_option maxHeartbeats 1000000
/-! HB, part t: the law's first statement. -/
namespace HB
open PySem PySem.Spec PyProof.Rows L2
section
variable {T : List (Addr × Str)} {K : PySem.W.Frag} {i j : Nat} {n : Int} {fz fd : SE} {gb gr : SS}
/-- for x in [f(y) for y in script[:n] + [0]]: .., the rest -/
def tLaw (T : List (Addr × Str)) (K : PySem.W.Frag) (i j : Nat) (fz fd : SE) (gb gr : SS) (te : TE) : TS :=
  tSeq (tFor (iList K (tLc (iList K (tOp rAdd te (rE T fz))) (gName j) tYes (rE T fd) [j])) (gName i) (rS T gb)) (rS T gr)
def gLaw (i j : Nat) (n : Int) (fz fd : SE) (gb gr : SS) (ns : List Int) : SS :=
  sSeq (sFor (iE itL (toV (lc (iE itL (eOp2 gAdd (eScr n ns) fz)) [j] (kName j) cYes fd))) (kName i) gb) gr
theorem law_first (ns : List Int) (te : TE) (Z : Addr → Prop) (L : List Addr) (st : Sto) (H : Hp) (s : L2.St) (r : Evr) (o : Ou) (D : Ends) (w : Wd T Z L st H) (e : EnvOk L (Bad Z L st) H r s) (hte : EAt T Z L st H s r te (eScr n ns))
    (h : gLaw i j n fz fd gb gr ns r st = some o) (q : OuOk T Z L st H D o) : tLaw T K i j fz fd gb gr te D s H := by
  obtain ⟨o1, h1, h2⟩ := bind_some' h
  refine for_run (at_iL (at_lcV (at_iL (at_op e hte sE vo_Add)) sim_gname sim_yes sE (by simp) w e)) sim_gname sS w e h1 ?_
  cases o1 with
  | nx r1 st1 =>
    intro s1 H1 L1 f1 e1
    refine sS Z L1 st1 H1 s1 r1 o _ f1.wd e1 h2 ?_
    cases o with
    | nx r2 st2 => exact fun s2 H2 L2 f2 e2 => q s2 H2 L2 (f1.trans f2) e2
    | rt d st2 => exact fun v H2 L2 f2 e2 => q v H2 L2 (f1.trans f2) e2
    | bk r2 st2 => exact fun s2 H2 L2 f2 e2 => q s2 H2 L2 (f1.trans f2) e2
    | ct r2 st2 => exact fun s2 H2 L2 f2 e2 => q s2 H2 L2 (f1.trans f2) e2
  | rt d st1 => cases h2; exact q
  | bk r1 st1 => cases h2; exact q
  | ct r1 st1 => cases h2; exact q
end
end HB

set_option Elab.async false
set_option linter.all false
set_option maxRecDepth 100000
set_option maxHeartbeats 1000000
/-! HB, part u: plain functions worked out, step by step. -/
namespace HB
open PySem PySem.Spec PyProof.Rows L2
section
variable {r r1 : Evr} {st st1 st2 st3 : Sto} {d x y z : Dt} {fa fb fc : SE} {ds : List Dt} {fs : SA} {ca cb : ST} {g k : SS} {o : Ou} {a b : Bool}
theorem v_var {i : Nat} (h : r[i]? = some (some d)) : eVar i r st = some (d, st) := by unfold eVar; rw [h]
theorem v_op {f : Sto → Dt → Dt → Option (Dt × Sto)} {q : Dt × Sto} (ha : fa r st = some (x, st1)) (hb : fb r st1 = some (y, st2)) (h : f st2 x y = some q) : eOp2 f fa fb r st = some q := by unfold eOp2; rw [ha]; show (fb r st1).bind _ = _; rw [hb]; exact h
theorem v_nil : aNil r st = some ([], st) := rfl
theorem v_cons (ha : fa r st = some (x, st1)) (hb : fs r st1 = some (ds, st2)) : aCons fa fs r st = some (x :: ds, st2) := by unfold aCons; rw [ha]; show (fs r st1).bind _ = _; rw [hb]; rfl
theorem v_one (ha : fa r st = some (x, st1)) : aCons fa aNil r st = some ([x], st1) := v_cons ha v_nil
theorem v_N {f : Sto → List Dt → Option (Dt × Sto)} {q : Dt × Sto} (ha : fs r st = some (ds, st1)) (h : f st1 ds = some q) : eN f fs r st = some q := by unfold eN; rw [ha]; exact h
theorem v_chain {f f' : Sto → Dt → Dt → Option (Dt × Sto)} {q : Dt × Sto} (ha : fa r st = some (x, st1)) (hb : fb r st1 = some (y, st2)) (h : f st2 x y = some (.bl true, st3)) {st4 : Sto} (hc : fc r st3 = some (z, st4)) (h' : f' st4 y z = some q) : eChain f f' fa fb fc r st = some q := by
  unfold eChain; rw [ha]; show (fb r st1).bind _ = _; rw [hb]; show (f st2 x y).bind _ = _; rw [h]; show (fc r st3).bind _ = _; rw [hc]; exact h'
theorem v_chain0 {f f' : Sto → Dt → Dt → Option (Dt × Sto)} (ha : fa r st = some (x, st1)) (hb : fb r st1 = some (y, st2)) (h : f st2 x y = some (.bl false, st3)) : eChain f f' fa fb fc r st = some (.bl false, st3) := by
  unfold eChain; rw [ha]; show (fb r st1).bind _ = _; rw [hb]; show (f st2 x y).bind _ = _; rw [h]; rfl
theorem v_and (ha : fa r st = some (.bl true, st1)) {q : Dt × Sto} (hb : fb r st1 = some q) : eAndV fa fb r st = some q := by unfold eAndV; rw [ha]; exact hb
theorem v_sl {l h : SO} {lo hi : Option Int} (ha : fa r st = some (x, st1)) (h1 : l r st1 = some (lo, st2)) (h2 : h r st2 = some (hi, st3)) (e : gSl st3 x lo hi = some d) : eSl fa l h r st = some (d, st3) := by
  unfold eSl; rw [ha]; show (l r st1).bind _ = _; rw [h1]; show (h r st2).bind _ = _; rw [h2]; show (gSl st3 x lo hi).map _ = _; rw [e]; rfl
theorem v_oE {i : Int} (ha : fa r st = some (.int i, st1)) : oE fa r st = some (some i, st1) := by unfold oE; rw [ha]; rfl
theorem v_toV (h : fs r st = some (ds, st1)) : toV fs r st = some (.lst ds, st1) := by unfold toV; rw [h]; rfl
theorem v_toR (h : fs r st = some (ds, st1)) : toR fs r st = some (.ref st1.length, st1 ++ [some (.lst ds)]) := by unfold toR; rw [h]; rfl
theorem v_small (h : fs r st = some (ds, st1)) (hl : ds.length ≤ sizeLine) : small fs r st = some (ds, st1) := by unfold small; rw [h]; exact if_pos hl
theorem v_gF {n : Nat} {F : List Dt → Sto → Option (Dt × Sto)} {q : Dt × Sto} (hn : ds.length = n) (h : F ds st = some q) : gF n F st ds = some q := by unfold gF; rw [if_pos hn]; exact h
theorem v_V {m : List Dt → Option Dt} (hn : noRefs ds = true) (h : m ds = some d) : liftV m ds st = some (d, st) := by unfold liftV; rw [if_pos hn, h]; rfl
theorem v_R {m : List Dt → Option Dt} (hn : noRefs ds = true) (h : m ds = some d) : liftR m ds st = some (.ref st.length, st ++ [some d]) := by unfold liftR; rw [if_pos hn, h]; rfl
theorem v_Ee {m : Dt → List Dt → Option (Dt × Dt)} {i : Nat} {c c' : Dt} (hn : noRefs ds = true) (hi : st[i]? = some (some c)) (hc : noRef c = true) (h : m c ds = some (d, c')) : liftE m (.ref i :: ds) st = some (d, st.set i (some c')) := by
  unfold liftE; dsimp only; rw [if_pos hn, hi]; dsimp only; rw [if_pos hc, h]; rfl
theorem t_B (ha : fa r st = some (.bl a, st1)) : cB fa r st = some (a, st1) := by unfold cB; rw [ha]; rfl
theorem t_not (ha : ca r st = some (a, st1)) : cNot ca r st = some (!a, st1) := by unfold cNot; rw [ha]; rfl
theorem t_orF (ha : ca r st = some (false, st1)) {q : Bool × Sto} (hb : cb r st1 = some q) : cOr ca cb r st = some q := by unfold cOr; rw [ha]; exact hb
theorem t_orT (ha : ca r st = some (true, st1)) : cOr ca cb r st = some (true, st1) := by unfold cOr; rw [ha]; rfl
theorem t_andT (ha : ca r st = some (true, st1)) {q : Bool × Sto} (hb : cb r st1 = some q) : cAnd ca cb r st = some q := by unfold cAnd; rw [ha]; exact hb
theorem t_andF (ha : ca r st = some (false, st1)) : cAnd ca cb r st = some (false, st1) := by unfold cAnd; rw [ha]; rfl
theorem s_seq (h1 : g r st = some (.nx r1 st1)) {q : Ou} (h2 : k r1 st1 = some q) : sSeq g k r st = some q := by unfold sSeq; rw [h1]; exact h2
theorem s_seqRt (h1 : g r st = some (.rt d st1)) : sSeq g k r st = some (.rt d st1) := by unfold sSeq; rw [h1]; rfl
theorem s_ifF (hc : ca r st = some (false, st1)) {q : Ou} (h : k r st1 = some q) : sIf ca g k r st = some q := by unfold sIf; rw [hc]; exact h
theorem s_ifT (hc : ca r st = some (true, st1)) {q : Ou} (h : g r st1 = some q) : sIf ca g k r st = some q := by unfold sIf; rw [hc]; exact h
theorem s_set {i : Nat} (h : fa r st = some (d, st1)) : sSet i fa r st = some (.nx (r.set i (some d)) st1) := by unfold sSet; rw [h]; rfl
theorem s_ret (h : fa r st = some (d, st1)) : sRet fa r st = some (.rt d st1) := by unfold sRet; rw [h]; rfl
theorem s_ex (h : fa r st = some (d, st1)) : sEx fa r st = some (.nx r st1) := by unfold sEx; rw [h]; rfl
theorem s_for {fi : SA} {kt : SG} {xs : List Dt} (h : fi r st = some (xs, st1)) {q : Ou} (h2 : sForGo kt g xs r st1 = some q) : sFor fi kt g r st = some q := by unfold sFor; rw [h]; exact h2
theorem v_iE {f : Sto → Dt → Option (List Dt)} {xs : List Dt} (h : fa r st = some (d, st1)) (h2 : f st1 d = some xs) : iE f fa r st = some (xs, st1) := by unfold iE; rw [h]; show (f st1 d).map _ = _; rw [h2]; rfl
theorem v_iR {f : List Dt → Option (List Dt)} {xs : List Dt} (h : fs r st = some (ds, st1)) (h2 : f ds = some xs) : iR f fs r st = some (xs, st1) := by unfold iR; rw [h]; show (f ds).map _ = _; rw [h2]; rfl
/-- one turn of for -/
theorem for_cons {kt : SG} {xs : List Dt} {r2 : Evr} (hk : kt x r = some r1) (h : g r1 st = some (.nx r2 st1)) {q : Ou} (h2 : sForGo kt g xs r2 st1 = some q) : sForGo kt g (x :: xs) r st = some q := by
  show (kt x r).bind _ = _; rw [hk]; show (g r1 st).bind _ = _; rw [h]; exact h2
/-- a comprehension that leaves the store -/
theorem lcGo_pure {α : Type} {kt : SG} {c : ST} {f : SE} (D : α → Dt) (p : α → Bool) (q : α → Dt) : ∀ xs : List α, (∀ w ∈ xs, ∃ r1, kt (D w) r = some r1 ∧ c r1 st = some (p w, st) ∧ (p w = true → f r1 st = some (q w, st))) → lcGo kt c f r (xs.map D) st = some ((xs.filter p).map q, st)
  | [], _ => rfl
  | w :: xs, h => by
    obtain ⟨r1, h1, h2, h3⟩ := h w List.mem_cons_self
    have ih := lcGo_pure D p q xs fun v hv => h v (List.mem_cons_of_mem _ hv)
    show (kt (D w) r).bind _ = _
    rw [h1]
    show (c r1 st).bind _ = _
    rw [h2]
    cases hp : p w with
    | true =>
      show (f r1 st).bind _ = _
      rw [h3 hp]
      show (lcGo kt c f r (xs.map D) st).bind _ = _
      rw [ih, List.filter_cons_of_pos hp]
      rfl
    | false =>
      show lcGo kt c f r (xs.map D) st = _
      rw [ih, List.filter_cons_of_neg (by simp [hp])]
theorem lc_pure {α : Type} {fi : SA} {own : List Nat} {kt : SG} {c : ST} {f : SE} (D : α → Dt) (p : α → Bool) (q : α → Dt) (xs : List α) (hi : fi r st = some (xs.map D, st1))
    (h : ∀ w ∈ xs, ∃ r1, kt (D w) (wipeD r own) = some r1 ∧ c r1 st1 = some (p w, st1) ∧ (p w = true → f r1 st1 = some (q w, st1))) (hl : xs.length ≤ sizeLine) : lc fi own kt c f r st = some ((xs.filter p).map q, st1) := by
  unfold lc
  rw [hi]
  show (lcGo kt c f (wipeD r own) (xs.map D) st1).bind _ = _
  rw [lcGo_pure D p q xs h]
  refine if_pos ?_
  rw [List.length_map]
  exact Nat.le_trans (List.length_filter_le _ _) hl
/-- .. without a test -/
theorem lc_map {α : Type} {fi : SA} {own : List Nat} {kt : SG} {f : SE} (D : α → Dt) (q : α → Dt) (xs : List α) (hi : fi r st = some (xs.map D, st1))
    (h : ∀ w ∈ xs, ∃ r1, kt (D w) (wipeD r own) = some r1 ∧ f r1 st1 = some (q w, st1)) (hl : xs.length ≤ sizeLine) : lc fi own kt cYes f r st = some (xs.map q, st1) := by
  have := lc_pure (c := cYes) D (fun _ => true) q xs hi (fun w hw => let ⟨r1, h1, h2⟩ := h w hw; ⟨r1, h1, rfl, fun _ => h2⟩) hl
  rw [List.filter_eq_self.mpr (by simp)] at this
  exact this
theorem b_rt {n : Nat} (h : g (startD n ds) [] = some (.rt d st1)) : bodyF g n ds [] = some (d, st1) := by unfold bodyF; rw [h]; rfl
theorem b_nx {n : Nat} (h : g (startD n ds) [] = some (.nx r st1)) : bodyF g n ds [] = some (.non, st1) := by unfold bodyF; rw [h]; rfl
theorem fV_of {F : List Dt → Sto → Option (Dt × Sto)} (h : F ds [] = some (x, st1)) (h2 : deref st1 6 x = some d) : fV F ds = some d := by unfold fV; rw [h]; exact h2
theorem deref_no {n : Nat} (h : noRef d = true) : deref st n d = some d := by
  cases n with
  | zero => unfold deref; rw [if_pos h]
  | succ n => unfold deref; rw [if_pos h]
theorem derefs_no : ∀ {n : Nat} {ds : List Dt}, noRefs ds = true → derefs st n ds = some ds
  | 0, [], _ => by unfold derefs; rfl
  | n + 1, [], _ => by unfold derefs; rfl
  | 0, d :: ds, h => by unfold derefs; rw [if_pos h]
  | n + 1, d :: ds, h => by
    have h' := h
    unfold noRefs at h'
    rw [Bool.and_eq_true] at h'
    unfold derefs
    rw [deref_no h'.1]
    show (derefs st n ds).map _ = _
    rw [derefs_no h'.2]
    rfl
theorem deref_ref {n i : Nat} (hi : st[i]? = some (some d)) (h : noRef d = true) : deref st (n + 1) (.ref i) = some d := by
  unfold deref
  rw [if_neg (by unfold noRef; simp)]
  simp only [hi]
  exact deref_no h
theorem fR_lst {F : List Dt → Sto → Option (Dt × Sto)} {i : Nat} {es : List Dt} (h : F ds [] = some (.ref i, st1)) (hi : st1[i]? = some (some (.lst es))) (hn : noRefs es = true) : fR F ds = some (.lst es) := by
  unfold fR
  rw [h]
  show (match st1[i]? with
    | some (some (.lst ds)) => (derefs (st1.set i none) 6 ds).map Dt.lst
    | some (some (.dic ks ds)) => (derefs (st1.set i none) 6 ds).map (Dt.dic ks)
    | _ => none) = _
  rw [hi]
  show (derefs (st1.set i none) 6 es).map _ = _
  rw [derefs_no hn]
  rfl
theorem fV_lst {F : List Dt → Sto → Option (Dt × Sto)} {i : Nat} {es : List Dt} (h : F ds [] = some (.ref i, st1)) (hi : st1[i]? = some (some (.lst es))) (hn : noRefs es = true) : fV F ds = some (.lst es) :=
  fV_of h (deref_ref hi (by unfold noRef; exact hn))
theorem fE_of {F : List Dt → Sto → Option (Dt × Sto)} {c c' : Dt} (h : F (.ref 0 :: ds) [some c] = some (x, st1)) (h0 : st1[0]? = some (some c')) (hn : noRef c' = true) (hx : deref (st1.set 0 none) 6 x = some d) : fE F c ds = some (d, c') := by
  unfold fE
  rw [h]
  show (match st1[0]? with
    | some (some c') => if noRef c' = true then (deref (st1.set 0 none) 6 x).map fun d => (d, c') else none
    | _ => none) = _
  rw [h0]
  show (if noRef c' = true then _ else none) = _
  rw [if_pos hn, hx]
  rfl
end
/-! plain data -/
theorem noRefs_str : ∀ l : List Str, noRefs (l.map Dt.str) = true
  | [] => by unfold noRefs; rfl
  | x :: l => by
    show noRefs (Dt.str x :: l.map Dt.str) = true
    unfold noRefs
    rw [noRefs_str l]
    unfold noRef
    rfl
theorem noRef_lstS (l : List Str) : noRef (.lst (l.map Dt.str)) = true := by unfold noRef; exact noRefs_str l
theorem strs_self (l : List Str) : strs' (l.map Dt.str) = some l := by
  have := strs_map (fun x : Str => x) l
  simpa using this
theorem strs_inv : ∀ {ds : List Dt} {l : List Str}, strs' ds = some l → ds = l.map Dt.str
  | [], _, h => by cases h; rfl
  | d :: ds, l, h => by
    cases d with
    | str x =>
      obtain ⟨m, h1, h2⟩ := Option.map_eq_some_iff.mp h
      subst h2
      rw [strs_inv h1]
      rfl
    | _ => cases h
theorem v_gI {C : Int → Int → Bool} {f : Int → Int → Int} {st : Sto} {i j : Int} (h : C i j = true) : gI C f st (.int i) (.int j) = some (.int (f i j), st) := by
  show (if C i j = true then _ else _) = _
  exact if_pos h
theorem v_le (st : Sto) (i j : Int) : gLe st (.int i) (.int j) = some (.bl (decide (i ≤ j)), st) := rfl
theorem v_leS (st : Sto) (i j : Str) : gLe st (.str i) (.str j) = some (.bl (!decide (j.cps.toList < i.cps.toList)), st) := rfl
theorem v_lenL {st : Sto} {d : Dt} {ds : List Dt} (h : d = .lst ds) : gLen st [d] = some (.int ds.length, st) := by subst h; rfl
theorem v_lenS {st : Sto} {z : Str} (h : z.length ≤ sizeLine) : gLen st [.str z] = some (.int z.length, st) := by
  show (if z.length ≤ sizeLine then _ else _) = _
  exact if_pos h
theorem v_slS {st : Sto} {z : Str} {lo hi : Option Int} (h : z.length ≤ sizeLine) : gSl st (.str z) lo hi = some (.str (cutS z lo hi)) := by
  show (if z.length ≤ sizeLine then _ else _) = _
  exact if_pos h
theorem v_ixL {st : Sto} {ds : List Dt} {i : Int} {d : Dt} (h : atI ds i = some d) : gIx st (.lst ds) (.int i) = some (d, st) := by
  show (atI ds i).map _ = _
  rw [h]; rfl
theorem v_ixS {st : Sto} {z : Str} {i : Int} {c : Nat} (hz : z.length ≤ sizeLine) (h : atI z.cps.toList i = some c) : gIx st (.str z) (.int i) = some (.str ⟨#[c]⟩, st) := by
  show (if z.length ≤ sizeLine then (atI z.cps.toList i).map _ else none) = _
  rw [if_pos hz, h]; rfl
theorem v_eqS {st : Sto} {x y : Str} : gEq st (.str x) (.str y) = some (.bl (decide (x = y)), st) := by
  show ((if scal (.str x) (.str y) = true then some (decide (V.str x = V.str y)) else none).map _) = _
  have : decide (V.str x = V.str y) = decide (x = y) := by simp
  rw [this]; rfl
theorem v_neS {st : Sto} {x y : Str} : gNe st (.str x) (.str y) = some (.bl (!decide (x = y)), st) := by
  show ((if scal (.str x) (.str y) = true then some (decide (V.str x = V.str y)) else none).map _) = _
  have : decide (V.str x = V.str y) = decide (x = y) := by simp
  rw [this]; rfl
theorem v_neI {st : Sto} {x y : Int} : gNe st (.int x) (.int y) = some (.bl (!decide (x = y)), st) := by
  show ((if scal (.int x) (.int y) = true then some (decide (V.int x = V.int y)) else none).map _) = _
  have : decide (V.int x = V.int y) = decide (x = y) := by simp
  rw [this]; rfl
theorem v_neB {st : Sto} {x y : Bool} : gNe st (.bl x) (.bl y) = some (.bl (!decide (x = y)), st) := by
  show ((if scal (.bl x) (.bl y) = true then some (decide (V.bl x = V.bl y)) else none).map _) = _
  have : decide (V.bl x = V.bl y) = decide (x = y) := by simp
  rw [this]; rfl
theorem flats_str : ∀ l : List Str, flats (l.map Dt.str) = some (l.map V.str)
  | l => by
    have := flats_map (fun x : Str => Dt.str x) (fun x => V.str x) (fun x => rfl) l
    exact this
theorem inV_str (x : Str) : ∀ l : List Str, inV (.str x) (l.map V.str) = decide (x ∈ l)
  | [] => by simp [inV]
  | y :: l => by
    have ih := inV_str x l
    unfold inV at ih ⊢
    rw [List.map_cons, List.any_cons, ih]
    have e : eqV (V.str y) (V.str x) = decide (x = y) := by
      by_cases h : x = y
      · subst h; simp [eqV]
      · have h' : ¬ y = x := fun z => h z.symm
        simp [eqV, h, h']
    rw [e]
    by_cases h : x = y <;> simp [h]
theorem v_inS {st : Sto} {x : Str} {l : List Str} {neg : Bool} {d : Dt} (h : asL st d = some (l.map Dt.str)) : gIn neg st (.str x) d = some (.bl (if neg then !decide (x ∈ l) else decide (x ∈ l)), st) := by
  unfold gIn inD
  rw [h]
  show ((flats (l.map Dt.str)).map _).map _ = _
  rw [flats_str]
  show some (Dt.bl (if neg = true then !(inV (.str x) (l.map V.str)) else inV (.str x) (l.map V.str)), st) = _
  rw [inV_str]
end HB

set_option Elab.async false
set_option linter.all false
set_option maxRecDepth 100000
set_option maxHeartbeats 1000000
/-! HB, part v: == and != of data with dicts. -/
namespace HB
open PySem PySem.Spec PyProof.Rows L2

def allO : List (Option Bool) → Option Bool
  | [] => some true
  | o :: os => o.bind fun b => (allO os).map fun c => b && c
def eqPl (x y : Dt) : Option Bool := (py [] 8 x).bind fun a => (py [] 8 y).bind fun b => if (SeqAt.shaped a && SeqAt.shaped b) = true then some (PyData.eqv a b) else none
/-- equal or not, data without live objects -/
def eqQ : Nat → Dt → Dt → Option Bool
  | 0, _, _ => none
  | n + 1, x, y => match x, y with
    | .lst xs, .lst ys => if xs.length = ys.length then allO (List.zipWith (eqQ n) xs ys) else some false
    | .dic ks xs, .dic ls ys => if ks.Nodup ∧ ks.length = xs.length ∧ ls.length = ys.length then (if ks.length = ls.length then allO ((ks.zip xs).map fun p => match pGet p.1 ls ys with
        | none => some false
        | some y => eqQ n p.2 y) else some false) else none
    | x, y => eqPl x y
theorem allO_of : ∀ {os : List (Option Bool)} {b : Bool}, allO os = some b → ∃ cs : List Bool, os = cs.map some ∧ b = cs.all id
  | [], b, h => by cases h; exact ⟨[], rfl, rfl⟩
  | o :: os, b, h => by
    obtain ⟨c, h1, h2⟩ := bind_some' h
    obtain ⟨d, h3, h4⟩ := Option.map_eq_some_iff.mp h2
    obtain ⟨cs, h5, h6⟩ := allO_of h3
    exact ⟨c :: cs, by rw [h1, h5]; rfl, by rw [← h4, h6]; rfl⟩
theorem allO_map : ∀ cs : List Bool, allO (cs.map some) = some (cs.all id)
  | [] => rfl
  | c :: cs => by
    show ((allO (cs.map some)).map fun d => c && d) = _
    rw [allO_map cs]; rfl
theorem pGet_mem {α : Type} : ∀ {ks : List Key} {xs : List α}, ks.Nodup → ∀ p ∈ ks.zip xs, pGet p.1 ks xs = some p.2
  | [], xs, _, p, h => by simp at h
  | k :: ks, [], _, p, h => by simp at h
  | k :: ks, x :: xs, nd, p, h => by
    rw [List.zip_cons_cons] at h
    rw [List.nodup_cons] at nd
    rcases List.mem_cons.mp h with e | h
    · subst e; simp [pGet]
    · have hm : p.1 ∈ ks := (List.of_mem_zip (a := p.1) (b := p.2) h).1
      have hne : ¬ k = p.1 := fun z => nd.1 (z ▸ hm)
      have ih := pGet_mem nd.2 p h
      simp [pGet, hne, ih]
theorem eqPl_refl {x : Dt} {b : Bool} (h : eqPl x x = some b) : b = true := by
  obtain ⟨a, h1, h2⟩ := bind_some' h
  obtain ⟨c, h3, h4⟩ := bind_some' h2
  rw [h1] at h3
  cases h3
  split at h4
  · rename_i hs
    cases h4
    rw [Bool.and_eq_true] at hs
    exact SeqAt.eqv_refl a (SeqAt.canLay_of_shaped hs.1)
  · cases h4
theorem eqQ_refl : ∀ (n : Nat) (x : Dt) (b : Bool), eqQ n x x = some b → b = true
  | 0, _, _, h => by cases h
  | n + 1, x, b, h => by
    have ih := eqQ_refl n
    cases x with
    | lst ys =>
      unfold eqQ at h
      dsimp only at h
      rw [if_pos rfl] at h
      obtain ⟨cs, h1, h2⟩ := allO_of h
      rw [h2, List.all_eq_true]
      intro c hc
      have hm : some c ∈ List.zipWith (eqQ n) ys ys := by rw [h1]; exact List.mem_map_of_mem hc
      have key : ∀ l : List Dt, some c ∈ List.zipWith (eqQ n) l l → ∃ d ∈ l, eqQ n d d = some c := by
        intro l
        induction l with
        | nil => intro z; simp at z
        | cons d l k =>
          intro z
          rw [List.zipWith_cons_cons] at z
          rcases List.mem_cons.mp z with z | z
          · exact ⟨d, by simp, z.symm⟩
          · obtain ⟨d', m, e⟩ := k z
            exact ⟨d', by simp [m], e⟩
      obtain ⟨d, _, e⟩ := key ys hm
      exact ih d c e
    | dic ks xs =>
      unfold eqQ at h
      dsimp only at h
      split at h
      · rename_i hk
        rw [if_pos rfl] at h
        obtain ⟨cs, h1, h2⟩ := allO_of h
        rw [h2, List.all_eq_true]
        intro c hc
        have hm : some c ∈ cs.map some := List.mem_map_of_mem hc
        rw [← h1] at hm
        obtain ⟨p, hp, e⟩ := List.mem_map.mp hm
        rw [pGet_mem hk.1 p hp] at e
        exact ih p.2 c e
      · cases h
    | _ => exact eqPl_refl h
section
variable {X : Cx} {pins : List (Addr × Obj)} {s1 : L2.St} {H : Hp} {s : Shared} {L : List Addr} {B : Addr → Prop}
theorem pyD {d : Dt} {p : PyData} {v : V} {K : PySem.W.Frag} (hn : noRef d = true) (h : py [] 8 d = some p) (q : Den L B H d v) : Dp K H v p := by
  have w : Wd ([] : List (Addr × Str)) (fun _ => False) [] [] H := ⟨fun p hp => by simp at hp, rfl, fun i j a d e h => by simp at h, fun k a d h => by simp at h, fun a z => z.elim⟩
  exact py_ok (B := fun _ => False) w h ((q.anyL hn).mono fun _ z => z.elim)
theorem eqPl_ok (I : Inv X pins s1 H s) {A : Around} (hu : A.units + 64 < cLine) {dx dy : Dt} {b : Bool} {x y : V} {v u : Value} (h : eqPl dx dy = some b) (nx : noRef dx = true) (ny : noRef dy = true) (px : Den L B H dx x) (py' : Den L B H dy y) (rx : RelV x v) (ry : RelV y u) : SeqAt.EqP X.prog X.w A s v u b := by
  obtain ⟨a, h1, h2⟩ := bind_some' h
  obtain ⟨c, h3, h4⟩ := bind_some' h2
  split at h4
  · rename_i hs
    cases h4
    rw [Bool.and_eq_true] at hs
    obtain ⟨as, r1⟩ := Dp.reads I a x v (pyD (K := X.K) nx h1 px) rx
    obtain ⟨bs, r2⟩ := Dp.reads I c y u (pyD (K := X.K) ny h3 py') ry
    exact (SeqAt.eqAt_reads a c A s v u as bs r1 r2 (SeqAt.canLay_of_shaped hs.1) (SeqAt.canLay_of_shaped hs.2) (SeqAt.room_of_shaped hs.1 hu)).eqP
  · cases h4
theorem hitsQ {A : Around} {n : Nat} {ls : List Key} {ys : List Dt} {us : List V} {vb : List (Key × Value)} (ih : ∀ dx dy b, eqQ n dx dy = some b → noRef dx = true → noRef dy = true → ∀ x y v u, Den L B H dx x → Den L B H dy y → RelV x v → RelV y u → SeqAt.EqP X.prog X.w A s v u b)
    (ny : noRefs ys = true) (ey : Dens L B H ys us) (el : ls.length = us.length) (rb : KV (ls.zip us) vb) : ∀ (ks : List Key) (xs : List Dt) (vs : List V) (va : List (Key × Value)) (r : Bool), ks.length = vs.length → noRefs xs = true → Dens L B H xs vs → KV (ks.zip vs) va →
    allO ((ks.zip xs).map fun p => match pGet p.1 ls ys with
      | none => some false
      | some y => eqQ n p.2 y) = some r → PySem.W.KeqHitsP X.prog X.w A s vb va r
  | [], xs, vs, va, r, _, _, _, ra, h => by
    cases ra
    cases h
    exact .nil
  | k :: ks, [], vs, va, r, hl, _, d, ra, h => by
    unfold Dens at d
    subst d
    simp at hl
  | k :: ks, x :: xs, vs, va, r, hl, nx, d, ra, h => by
    obtain ⟨v, vs', rfl, pv, d'⟩ := d.uncons
    unfold noRefs at nx
    rw [Bool.and_eq_true] at nx
    rw [List.zip_cons_cons] at ra h
    cases ra with
    | @cons _ q _ qs h1 h2 =>
    obtain ⟨e1, e2⟩ := h1
    obtain ⟨qk, qv⟩ := q
    have e1' : k = qk := e1
    subst e1'
    rw [List.map_cons] at h
    obtain ⟨b, h3, h4⟩ := bind_some' h
    obtain ⟨c, h5, h6⟩ := Option.map_eq_some_iff.mp h4
    have rest := hitsQ ih ny ey el rb ks xs vs' qs c (by simpa using hl) nx.2 d' h2 h5
    have rr : RelO (pGet k ls us) (valueAt vb k) := by rw [← pGet_val]; exact rb.val k
    dsimp only at h3
    rcases ey.pGet k (ks := ls) with ⟨z1, z2⟩ | ⟨dy, y, z1, z2, py'⟩
    · rw [z1] at h3
      cases h3
      rw [z2] at rr
      have hn : valueAt vb k = none := by
        cases q : valueAt vb k with
        | none => rfl
        | some z => rw [q] at rr; exact rr.elim
      rw [← h6]
      exact .miss hn
    · rw [z1] at h3
      rw [z2] at rr
      obtain ⟨w, hw, rw'⟩ := rr.some_of
      rw [← h6]
      refine .hit hw (ih x dy b h3 nx.1 ?_ v y qv w pv py' e2 rw') rest
      have : ∀ {ls : List Key} {ys : List Dt}, noRefs ys = true → pGet k ls ys = some dy → noRef dy = true := by
        intro ls
        induction ls with
        | nil => intro ys _ z; cases ys <;> simp [pGet] at z
        | cons l ls g =>
          intro ys nn z
          cases ys with
          | nil => simp [pGet] at z
          | cons y ys =>
            unfold noRefs at nn
            rw [Bool.and_eq_true] at nn
            by_cases hk : l = k
            · simp [pGet, hk] at z
              exact z ▸ nn.1
            · simp [pGet, hk] at z
              exact g nn.2 z
      exact this ny z1
/-- the items of two lists -/
theorem itemsQ {A : Around} {n : Nat} (ih : ∀ dx dy b, eqQ n dx dy = some b → noRef dx = true → noRef dy = true → ∀ x y v u, Den L B H dx x → Den L B H dy y → RelV x v → RelV y u → SeqAt.EqP X.prog X.w A s v u b) :
    ∀ (xs ys : List Dt) (vs us : List V) (va vb : List Value) (cs : List Bool), noRefs xs = true → noRefs ys = true → Dens L B H xs vs → Dens L B H ys us → Vals vs va → Vals us vb → List.zipWith (eqQ n) xs ys = cs.map some → ∀ j (h1 : j < va.length) (h2 : j < vb.length), SeqAt.EqP X.prog X.w A s va[j] vb[j] (cs.getD j true)
  | [], ys, vs, us, va, vb, cs, _, _, dx, dy, ra, rb, e, j, h1, h2 => by
    unfold Dens at dx
    subst dx
    cases ra
    simp at h1
  | x :: xs, [], vs, us, va, vb, cs, _, _, dx, dy, ra, rb, e, j, h1, h2 => by
    unfold Dens at dy
    subst dy
    cases rb
    simp at h2
  | x :: xs, y :: ys, vs, us, va, vb, cs, nx, ny, dx, dy, ra, rb, e, j, h1, h2 => by
    obtain ⟨v, vs', rfl, pv, dx'⟩ := dx.uncons
    obtain ⟨u, us', rfl, pu, dy'⟩ := dy.uncons
    unfold noRefs at nx ny
    rw [Bool.and_eq_true] at nx ny
    rw [List.zipWith_cons_cons] at e
    cases ra with
    | cons a1 b1 =>
    cases rb with
    | cons a2 b2 =>
    cases cs with
    | nil => simp at e
    | cons c cs =>
    rw [List.map_cons] at e
    injection e with e1 e2
    cases j with
    | zero => exact ih x y c e1 nx.1 ny.1 v u _ _ pv pu a1 a2
    | succ j => exact itemsQ ih xs ys vs' us' _ _ cs nx.2 ny.2 dx' dy' b1 b2 e2 j (Nat.lt_of_succ_lt_succ h1) (Nat.lt_of_succ_lt_succ h2)
theorem all_getD : ∀ cs : List Bool, ((List.range cs.length).all fun j => cs.getD j true) = cs.all id
  | [] => rfl
  | c :: cs => by
    rw [List.length_cons, List.range_succ_eq_map, List.all_cons, List.all_map, List.all_cons, ← all_getD cs]
    rfl
/-! != of lists, of dicts -/
section
variable {prog : Program} {w : World}
open AutoSeq1 (wpAny_loadPart')
open MeetsSeq MeetsSeq2 MeetsSeq3 SeqRoads2 SeqAt
theorem neQ_loop (l b : Addr) (xs ys : Array Value) (n m : Nat) (dd de : Option Addr) (sl se : Array (Option Value)) (hsz : xs.size = ys.size) (e : Nat → Bool) (k : Nat) : ∀ i : Nat, xs.size - i = k → MeetsIn prog w (Builtin.«list.__eq__.loop» ⟨[.ref l, .ref b, rawInt i, rawInt 3], []⟩)
    (fun A R s => s.heap.get? l = some { cls := .type "list", dict := dd, data := .seq xs n, slots := sl } ∧ s.heap.get? b = some { cls := .type "list", dict := de, data := .seq ys m, slots := se } ∧ (∀ j (h1 : j < xs.size) (h2 : j < ys.size), EqP prog w A.in1 s xs[j] ys[j] (e j)) ∧ R (.ok (.ret (.bool (!((List.range xs.size).drop i).all e)))) s) := by
  induction k with
  | zero =>
    intro i hk A R s h
    obtain ⟨hp, g, d, tk, os⟩ := s; obtain ⟨hl, hb, he, h⟩ := h
    wp_walk using wpAny_loadPart' hl, wpAny_loadPart' hb
    have x1 : xs[((i : Nat) : Int).toNat]? = none := by simp; omega
    have x2 : ys[((i : Nat) : Int).toNat]? = none := by simp; omega
    have x3 : (List.range xs.size).drop i = [] := by simp; omega
    rw [x3] at h
    rw [x1, x2]
    wp_walk using wpAny_loadPart' hl, wpAny_loadPart' hb
    show R (.ok (.ret (.bool (xs.size != ys.size)))) _
    rw [hsz]
    simpa using h
  | succ k ih =>
    intro i hk A R s h
    obtain ⟨hp, g, d, tk, os⟩ := s; obtain ⟨hl, hb, he, h⟩ := h
    wp_walk using wpAny_loadPart' hl, wpAny_loadPart' hb
    have l1 : i < xs.size := by omega
    have l2 : i < ys.size := by omega
    have x1 : xs[((i : Nat) : Int).toNat]? = some xs[i] := by simp [l1]
    have x2 : ys[((i : Nat) : Int).toNat]? = some ys[i] := by simp [l2]
    have x3 : (List.range xs.size).drop i = i :: (List.range xs.size).drop (i + 1) := by simp [List.drop_eq_getElem_cons, l1]
    have x4 : ((i : Int) + 1) = ((i + 1 : Nat) : Int) := by push_cast; rfl
    rw [x3, List.all_cons] at h
    rw [x1, x2]
    refine wpAny_bind (he i l1 l2 _ _ ?_)
    cases x5 : e i with
    | true =>
      rw [x5] at h
      wp_walk
      rw [x4]
      exact ⟨plainId_quiet plain_eq_loop _, codeAny_builtin entry_eq_loop (by rw [Around.under_plainId plain_eq_loop _]; exact ih (i + 1) (by omega) A R _ ⟨hl, hb, he, by simpa using h⟩)⟩
    | false =>
      rw [x5] at h
      wp_walk using wpAny_loadPart' hl, wpAny_loadPart' hb
      rw [x1, x2]
      wp_walk
      simpa using h
theorem neQ_list (l b : Addr) (xs ys : Array Value) (n m : Nat) (dd de : Option Addr) (sl se : Array (Option Value)) (hsz : xs.size = ys.size) (e : Nat → Bool) : MeetsIn prog w (Builtin.«list.__ne__» ⟨[.ref l, .ref b], []⟩)
    (fun A R s => s.heap.get? l = some { cls := .type "list", dict := dd, data := .seq xs n, slots := sl } ∧ s.heap.get? b = some { cls := .type "list", dict := de, data := .seq ys m, slots := se } ∧ (∀ j (h1 : j < xs.size) (h2 : j < ys.size), EqP prog w A.in1 s xs[j] ys[j] (e j)) ∧ R (.ok (.ret (.bool (!(List.range xs.size).all e)))) s) := by
  intro A R s h
  obtain ⟨hp, g, d, tk, os⟩ := s; obtain ⟨hl, hb, he, h⟩ := h
  have y1 := AutoSeq1.sub_list_list
  have y2 : ¬ (xs.size != ys.size) = true := by simp [hsz]
  wp_walk using wpAny_loadPart' hl, wpAny_loadPart' hb
  exact ⟨plainId_quiet plain_eq_loop _, codeAny_builtin entry_eq_loop (by rw [Around.under_plainId plain_eq_loop _]; exact neQ_loop l b xs ys n m dd de sl se hsz e _ 0 rfl A R _ ⟨hl, hb, he, by simpa using h⟩)⟩
theorem neQ_lists {A : Around} {s : Shared} {l b : Addr} {xs ys : Array Value} {e : Nat → Bool} (hl : s.heap.IsList l xs) (hb : s.heap.IsList b ys) (hsz : xs.size = ys.size) (hu : A.units < cLine)
    (he : ∀ j (h1 : j < xs.size) (h2 : j < ys.size), EqP prog w A.in1 s xs[j] ys[j] (e j)) (E Q : Value → Shared → Prop) (h : Q (.bool (!(List.range xs.size).all e)) s) : wpAny (model prog w) A (richCompare .NotEq (.ref l) (.ref b)) Q E s := by
  obtain ⟨⟨c1, dd, d1, sl⟩, o1, e1, n, f1⟩ := id hl
  obtain ⟨⟨c2, de, d2, se⟩, o2, e2, m, f2⟩ := id hb
  simp only at e1 f1 e2 f2
  subst e1 f1 e2 f2
  have ta : s.TypeIs (.ref l) "list" := ⟨_, o1, rfl⟩
  have tb : s.TypeIs (.ref b) "list" := ⟨_, o2, rfl⟩
  exact wpAny_richCompare_same_room (op := .NotEq) ta tb F.slot_list_ne (call_meetsIn F.slot_list_ne ta F.entry_list_ne (F.args_list_ne_2 _ _) (neQ_list l b xs ys n m dd de sl se hsz e) ⟨o1, o2, he, ⟨(fun x => nomatch x), h⟩⟩) hu
end
section
variable {prog : Program} {w : World} {κ : Type} [DecidableEq κ] {knd : KeyKind prog w κ} {A : Around} {s : Shared}
open PySem.W in
theorem neQ_dicts {a b : Addr} {ka kb : List (κ × Value)} {r : Bool} (ha : (a == sysModules) = false) (hb : (b == sysModules) = false) (da : s.heap.DictOf knd a ka) (db : s.heap.DictOf knd b kb) (hu : A.units < cLine) (hits : ka.length = kb.length → KeqHitsP prog w A.in1 s kb ka r) (E Q : Value → Shared → Prop)
    (h : Q (.bool (!(ka.length == kb.length && r))) s) : wpAny (model prog w) A (richCompare .NotEq (.ref a) (.ref b)) Q E s := by
  have ta := da.typeIs
  have tb := db.typeIs
  refine wpAny_richCompare_same_room (op := .NotEq) ta tb PySem.F.slot_dict_ne (wpAny_call_entry PySem.F.slot_dict_ne ta PySem.F.entry_dict_ne ?_ (PySem.F.args_dict_ne_2 _ _)) hu
  show wpAny _ _ (Builtin.Dict.dictSlotArgs "__ne__" _ >>= _) _ _ s
  refine wpAny_bind ?_
  unfold Builtin.Dict.dictSlotArgs
  refine wpAny_bind (wpAny_notOrdered_dict ta (by
    show wpAny _ _ (pure (Value.ref a, Value.ref b)) _ _ s
    refine wpAny_pure (wpAny_bind (wpAny_isInstance (T := "dict") tb PySem.F.sub_dict_dict ?_))
    simp only [Bool.not_true, Bool.false_eq_true, if_false]
    refine wpAny_bind (wpAny_pure (wpAny_bind (wpAny_pure (wpAny_bind (samePairsP ha hb da db hits (wpAny_pure ⟨_, rfl, ?_, ?_⟩))))))
    · exact fun x => nomatch x
    · simpa using h))
end
/-! the whole -/
theorem rcQ (I : Inv X pins s1 H s) {A : Around} {n : Nat} (hu : A.units < cLine) (ih : ∀ dx dy b, eqQ n dx dy = some b → noRef dx = true → noRef dy = true → ∀ x y v u, Den L B H dx x → Den L B H dy y → RelV x v → RelV y u → SeqAt.EqP X.prog X.w A.in1 s v u b)
    {xs ys : List Dt} {b : Bool} {x y : V} {v u : Value} (h : eqQ (n + 1) (.lst xs) (.lst ys) = some b) (nx : noRefs xs = true) (ny : noRefs ys = true) (px : Den L B H (.lst xs) x) (py' : Den L B H (.lst ys) y) (rx : RelV x v) (ry : RelV y u) :
    ∃ a c, v = .ref a ∧ u = .ref c ∧ (∀ (E Q : Value → Shared → Prop), Q (.bool b) s → wpAny (model X.prog X.w) A (richCompare .Eq v u) Q E s) ∧ (∀ (E Q : Value → Shared → Prop), Q (.bool (!b)) s → wpAny (model X.prog X.w) A (richCompare .NotEq v u) Q E s) := by
  unfold Den at px py'
  obtain ⟨a, vs, rfl, _, e1, t1⟩ := px
  obtain ⟨c, us, rfl, _, e2, t2⟩ := py'
  obtain rfl : v = Value.ref a := rx
  obtain rfl : u = Value.ref c := ry
  obtain ⟨va, r1, p1, _⟩ := I.list (SqL.of (K := X.K) e1)
  obtain ⟨vb, r2, p2, _⟩ := I.list (SqL.of (K := X.K) e2)
  have hx : xs.length = va.length := by rw [t1.len]; exact r1.length
  have hy : ys.length = vb.length := by rw [t2.len]; exact r2.length
  refine ⟨a, c, rfl, rfl, ?_⟩
  unfold eqQ at h
  dsimp only at h
  split at h
  · rename_i hl
    obtain ⟨cs, h1, h2⟩ := allO_of h
    have hc : cs.length = va.length := by
      have := congrArg List.length h1
      rw [List.length_zipWith, List.length_map] at this
      omega
    have hsz : va.toArray.size = vb.toArray.size := by simp; omega
    have it := itemsQ ih xs ys vs us va vb cs nx ny t1 t2 r1 r2 h1
    have it' : ∀ j (h1 : j < va.toArray.size) (h2 : j < vb.toArray.size), SeqAt.EqP X.prog X.w A.in1 s va.toArray[j] vb.toArray[j] (cs.getD j true) := fun j h1 h2 => by
      have z := it j (by simpa using h1) (by simpa using h2)
      simpa using z
    have eb : ((List.range va.toArray.size).all fun j => cs.getD j true) = b := by
      rw [h2, ← all_getD cs, hc]; simp
    refine ⟨fun E Q q => SeqAt.rcP_lists (e := fun j => cs.getD j true) p1.isList p2.isList hsz hu it' E Q ?_, fun E Q q => neQ_lists (e := fun j => cs.getD j true) p1.isList p2.isList hsz hu it' E Q ?_⟩
    · rw [eb]; exact q
    · rw [eb]; exact q
  · rename_i hl
    cases h
    have hne : (va.toArray.size != vb.toArray.size) = true := by simp; omega
    exact ⟨fun E Q q => SeqAt.RcAt.lists_lengths p1.isList p2.isList hne hu X.prog X.w E Q q, fun E Q q => SeqAt.RcNeAt.lists_lengths p1.isList p2.isList hne hu X.prog X.w E Q q⟩
theorem rcQd (I : Inv X pins s1 H s) {A : Around} {n : Nat} (hu : A.units < cLine) (ih : ∀ dx dy b, eqQ n dx dy = some b → noRef dx = true → noRef dy = true → ∀ x y v u, Den L B H dx x → Den L B H dy y → RelV x v → RelV y u → SeqAt.EqP X.prog X.w A.in1 s v u b)
    {ks ls : List Key} {xs ys : List Dt} {b : Bool} {x y : V} {v u : Value} (h : eqQ (n + 1) (.dic ks xs) (.dic ls ys) = some b) (nx : noRefs xs = true) (ny : noRefs ys = true) (px : Den L B H (.dic ks xs) x) (py' : Den L B H (.dic ls ys) y) (rx : RelV x v) (ry : RelV y u) :
    ∃ a c, v = .ref a ∧ u = .ref c ∧ (∀ (E Q : Value → Shared → Prop), Q (.bool b) s → wpAny (model X.prog X.w) A (richCompare .Eq v u) Q E s) ∧ (∀ (E Q : Value → Shared → Prop), Q (.bool (!b)) s → wpAny (model X.prog X.w) A (richCompare .NotEq v u) Q E s) := by
  unfold Den at px py'
  obtain ⟨a, vs, rfl, _, e1, l1, t1⟩ := px
  obtain ⟨c, us, rfl, _, e2, l2, t2⟩ := py'
  obtain rfl : v = Value.ref a := rx
  obtain rfl : u = Value.ref c := ry
  obtain ⟨_, ya, va, ra, da⟩ := e1.ok I.hok
  obtain ⟨_, yb, vb, rb, db⟩ := e2.ok I.hok
  have hx : ks.length = va.length := by have := ra.length; rw [List.length_zip] at this; omega
  have hy : ls.length = vb.length := by have := rb.length; rw [List.length_zip] at this; omega
  refine ⟨a, c, rfl, rfl, ?_⟩
  unfold eqQ at h
  dsimp only at h
  split at h
  · rename_i hk
    split at h
    · rename_i hl
      have hits := hitsQ ih ny t2 l2 rb ks xs vs va b l1 nx t1 ra h
      have el : (va.length == vb.length) = true := by simp; omega
      refine ⟨fun E Q q => PySem.W.rcP_dicts (knd := mixKind X.prog X.w) (r := b) ya yb da db hu (fun _ => hits) E Q ?_, fun E Q q => neQ_dicts (knd := mixKind X.prog X.w) (r := b) ya yb da db hu (fun _ => hits) E Q ?_⟩
      · rw [el, Bool.true_and]; exact q
      · rw [el, Bool.true_and]; exact q
    · rename_i hl
      cases h
      have el : (va.length == vb.length) = false := by simp; omega
      have no : va.length = vb.length → PySem.W.KeqHitsP X.prog X.w A.in1 s vb va true := fun z => absurd z (by omega)
      refine ⟨fun E Q q => PySem.W.rcP_dicts (knd := mixKind X.prog X.w) (r := true) ya yb da db hu no E Q ?_, fun E Q q => neQ_dicts (knd := mixKind X.prog X.w) (r := true) ya yb da db hu no E Q ?_⟩
      · rw [el]; exact q
      · rw [el]; exact q
  · cases h
theorem eqQ_ok (I : Inv X pins s1 H s) : ∀ (n : Nat) (A : Around), A.units + n + 64 < cLine → ∀ dx dy b, eqQ n dx dy = some b → noRef dx = true → noRef dy = true → ∀ x y v u, Den L B H dx x → Den L B H dy y → RelV x v → RelV y u → SeqAt.EqP X.prog X.w A s v u b
  | 0, A, hu, dx, dy, b, h, _, _, x, y, v, u, _, _, _, _ => by cases h
  | n + 1, A, hu, dx, dy, b, h, nx, ny, x, y, v, u, px, py', rx, ry => by
    have ih := eqQ_ok I n A.in1 (by show A.units + 1 + n + 64 < cLine; omega)
    have same : ∀ a : Addr, x = .ref a → y = .ref a → b = true := fun a e1 e2 => by
      subst e1; subst e2
      have := Den.one nx ny px py'
      subst this
      exact eqQ_refl _ _ _ h
    have fin : ∀ a c : Addr, v = .ref a → u = .ref c → x = .ref a → y = .ref c → (∀ (E Q : Value → Shared → Prop), Q (.bool b) s → wpAny (model X.prog X.w) A (richCompare .Eq v u) Q E s) → SeqAt.EqP X.prog X.w A s v u b := fun a c e1 e2 e3 e4 k => by
      subst e1; subst e2
      by_cases hac : a = c
      · subst hac
        rw [same a e3 e4]
        exact (SeqAt.EqAt.same _).eqP
      · exact SeqAt.eqP_refs hac k
    cases dx with
    | lst xs =>
      cases dy with
      | lst ys =>
        unfold noRef at nx ny
        obtain ⟨a, c, e1, e2, k, _⟩ := rcQ I (A := A) (by omega) ih h nx ny px py' rx ry
        unfold Den at px py'
        obtain ⟨a', vs, rfl, _⟩ := px
        obtain ⟨c', us, rfl, _⟩ := py'
        have z1 : v = .ref a' := rx
        have z2 : u = .ref c' := ry
        rw [z1] at e1; cases e1
        rw [z2] at e2; cases e2
        exact fin a c z1 z2 rfl rfl k
      | _ => exact eqPl_ok I (by omega) h nx ny px py' rx ry
    | dic ks xs =>
      cases dy with
      | dic ls ys =>
        unfold noRef at nx ny
        obtain ⟨a, c, e1, e2, k, _⟩ := rcQd I (A := A) (by omega) ih h nx ny px py' rx ry
        unfold Den at px py'
        obtain ⟨a', vs, rfl, _⟩ := px
        obtain ⟨c', us, rfl, _⟩ := py'
        have z1 : v = .ref a' := rx
        have z2 : u = .ref c' := ry
        rw [z1] at e1; cases e1
        rw [z2] at e2; cases e2
        exact fin a c z1 z2 rfl rfl k
      | _ => exact eqPl_ok I (by omega) h nx ny px py' rx ry
    | _ => exact eqPl_ok I (by omega) h nx ny px py' rx ry
end
/-- both lists or both dicts -/
def alikeD : Dt → Dt → Bool
  | .lst _, .lst _ => true
  | .dic _ _, .dic _ _ => true
  | _, _ => false
def rEqQ (neg : Bool) : R2 := fun x y H Q => ∃ (L : List Addr) (B : Addr → Prop) (dx dy : Dt) (b : Bool), noRef dx = true ∧ noRef dy = true ∧ alikeD dx dy = true ∧ eqQ 8 dx dy = some b ∧ Den L B H dx x ∧ Den L B H dy y ∧ Q (.bl (if neg then !b else b)) H
theorem op_EqQ {X : Cx} (hu : X.A.units + 80 < cLine) : OpR X (compareOp .Eq) (rEqQ false) := by
  intro pins s σ H x y v u Q I rx ry ⟨L, B, dx, dy, b, nx, ny, ha, h, px, py', q⟩
  have ih := eqQ_ok (L := L) (B := B) I 7 X.A.in1 (by show X.A.units + 1 + 7 + 64 < cLine; omega)
  cases dx with
  | lst xs =>
    cases dy with
    | lst ys =>
      unfold noRef at nx ny
      obtain ⟨a, c, e1, e2, k, _⟩ := rcQ I (A := X.A) (by omega) ih h nx ny px py' rx ry
      exact k _ _ ⟨.bl b, H, I, rfl, q⟩
    | _ => cases ha
  | dic ks xs =>
    cases dy with
    | dic ls ys =>
      unfold noRef at nx ny
      obtain ⟨a, c, e1, e2, k, _⟩ := rcQd I (A := X.A) (by omega) ih h nx ny px py' rx ry
      exact k _ _ ⟨.bl b, H, I, rfl, q⟩
    | _ => cases ha
  | _ => cases ha
theorem op_NeQ {X : Cx} (hu : X.A.units + 80 < cLine) : OpR X (compareOp .NotEq) (rEqQ true) := by
  intro pins s σ H x y v u Q I rx ry ⟨L, B, dx, dy, b, nx, ny, ha, h, px, py', q⟩
  have ih := eqQ_ok (L := L) (B := B) I 7 X.A.in1 (by show X.A.units + 1 + 7 + 64 < cLine; omega)
  cases dx with
  | lst xs =>
    cases dy with
    | lst ys =>
      unfold noRef at nx ny
      obtain ⟨a, c, e1, e2, _, k⟩ := rcQ I (A := X.A) (by omega) ih h nx ny px py' rx ry
      exact k _ _ ⟨.bl (!b), H, I, rfl, q⟩
    | _ => cases ha
  | dic ks xs =>
    cases dy with
    | dic ls ys =>
      unfold noRef at nx ny
      obtain ⟨a, c, e1, e2, _, k⟩ := rcQd I (A := X.A) (by omega) ih h nx ny px py' rx ry
      exact k _ _ ⟨.bl (!b), H, I, rfl, q⟩
    | _ => cases ha
  | _ => cases ha
/-- == and != of lists and dicts, else as before -/
def eqB (st : Sto) (x y : Dt) : Option Bool := (deref st 8 x).bind fun a => (deref st 8 y).bind fun b => if alikeD a b = true then (if noRef a = true ∧ noRef b = true then eqQ 8 a b else none) else eqD st x y
def gEqB (st : Sto) (x y : Dt) : Option (Dt × Sto) := (eqB st x y).map fun b => (.bl b, st)
def gNeB (st : Sto) (x y : Dt) : Option (Dt × Sto) := (eqB st x y).map fun b => (.bl (!b), st)
def rEqZ (K : PySem.W.Frag) : R2 := fun x y H Q => rEqA K x y H Q ∨ rEqQ false x y H Q
def rNeZ (K : PySem.W.Frag) : R2 := fun x y H Q => rNeA K x y H Q ∨ rEqQ true x y H Q
theorem op_EqZ {X : Cx} {k : Nat} (hr : Room k X.A) : OpR X (compareOp .Eq) (rEqZ X.K) := OpR.or (op_EqA hr.units) (op_EqQ (by have := hr.un; omega))
theorem op_NeZ {X : Cx} {k : Nat} (hr : Room k X.A) : OpR X (compareOp .NotEq) (rNeZ X.K) := OpR.or (op_NeA hr.units) (op_NeQ (by have := hr.un; omega))
section
variable {T : List (Addr × Str)} {K : PySem.W.Frag}
theorem vo_EqZ : VO2 T (rEqZ K) gEqB := by
  intro Z L st H x y dx dy d st' Q w hx hy h q
  obtain ⟨b, h1, h2⟩ := Option.map_eq_some_iff.mp h
  cases h2
  obtain ⟨a, e1, e2⟩ := bind_some' h1
  obtain ⟨c, e3, e4⟩ := bind_some' e2
  split at e4
  · rename_i ha
    split at e4
    · rename_i hn
      exact .inr ⟨L, Z, a, c, b, hn.1, hn.2, ha, e4, deref_ok w e1 (hx.mono fun b z => .inl z), deref_ok w e3 (hy.mono fun b z => .inl z), q _ H L (.refl w) Den.bl⟩
    · cases e4
  · exact .inl (vo_Eq Z L st H x y dx dy _ _ Q w hx hy (by unfold gEq; rw [e4]; rfl) q)
theorem vo_NeZ : VO2 T (rNeZ K) gNeB := by
  intro Z L st H x y dx dy d st' Q w hx hy h q
  obtain ⟨b, h1, h2⟩ := Option.map_eq_some_iff.mp h
  cases h2
  obtain ⟨a, e1, e2⟩ := bind_some' h1
  obtain ⟨c, e3, e4⟩ := bind_some' e2
  split at e4
  · rename_i ha
    split at e4
    · rename_i hn
      exact .inr ⟨L, Z, a, c, b, hn.1, hn.2, ha, e4, deref_ok w e1 (hx.mono fun b z => .inl z), deref_ok w e3 (hy.mono fun b z => .inl z), q _ H L (.refl w) Den.bl⟩
    · cases e4
  · exact .inl (vo_Ne Z L st H x y dx dy _ _ Q w hx hy (by unfold gNe; rw [e4]; rfl) q)
end
end HB

set_option Elab.async false
set_option linter.all false
set_option maxRecDepth 100000
set_option maxHeartbeats 1000000
/-! HB, part w: while, clear, list(d), list(d.items()), xs[::-1], dict(pairs), displays of dicts, xs * k, is None, targets of many names. -/
namespace HB
open PySem PySem.Spec PyProof.Rows L2

/-! ### dicts out of pairs -/
def pMrg {α : Type} : List Key → List α → List (Key × α) → List Key × List α
  | ks, ys, [] => (ks, ys)
  | ks, ys, p :: r => pMrg (pPut p.1 p.2 ks ys).1 (pPut p.1 p.2 ks ys).2 r
theorem pMrg_len {α : Type} : ∀ (r : List (Key × α)) (ks : List Key) (ys : List α), ks.length = ys.length → (pMrg ks ys r).1.length = (pMrg ks ys r).2.length
  | [], ks, ys, h => h
  | p :: r, ks, ys, h => pMrg_len r _ _ (pPut_len p.1 p.2 h)
theorem pMrg_zip : ∀ (r : List (Key × V)) (ks : List Key) (vs : List V), ks.length = vs.length → mergeK (ks.zip vs) r = (pMrg ks vs r).1.zip (pMrg ks vs r).2
  | [], ks, vs, h => rfl
  | p :: r, ks, vs, h => by
    show mergeK (putK (ks.zip vs) p.1 p.2) r = _
    rw [pPut_zip p.1 p.2 h]
    exact pMrg_zip r _ _ (pPut_len p.1 p.2 h)
theorem pMrg_ok {L : List Addr} {B : Addr → Prop} {H : Hp} : ∀ (ps : List Key) (ds : List Dt) (vs : List V) (ks : List Key) (xs : List Dt) (us : List V), Dens L B H ds vs → Dens L B H xs us → (pMrg ks xs (ps.zip ds)).1 = (pMrg ks us (ps.zip vs)).1 ∧ Dens L B H (pMrg ks xs (ps.zip ds)).2 (pMrg ks us (ps.zip vs)).2
  | [], ds, vs, ks, xs, us, _, h => ⟨rfl, h⟩
  | p :: ps, [], vs, ks, xs, us, d, h => by
    unfold Dens at d
    subst d
    exact ⟨rfl, h⟩
  | p :: ps, d :: ds, vs, ks, xs, us, q, h => by
    obtain ⟨v, vs', rfl, pv, t⟩ := q.uncons
    have ih := pMrg_ok ps ds vs' (pPut p d ks xs).1 (pPut p d ks xs).2 (pPut p v ks us).2 t (Dens.pPut pv p h)
    show (pMrg (pPut p d ks xs).1 (pPut p d ks xs).2 (ps.zip ds)).1 = (pMrg (pPut p v ks us).1 (pPut p v ks us).2 (ps.zip vs')).1 ∧ Dens L B H (pMrg (pPut p d ks xs).1 (pPut p d ks xs).2 (ps.zip ds)).2 (pMrg (pPut p v ks us).1 (pPut p v ks us).2 (ps.zip vs')).2
    rw [← pPut_keys p d v ks xs us]
    exact ih
/-- what a list of pairs makes -/
def pairD : Dt → Option (Key × Dt)
  | .tup [k, v] => (keyD k).map fun k => (k, v)
  | _ => none
def pairsD : List Dt → Option (List Key × List Dt)
  | [] => some ([], [])
  | d :: ds => (pairD d).bind fun p => (pairsD ds).map fun r => (p.1 :: r.1, p.2 :: r.2)
theorem pairs_ok {L : List Addr} {B : Addr → Prop} {H : Hp} {K : PySem.W.Frag} : ∀ {ds : List Dt} {vs : List V} {ks : List Key} {xs : List Dt}, Dens L B H ds vs → pairsD ds = some (ks, xs) → ∃ (as : List Addr) (us : List V), vs = as.map V.ref ∧ ks.length = us.length ∧ Dens L B H xs us ∧ Paired (fun p kv => SqT K H p [kV kv.1, kv.2]) as (ks.zip us)
  | [], vs, ks, xs, h, e => by
    unfold Dens at h
    subst h
    cases e
    exact ⟨[], [], rfl, rfl, .nil, .nil⟩
  | d :: ds, vs, ks, xs, h, e => by
    obtain ⟨v, r, rfl, q, t⟩ := h.uncons
    obtain ⟨⟨k, y⟩, e1, e2⟩ := bind_some' e
    obtain ⟨⟨ks', xs'⟩, e3, e4⟩ := Option.map_eq_some_iff.mp e2
    cases e4
    obtain ⟨as, us, rfl, hl, dn, pr⟩ := pairs_ok (K := K) t e3
    unfold pairD at e1
    split at e1
    · rename_i kd vd
      obtain ⟨k', e5, e6⟩ := Option.map_eq_some_iff.mp e1
      cases e6
      unfold Den at q
      obtain ⟨a, ws, rfl, ha, tw⟩ := q
      obtain ⟨x, y', rfl, px, py'⟩ := dens2 tw
      have ek := keyD_ok px e5
      subst ek
      exact ⟨a :: as, y' :: us, rfl, by simp [hl], .cons py' dn, .cons (SqT.of ha) pr⟩
    · cases e1
def gDictP (st : Sto) (xs : List Dt) : Option (Dt × Sto) := match xs with
  | [x] => (asL st x).bind fun ds => (pairsD ds).map fun p => (.dic (pMrg [] [] (p.1.zip p.2)).1 (pMrg [] [] (p.1.zip p.2)).2, st)
  | _ => none
def gDictPR (st : Sto) (xs : List Dt) : Option (Dt × Sto) := match xs with
  | [x] => (asL st x).bind fun ds => (pairsD ds).map fun p => (.ref st.length, st ++ [some (.dic (pMrg [] [] (p.1.zip p.2)).1 (pMrg [] [] (p.1.zip p.2)).2)])
  | _ => none
def rDictP (K : PySem.W.Frag) : List V → Hp → VK → Prop := fun xs H Q => ∃ (a : Addr) (ps : List Addr) (kvs : List (Key × V)), xs = [.ref a] ∧ SqL K H a (ps.map V.ref) ∧ Paired (fun p kv => SqT K H p [kV kv.1, kv.2]) ps kvs ∧
    ∀ p, H p = none → Q (.ref p) (upd H p (.dK (mergeK [] kvs)))
section
variable {T : List (Addr × Str)} {K : PySem.W.Frag}
theorem vo_dictP : VON T (rDictP K) gDictP := by
  intro Z L st H xs dxs d st' Q w hx h q
  unfold gDictP at h
  split at h
  · rename_i x
    obtain ⟨ds, h1, h2⟩ := bind_some' h
    obtain ⟨⟨ks, ys⟩, h3, h4⟩ := Option.map_eq_some_iff.mp h2
    cases h4
    obtain ⟨v, rfl, p⟩ := dens1 hx
    obtain ⟨a, vs, rfl, ea, t⟩ := asL_ok w p h1
    obtain ⟨as, us, rfl, hl, dn, pr⟩ := pairs_ok (K := K) t h3
    refine ⟨a, as, ks.zip us, rfl, SqL.of ea, pr, fun p np => ?_⟩
    obtain ⟨k1, k2⟩ := pMrg_ok ks ys us [] [] [] dn .nil
    have e1 : mergeK [] (ks.zip us) = (pMrg [] [] (ks.zip us)).1.zip (pMrg [] [] (ks.zip us)).2 := pMrg_zip (ks.zip us) [] [] rfl
    rw [e1]
    refine q _ _ L (.new w np) ?_
    rw [k1]
    exact .newD w np (pMrg_len _ _ _ rfl) k2
  · cases h
theorem vo_dictPR : VON T (rDictP K) gDictPR := by
  intro Z L st H xs dxs d st' Q w hx h q
  unfold gDictPR at h
  split at h
  · rename_i x
    obtain ⟨ds, h1, h2⟩ := bind_some' h
    obtain ⟨⟨ks, ys⟩, h3, h4⟩ := Option.map_eq_some_iff.mp h2
    cases h4
    obtain ⟨v, rfl, p⟩ := dens1 hx
    obtain ⟨a, vs, rfl, ea, t⟩ := asL_ok w p h1
    obtain ⟨as, us, rfl, hl, dn, pr⟩ := pairs_ok (K := K) t h3
    refine ⟨a, as, ks.zip us, rfl, SqL.of ea, pr, fun p np => ?_⟩
    obtain ⟨k1, k2⟩ := pMrg_ok ks ys us [] [] [] dn .nil
    have e1 : mergeK [] (ks.zip us) = (pMrg [] [] (ks.zip us)).1.zip (pMrg [] [] (ks.zip us)).2 := pMrg_zip (ks.zip us) [] [] rfl
    rw [e1, ← k1]
    refine q _ _ (L ++ [p]) (.newR w np ⟨_, rfl, ?_, k2⟩) ?_
    · rw [k1]; exact pMrg_len _ _ _ rfl
    · unfold Den
      exact ⟨p, by rw [← w.len]; simp, rfl⟩
  · cases h
end
/-! ### list(d), list(d.items()) -/
def keyDt : Key → Dt
  | .inl i => .int i
  | .inr x => .str x
def rListR : List V → Hp → VK → Prop := fun xs H Q => ∃ p kvs, xs = [.ref p] ∧ Rd H p (.dK kvs) ∧ ∀ q, H q = none → Q (.ref q) (upd H q (.lst (kvs.map fun kv => kV kv.1)))
theorem call_listR {X : Cx} (hc : X.calm = true) : CallR X (.type "list") rListR := by
  rintro pins s σ H _ us Q I r ⟨p, kvs, rfl, hk, q⟩
  obtain ⟨u, rfl, rx⟩ := vals1 r
  obtain rfl : u = Value.ref p := rx
  obtain ⟨z, lo, vs, rk, hd⟩ := hk.ok I.hok
  obtain ⟨ep, hat⟩ := hd.dictAt
  have hl := rk.length
  refine PySem.W.kdl_call (PySem.W.kdl_dict (knd := mixKind X.prog X.w) (kvs := vs) (ep := ep) lo) (I.ok.hd hc) hat (by omega) fun h' tk ac c' kp hS ha => ⟨.ref s.heap.objs.size, upd H s.heap.objs.size (.lst (kvs.map fun kv => kV kv.1)), I.laid kp (Nat.le_refl _) (show ObjOk X.prog X.w _ _ _ (.lst (kvs.map fun kv => kV kv.1)) from ⟨by rw [List.length_map]; exact z, ac.toList, c', ?_, by rw [Array.toArray_toList]; exact hS⟩), rfl, q _ (I.hok.fresh (Nat.le_refl _))⟩
  have el : ac.toList.length = ac.size := by simp
  refine vals_of_at (by rw [List.length_map, el, ha.1, hl]) fun j x y h1 h2 => ?_
  obtain ⟨k, y', hk', hi⟩ := ha.2 j y (by rw [← Array.getElem?_toList]; exact h2)
  obtain ⟨x', e1, _⟩ := KV.at' rk hk'
  rw [List.getElem?_map, e1] at h1
  cases h1
  exact keyIs_rel hi
def gListD (st : Sto) (xs : List Dt) : Option (Dt × Sto) := match xs with
  | [x] => (match asL st x with
    | some ds => some (.lst ds, st)
    | none => (asD st x).map fun p => (.lst (p.1.map keyDt), st))
  | _ => none
def gListDR (st : Sto) (xs : List Dt) : Option (Dt × Sto) := match xs with
  | [x] => (match asL st x with
    | some ds => some (.ref st.length, st ++ [some (.lst ds)])
    | none => (asD st x).map fun p => (.ref st.length, st ++ [some (.lst (p.1.map keyDt))]))
  | _ => none
def rListO (K : PySem.W.Frag) : List V → Hp → VK → Prop := fun xs H Q => ∃ p ys, xs = [.ref p] ∧ (SqL K H p ys ∨ SqT K H p ys) ∧ ∀ l, H l = none → Q (.ref l) (upd H l (.lst ys))
def rListA (K : PySem.W.Frag) : List V → Hp → VK → Prop := fun xs H Q => rListO K xs H Q ∨ rListR xs H Q
theorem call_listA {X : Cx} (hc : X.calm = true) : CallR X (.type "list") (rListA X.K) := CallR.or call_list_of (call_listR hc)
theorem dens_keys {L : List Addr} {B : Addr → Prop} {H : Hp} : ∀ (ks : List Key) (vs : List V), ks.length = vs.length → Dens L B H (ks.map keyDt) ((ks.zip vs).map fun kv => kV kv.1)
  | [], _, _ => .nil
  | k :: ks, [], h => by simp at h
  | k :: ks, v :: vs, h => by
    refine .cons ?_ (dens_keys ks vs (by simpa using h))
    cases k with
    | inl i => exact Den.int
    | inr x => exact Den.str
section
variable {T : List (Addr × Str)} {K : PySem.W.Frag}
theorem vo_listD : VON T (rListA K) gListD := by
  intro Z L st H xs dxs d st' Q w hx h q
  unfold gListD at h
  split at h
  · obtain ⟨v, rfl, p⟩ := dens1 hx
    split at h
    · rename_i ds hd
      cases h
      obtain ⟨a, vs, rfl, ea, t⟩ := asL_ok w p hd
      exact .inl ⟨a, vs, rfl, .inl (SqL.of ea), fun l nl => q _ _ L (.new w nl) (.newL w nl t)⟩
    · obtain ⟨⟨ks, ds⟩, h1, h2⟩ := Option.map_eq_some_iff.mp h
      cases h2
      obtain ⟨a, vs, rfl, ra, hl, t⟩ := asD_ok w p h1
      exact .inr ⟨a, _, rfl, ra, fun l nl => q _ _ L (.new w nl) (.newL w nl (dens_keys ks vs hl))⟩
  · cases h
theorem vo_listDR : VON T (rListA K) gListDR := by
  intro Z L st H xs dxs d st' Q w hx h q
  have fin : ∀ (l : Addr) (ds : List Dt) (vs : List V), H l = none → Dens L (Bad Z L st) H ds vs → (∀ v H' L', Af T Z L st H L' (st ++ [some (.lst ds)]) H' → Den L' (Bad Z L' (st ++ [some (.lst ds)])) H' (.ref st.length) v → Q v H') → Q (.ref l) (upd H l (.lst vs)) := fun l ds vs nl t q => by
    refine q _ _ (L ++ [l]) (.newR w nl ⟨vs, rfl, t⟩) ?_
    unfold Den
    exact ⟨l, by rw [← w.len]; simp, rfl⟩
  unfold gListDR at h
  split at h
  · obtain ⟨v, rfl, p⟩ := dens1 hx
    split at h
    · rename_i ds hd
      cases h
      obtain ⟨a, vs, rfl, ea, t⟩ := asL_ok w p hd
      exact .inl ⟨a, vs, rfl, .inl (SqL.of ea), fun l nl => fin l ds vs nl t q⟩
    · obtain ⟨⟨ks, ds⟩, h1, h2⟩ := Option.map_eq_some_iff.mp h
      cases h2
      obtain ⟨a, vs, rfl, ra, hl, t⟩ := asD_ok w p h1
      exact .inr ⟨a, _, rfl, ra, fun l nl => fin l _ _ nl (dens_keys ks vs hl) q⟩
  · cases h
end
/-- list(e.items()) -/
def rItR : V → Hp → VK → Prop := fun x H Q => ∃ (d : Addr) (kvs : List (Key × V)), x = .ref d ∧ Rd H d (.dK kvs) ∧
  ∀ (H' : Hp) (p : Addr) (ts : List Addr), (∀ b o, H b = some o → H' b = some o) → H p = none → (∀ t ∈ ts, H t = none) → p ∉ ts → H' p = some (.lst (ts.map V.ref)) → Paired (fun (t : Addr) (q : Key × V) => H' t = some (.tup [kV q.1, q.2])) ts kvs → Q (.ref p) H'
def tItR (te : TE) : TE := fun σ H Q => te σ H fun x H1 => rItR x H1 Q
theorem pe_itR {X : Cx} {e : Expr} {te : TE} {p ap cp pos : Pos} (hc : X.calm = true) (he : PE X e te) (hg : Gl X "list") (hm : X.mg "list" = none) (hb : attributeBase e "items" X.env (eval e X.env) = eval e X.env := by rfl) (hl : (ap.endLine == cp.line) = true := by rfl)
    (hs : starEach [.Call (.Attribute e "items" ap) [] [] cp] X.env = (false, eval (.Call (.Attribute e "items" ap) [] [] cp) X.env) :: starEach [] X.env := by rfl) :
    PE X (.Call (.Name "list" p) [.Call (.Attribute e "items" ap) [] [] cp] [] pos) (tItR te) := by
  constructor
  intro pins s σ H Q I hq
  refine wpAny_Call_Name_kw (ld_blt I hg hm boot_list (PyProof.Rows.callWith_type1 ?_ hs rfl))
  rw [hs]
  refine Calls.spliced_cons (wpAny_Call_method (T := "dict") (id := "dict.items") hb rfl hl F.plainAttrs_dict F.slot_dict_items F.type_dict_items (thn (he.run pins s σ H _ I hq) ?_))
  rintro u s1 ⟨x, H1, I1, rx, d, kvs, rfl, hd, q⟩
  obtain rfl : u = Value.ref d := rx
  obtain ⟨hz, hs0, vs, kv, hdo⟩ := hd.ok I1.hok
  obtain ⟨ep, hat⟩ := hdo.dictAt
  have lk := kv.length
  have I2 : Inv X pins σ H1 { s1 with heap := s1.heap.push { cls := .type "dict_items", data := .fields #[.ref d] } } := I1.kept (t' := s1.toks) fun _ _ q => Heap.get?_push_of_some _ q
  refine ⟨hdo.typeIs, hdo.mapOf.noDict, ?_⟩
  show wpAny _ _ (callWith cp (.builtin "dict.items") _ [] []) _ X.xe s1
  refine method_meetsIn F.slot_dict_items F.entry_dict_items rfl (PySem.evalArgs_none ⟨rfl, hdo.typeIs, F.args_dict_items_1 _, _, meets_dict_items (mixKind X.prog X.w) d hs0, ⟨vs, hdo⟩, Calls.spliced_nil ?_⟩)
  refine PySem.W.kdx_call (knd := mixKind X.prog X.w) (kvs := vs) (ep := ep) (I1.ok.hd hc) ⟨_, Heap.get?_push_size _ rfl, rfl, rfl⟩ (hat.push _) (by omega) fun h' tk ac c as hk hS hl hG ha => ?_
  obtain ⟨H', k1, k2, k3, k4, k5, k6, J⟩ := LiI.items_laid (tk := tk) I2 hz kv hk hS hl hG ha
  exact ⟨.ref _, H', J, rfl, q H' _ as k1 k2 k3 k4 k5 k6⟩
def itemsL (ks : List Key) (ds : List Dt) : List Dt := (ks.zip ds).map fun p => .tup [keyDt p.1, p.2]
def eItems (f : SE) : SE := fun r st => (f r st).bind fun x => (asD x.2 x.1).map fun p => (.lst (itemsL p.1 p.2), x.2)
section
variable {T : List (Addr × Str)}
theorem dens_items {L : List Addr} {B : Addr → Prop} {H H' : Hp} (hk : ∀ b o, H b = some o → H' b = some o) : ∀ (ks : List Key) (ds : List Dt) (vs : List V) (ts : List Addr), ks.length = vs.length → Dens L B H ds vs → Paired (fun (t : Addr) (q : Key × V) => H' t = some (.tup [kV q.1, q.2])) ts (ks.zip vs) → Dens L B H' (itemsL ks ds) (ts.map V.ref)
  | [], ds, vs, ts, _, _, pr => by
    cases pr
    exact .nil
  | k :: ks, [], vs, ts, hl, d, pr => by
    unfold Dens at d
    subst d
    simp at hl
  | k :: ks, x :: ds, vs, ts, hl, d, pr => by
    obtain ⟨v, vs', rfl, pv, t⟩ := d.uncons
    rw [List.zip_cons_cons] at pr
    cases pr with
    | @cons t0 _ ts' _ h1 h2 =>
      refine Dens.cons ?_ (dens_items hk ks ds vs' ts' (by simpa using hl) t h2)
      unfold Den
      refine ⟨t0, [kV k, v], rfl, h1, .cons ?_ (.cons (pv.ext hk) .nil)⟩
      cases k with
      | inl i => exact Den.int
      | inr x => exact Den.str
theorem sim_items {te : TE} {f : SE} (hf : SimE T te f) : SimE T (tItR te) (eItems f) := by
  intro Z L st H s r d st' Q w e h q
  obtain ⟨⟨dx, st1⟩, h1, h2⟩ := bind_some' h
  obtain ⟨⟨ks, ds⟩, h3, h4⟩ := Option.map_eq_some_iff.mp h2
  cases h4
  refine hf Z L st H s r dx _ _ w e h1 fun x H1 L1 f1 p1 => ?_
  obtain ⟨a, vs, rfl, ra, hl, t⟩ := asD_ok f1.wd p1 h3
  refine ⟨a, _, rfl, ra, fun H' p ts kp np nt hp ep pr => ?_⟩
  have f2 : Af T Z L1 st1 H1 L1 st1 H' := Afz.ext f1.wd kp
  refine q _ H' L1 (f1.trans f2) ?_
  unfold Den
  exact ⟨p, ts.map V.ref, rfl, f1.wd.notBad np, ep, dens_items kp ks ds vs ts hl t pr⟩
/-! ### xs[::-1] -/
def eRev (f : SE) : SE := fun r st => (f r st).bind fun x => (asL x.2 x.1).map fun ds => (.lst ds.reverse, x.2)
theorem sim_rev {te : TE} {f : SE} {K : PySem.W.Frag} (hf : SimE T te f) : SimE T (tRevL K te) (eRev f) := by
  intro Z L st H s r d st' Q w e h q
  obtain ⟨⟨dx, st1⟩, h1, h2⟩ := bind_some' h
  obtain ⟨ds, h3, h4⟩ := Option.map_eq_some_iff.mp h2
  cases h4
  refine hf Z L st H s r dx _ _ w e h1 fun x H1 L1 f1 p1 => ?_
  obtain ⟨a, vs, rfl, ea, t⟩ := asL_ok f1.wd p1 h3
  exact ⟨a, vs, rfl, SqL.of ea, fun p np => q _ _ L1 (f1.trans (.new f1.wd np)) (.newL f1.wd np t.reverse)⟩
/-! ### d.clear() -/
def eClr (f : SE) : SE := fun r st => (f r st).bind fun x => match x.1 with
  | .ref k => (match x.2[k]? with
    | some (some (.dic _ _)) => some (.non, x.2.set k (some (.dic [] [])))
    | _ => none)
  | _ => none
theorem sim_clr {te : TE} {f : SE} {K : PySem.W.Frag} (hf : SimE T te f) : SimE T (tBM0 K "dict" rDClear te) (eClr f) := by
  intro Z L st H s r d st' Q w e h q
  obtain ⟨⟨dx, st1⟩, h1, h2⟩ := bind_some' h
  refine hf Z L st H s r dx _ _ w e h1 fun x H1 L1 f1 p1 => ?_
  cases dx with
  | ref k =>
    dsimp only at h2
    split at h2
    · rename_i ks ds hk
      cases h2
      unfold Den at p1
      obtain ⟨a, ka, rfl⟩ := p1
      obtain ⟨nz, o, eo, vs, rfl, el, t⟩ := f1.wd.own k a _ ka hk
      refine ⟨.inr (.inr (.inl ⟨rfl, .inl ⟨_, eo⟩⟩)), a, _, rfl, rfl, eo, ?_⟩
      have af := Afz.wr (o := .dK []) (d' := .dic [] []) f1.wd ka hk ⟨[], rfl, rfl, .nil⟩
      exact q _ _ L1 (f1.trans af) Den.non
    · cases h2
  | _ => cases h2
/-! ### displays of dicts -/
def ePairs : List (SE × SE) → Evr → Sto → Option ((List Key × List Dt) × Sto)
  | [] => fun _ st => some (([], []), st)
  | p :: r => fun ev st => (p.1 ev st).bind fun x => (p.2 ev x.2).bind fun y => (keyD x.1).bind fun k => (ePairs r ev y.2).map fun z => ((k :: z.1.1, y.1 :: z.1.2), z.2)
def eDisp (ps : List (SE × SE)) : Evr → Sto → Option ((List Key × List Dt) × Sto) := fun ev st => (ePairs ps ev st).bind fun z => if z.1.1.length ≤ 15 then some (pMrg [] [] (z.1.1.zip z.1.2), z.2) else none
theorem pairs_run : ∀ (ps : List (SE × SE)) {Z : Addr → Prop} {L : List Addr} {st : Sto} {H : Hp} {s : L2.St} {ev : Evr} {ks : List Key} {ds : List Dt} {st' : Sto} {Q : List (V × V) → Hp → Prop}, Wd T Z L st H → EnvOk L (Bad Z L st) H ev s → ePairs ps ev st = some ((ks, ds), st') →
    (∀ vs H' L', Af T Z L st H L' st' H' → ks.length = vs.length → Dens L' (Bad Z L' st') H' ds vs → Q ((ks.zip vs).map fun kv => (kV kv.1, kv.2)) H') → tPairs (ps.map fun p => (rE T p.1, rE T p.2)) s H Q
  | [], Z, L, st, H, s, ev, ks, ds, st', Q, w, e, h, q => by
    cases h
    exact q [] H L (.refl w) rfl .nil
  | p :: ps, Z, L, st, H, s, ev, ks, ds, st', Q, w, e, h, q => by
    obtain ⟨⟨dx, st1⟩, h1, h⟩ := bind_some' h
    obtain ⟨⟨dy, st2⟩, h2, h⟩ := bind_some' h
    obtain ⟨k, h3, h⟩ := bind_some' h
    obtain ⟨⟨⟨ks', ds'⟩, st3⟩, h4, h5⟩ := Option.map_eq_some_iff.mp h
    cases h5
    refine sE Z L st H s ev dx st1 _ w e h1 fun x H1 L1 f1 p1 => ?_
    refine sE Z L1 st1 H1 s ev dy st2 _ f1.wd (e.keep f1) h2 fun y H2 L2 f2 p2 => ?_
    refine pairs_run ps f2.wd ((e.keep f1).keep f2) h4 fun vs H3 L3 f3 hl t => ?_
    have ek := keyD_ok p1 h3
    subst ek
    exact q (y :: vs) H3 L3 (f1.trans (f2.trans f3)) (by simp [hl]) (.cons (p2.keep f3) t)
theorem disp_run (ps : List (SE × SE)) {Z : Addr → Prop} {L : List Addr} {st : Sto} {H : Hp} {s : L2.St} {ev : Evr} {ks : List Key} {ds : List Dt} {st' : Sto} {Q : VK} (w : Wd T Z L st H) (e : EnvOk L (Bad Z L st) H ev s) (h : eDisp ps ev st = some ((ks, ds), st'))
    (q : ∀ D vs H' L', Afz T Z L st H (zAnd Z D) L' st' H' → H D = none → H' D = some (.dK (ks.zip vs)) → ks.length = vs.length → Dens L' (Bad (zAnd Z D) L' st') H' ds vs → Q (.ref D) H') : tDisp (ps.map fun p => (rE T p.1, rE T p.2)) s H Q := by
  obtain ⟨⟨⟨ks0, ds0⟩, st1⟩, h1, h2⟩ := bind_some' h
  split at h2
  case isFalse => cases h2
  case isTrue h15 =>
  have e2 : pMrg [] [] (ks0.zip ds0) = (ks, ds) := congrArg Prod.fst (Option.some.inj h2)
  have e3 : st1 = st' := congrArg Prod.snd (Option.some.inj h2)
  subst e3
  intro D nD
  have m1 : Afz T Z L st H (zAnd Z D) L st (upd H D (.dK [])) := Afz.mine w nD
  refine pairs_run ps m1.wd (e.keep m1) h1 fun vs H2 L2 f2 hl t => ?_
  have hD : H2 D = some (.dK []) := f2.kp D _ upd_same (fun z => by
    obtain ⟨j, d, j1, j2⟩ := z
    exact (m1.wd.own j D d j1 j2).1 (.inr rfl)) (fun ps z => by cases z)
  refine ⟨hD, ks0.zip vs, rfl, by rw [List.length_zip]; dsimp only at h15; omega, ?_⟩
  have zD : zAnd Z D D := .inr rfl
  have tD : ∀ zs, H2 D ≠ some (.tup zs) := fun zs z => by rw [hD] at z; cases z
  obtain ⟨k1, k2⟩ := pMrg_ok ks0 ds0 vs [] [] [] t .nil
  have e1 : mergeK [] (ks0.zip vs) = (pMrg [] [] (ks0.zip vs)).1.zip (pMrg [] [] (ks0.zip vs)).2 := pMrg_zip (ks0.zip vs) [] [] rfl
  have wd3 : Wd T (zAnd Z D) L2 st1 (upd H2 D (.dK (mergeK [] (ks0.zip vs)))) := f2.wd.chg zD fun u eu => by rw [hD] at eu; cases eu; exact .inr ⟨_, rfl⟩
  have fa := m1.trans f2
  refine q D _ _ L2 ⟨wd3, fa.pre, fun b u eb nl nt => ?_, fa.nw, fun b n z => ?_, fun b us eb => ?_, fa.fr, fa.zs⟩ nD (by rw [upd_same, e1, ← k1, e2]) (by rw [e2] at k1; rw [show ks = _ from k1]; exact pMrg_len _ _ _ rfl) (by rw [e2] at k2; exact k2.chg (.inl zD) tD)
  · rw [upd_ne (ne_of_none eb nD)]; exact fa.kp b u eb nl nt
  · by_cases hb : b = D
    · rw [hb, upd_same] at z; cases z
    · rw [upd_ne hb] at z; exact fa.trk b n z
  · rw [upd_ne (ne_of_none eb nD)]; exact fa.tp b us eb
theorem sim_dispV (ps : List (SE × SE)) : SimE T (tDisp (ps.map fun p => (rE T p.1, rE T p.2))) (dToV (eDisp ps)) := by
  intro Z L st H s r d st' Q w e h q
  obtain ⟨⟨⟨ks, zs⟩, st1⟩, a1, h⟩ := bind_some' h
  cases h
  refine disp_run ps w e a1 fun D vs H' L' ff nD hD hl hv => ?_
  refine q _ H' L' ff.back ?_
  unfold Den
  refine ⟨D, vs, rfl, fun z => ?_, .inl hD, hl, hv.mono bad_zAnd⟩
  rcases z with z | ⟨j, d, j1, j2⟩
  · exact w.zt D z nD
  · exact (ff.wd.own j D d j1 j2).1 (.inr rfl)
theorem sim_dispR (ps : List (SE × SE)) : SimE T (tDisp (ps.map fun p => (rE T p.1, rE T p.2))) (dToR (eDisp ps)) := by
  intro Z L st H s r d st' Q w e h q
  obtain ⟨⟨⟨ks, zs⟩, st1⟩, a1, h⟩ := bind_some' h
  cases h
  refine disp_run ps w e a1 fun D vs H' L' ff nD hD hl hv => ?_
  refine q _ H' (L' ++ [D]) (ff.claim w nD hD ⟨vs, rfl, hl, hv⟩) ?_
  unfold Den
  exact ⟨D, by rw [← ff.wd.len]; simp, rfl⟩
end
/-! ### xs * k -/
def rMulA : R2 := fun x y H Q => L2.rI CMul (fun i j => .int (i * j)) x y H Q ∨ L2.rRep x y H Q
theorem op_MulA {X : Cx} : OpR X (binaryOp .Mult) rMulA := OpR.or op_mul op_rep
def gMulA (st : Sto) (x y : Dt) : Option (Dt × Sto) := match x, y with
  | .int i, .int j => if cMul i j = true then some (.int (i * j), st) else none
  | x, .int k => (asL st x).bind fun ds => if -(2 ^ 63) ≤ k ∧ k < 2 ^ 63 ∧ ds.length * k.toNat ≤ sizeLine then some (.lst (List.replicate k.toNat ds).flatten, st) else none
  | _, _ => none
section
variable {T : List (Addr × Str)}
theorem Dens.rep {L : List Addr} {B : Addr → Prop} {H : Hp} {ds : List Dt} {vs : List V} (t : Dens L B H ds vs) : ∀ n : Nat, Dens L B H (List.replicate n ds).flatten (List.replicate n vs).flatten
  | 0 => .nil
  | n + 1 => by
    rw [List.replicate_succ, List.replicate_succ, List.flatten_cons, List.flatten_cons]
    exact t.append (Dens.rep t n)
theorem vo_MulA : VO2 T rMulA gMulA := by
  intro Z L st H x y dx dy d st' Q w hx hy h q
  unfold gMulA at h
  split at h
  · split at h
    · rename_i hc
      cases h
      exact .inl ⟨_, _, den_int hx, den_int hy, cMul_ok hc, q _ H L (.refl w) Den.int⟩
    · cases h
  · rename_i k _
    obtain ⟨ds, h1, h2⟩ := bind_some' h
    split at h2
    · rename_i hk
      cases h2
      obtain ⟨a, vs, rfl, ea, t⟩ := asL_ok w hx h1
      exact .inr ⟨a, k, vs, rfl, den_int hy, ea, hk.1, hk.2.1, by rw [← t.len]; exact hk.2.2, fun p np => q _ _ L (.new w np) (.newL w np (t.rep _))⟩
    · cases h2
  · cases h
end
/-! ### is None -/
def isNon : Dt → Bool
  | .non => true
  | _ => false
def gIsN (st : Sto) (x y : Dt) : Option (Dt × Sto) := match y with
  | .non => some (.bl (isNon x), st)
  | _ => none
def gNotN (st : Sto) (x y : Dt) : Option (Dt × Sto) := match y with
  | .non => some (.bl (!isNon x), st)
  | _ => none
section
variable {T : List (Addr × Str)}
theorem isNon_ok {L : List Addr} {B : Addr → Prop} {H : Hp} {d : Dt} {v : V} (h : Den L B H d v) : decide (v = .non) = isNon d := by
  cases d with
  | non => rw [den_non h]; rfl
  | bl b => rw [den_bl h]; rfl
  | int b => rw [den_int h]; rfl
  | str b => rw [den_str h]; rfl
  | ref k => unfold Den at h; obtain ⟨a, _, rfl⟩ := h; rfl
  | lst ds => unfold Den at h; obtain ⟨a, vs, rfl, _⟩ := h; rfl
  | tup ds => unfold Den at h; obtain ⟨a, vs, rfl, _⟩ := h; rfl
  | dic ks ds => unfold Den at h; obtain ⟨a, vs, rfl, _⟩ := h; rfl
theorem vo_isN : VO2 T (fun x y H Q => y = .non ∧ Q (.bl (decide (x = .non))) H) gIsN := by
  intro Z L st H x y dx dy d st' Q w hx hy h q
  unfold gIsN at h
  split at h
  · cases h
    exact ⟨den_non hy, by rw [isNon_ok hx]; exact q _ H L (.refl w) Den.bl⟩
  · cases h
theorem vo_notN : VO2 T (fun x y H Q => y = .non ∧ Q (.bl (!decide (x = .non))) H) gNotN := by
  intro Z L st H x y dx dy d st' Q w hx hy h q
  unfold gNotN at h
  split at h
  · cases h
    exact ⟨den_non hy, by rw [isNon_ok hx]; exact q _ H L (.refl w) Den.bl⟩
  · cases h
end
/-! ### targets of many names; x += e -/
def sAsg (k : SG) (f : SE) : SS := fun r st => (f r st).bind fun x => (k x.1 r).map fun r' => .nx r' x.2
def sPar (is : List Nat) (f : SA) : SS := fun r st => (f r st).bind fun x => if x.1.length = is.length then some (.nx ((is.zip x.1).foldl (fun r p => r.set p.1 (some p.2)) r) x.2) else none
def sAug (i : Nat) (g : Sto → Dt → Dt → Option (Dt × Sto)) (f : SE) : SS := fun r st => match r[i]? with
  | some (some d) => (f r st).bind fun y => (g y.2 d y.1).map fun z => .nx (r.set i (some z.1)) z.2
  | _ => none
section
variable {T : List (Addr × Str)}
theorem sim_asg {is : List Nat} {ta : TE} {fa : SE} {tg : TG} {k : SG} (ha : SimE T ta fa) (hg : SimG T is tg k) : SimS T (tAsg ta tg) (sAsg k fa) := by
  intro Z L st H s r o D w e h q
  obtain ⟨⟨dx, st1⟩, h1, h⟩ := bind_some' h
  obtain ⟨r', h2, h3⟩ := Option.map_eq_some_iff.mp h
  cases h3
  refine ha Z L st H s r dx st1 _ w e h1 fun v H1 L1 f1 p1 => ?_
  exact hg Z L1 st1 H1 s r v dx r' _ f1.wd (e.keep f1) p1 h2 fun s' e' _ => q s' H1 L1 f1 e'
theorem sim_par2 {i j : Nat} {ta : TA} {fa : SA} (ha : SimA T ta fa) : SimS T (tPar i j ta) (sPar [i, j] fa) := by
  intro Z L st H s r o D w e h q
  obtain ⟨⟨ds, st1⟩, h1, h⟩ := bind_some' h
  split at h
  · rename_i hl
    cases h
    refine ha Z L st H s r ds st1 _ w e h1 fun vs H1 L1 f1 p1 => ?_
    match ds, hl with
    | [x, y], _ =>
      obtain ⟨v, u, rfl, pv, pu⟩ := dens2 p1
      exact ⟨v, u, rfl, q _ H1 L1 f1 (((e.keep f1).set i pv).set j pu)⟩
  · cases h
theorem sim_par3 {i j l : Nat} {ta : TA} {fa : SA} (ha : SimA T ta fa) : SimS T (tPar3 i j l ta) (sPar [i, j, l] fa) := by
  intro Z L st H s r o D w e h q
  obtain ⟨⟨ds, st1⟩, h1, h⟩ := bind_some' h
  split at h
  · rename_i hl
    cases h
    refine ha Z L st H s r ds st1 _ w e h1 fun vs H1 L1 f1 p1 => ?_
    match ds, hl with
    | [x, y, z], _ =>
      obtain ⟨v, vs1, rfl, pv, p1⟩ := p1.uncons
      obtain ⟨u, t, rfl, pu, pt⟩ := dens2 p1
      exact ⟨v, u, t, rfl, q _ H1 L1 f1 ((((e.keep f1).set i pv).set j pu).set l pt)⟩
  · cases h
theorem sim_augI {i : Nat} {ta : TE} {fa : SE} {f : Int → Int → Int} (ha : SimE T ta fa) : SimS T (tAug i ta (ipI f)) (sAug i (gI cT f) fa) := by
  intro Z L st H s r o D w e h q
  unfold sAug at h
  split at h
  · rename_i d hd
    obtain ⟨⟨dy, st1⟩, h1, h⟩ := bind_some' h
    obtain ⟨⟨dz, st2⟩, h2, h3⟩ := Option.map_eq_some_iff.mp h
    cases h3
    obtain ⟨x, hx, px⟩ := e.2 i d hd
    refine ⟨x, hx, ha Z L st H s r dy st1 _ w e h1 fun y H1 L1 f1 p1 => ?_⟩
    cases d with
    | int a =>
      cases dy with
      | int b =>
        have h2' : (if cT a b = true then some (Dt.int (f a b), st1) else none) = some (dz, st2) := h2
        rw [if_pos rfl] at h2'
        cases h2'
        rw [den_int px, den_int p1]
        exact ⟨a, b, rfl, rfl, q _ H1 L1 f1 ((e.keep f1).set i Den.int)⟩
      | _ => cases h2
    | _ => cases h2
  · cases h
end
end HB

set_option Elab.async false
set_option linter.all false
set_option maxRecDepth 100000
set_option maxHeartbeats 1000000
/-! HB, part x: the rules of parts v and w as printed derivations use them. -/
namespace HB
open PySem PySem.Spec PyProof.Rows L2
section
variable {T : List (Addr × Str)} {X : Cx} {a b c e o : Expr} {es rest : List Expr} {fa fb fc : SE} {ga gb : ST} {fs : SA} {pos : Pos} {g k : SS}
theorem jsWh (n : Nat) {body : List Stmt} (hc : PT X c (rT T ga)) (hb : PSs X body (rS T g)) (hp : PassesOwn (model X.prog X.w) X.A X.env X.xe := by exact PassesOwn.never) : PS X (.While c body [] pos) (rS T (sWh ga g n)) := toS (ps_while hp hc hb) (sim_wh sT sS n)
theorem jClr {ap : Pos} (ho : PE X o (rE T fa)) (hb : attributeBase o "clear" X.env (eval o X.env) = eval o X.env := by rfl) (hl : (ap.endLine == pos.line) = true := by rfl) : PE X (.Call (.Attribute o "clear" ap) [] [] pos) (rE T (eClr fa)) := toE (pe_dclear ho hb hl) (sim_clr sE)
theorem call_dictQ (hc : X.calm = true) : CallR X (.type "dict") (rDictP X.K) := call_dictP hc
theorem jItems {p ap cp : Pos} (hc : X.calm = true) (hg : Gl X "list") (hm : X.mg "list" = none) (he : PE X e (rE T fa)) (hb : attributeBase e "items" X.env (eval e X.env) = eval e X.env := by rfl) (hl : (ap.endLine == cp.line) = true := by rfl)
    (hs : starEach [.Call (.Attribute e "items" ap) [] [] cp] X.env = (false, eval (.Call (.Attribute e "items" ap) [] [] cp) X.env) :: starEach [] X.env := by rfl) : PE X (.Call (.Name "list" p) [.Call (.Attribute e "items" ap) [] [] cp] [] pos) (rE T (eItems fa)) := toE (pe_itR hc he hg hm hb hl hs) (sim_items sE)
theorem jRev {k : Nat} {p1 p2 p3 : Pos} (he : PE X e (rE T fa)) : PE X (.Subscript e (.Slice none none (some (.UnaryOp .USub (.Constant (.int 1) k p1) p2)) p3) pos) (rE T (eRev fa)) := toE (pe_revL he) (sim_rev sE)
theorem jpNil : PPs X pos [] [] (([] : List (SE × SE)).map fun p => (rE T p.1, rE T p.2)) := pps_nil
theorem jpCons {k v : Expr} {ks : List (Option Expr)} {vs : List Expr} {fk fv : SE} {ps : List (SE × SE)} (hk : PE X k (rE T fk)) (hv : PE X v (rE T fv)) (hr : PPs X pos ks vs (ps.map fun p => (rE T p.1, rE T p.2))) : PPs X pos (some k :: ks) (v :: vs) (((fk, fv) :: ps).map fun p => (rE T p.1, rE T p.2)) := pps_cons hk hv hr
theorem jDispV {keys : List (Option Expr)} {values : List Expr} {ps : List (SE × SE)} (h : PPs X pos keys values (ps.map fun p => (rE T p.1, rE T p.2))) (hall : keys.all (·.isSome) = true := by rfl) (hl : keys.length = values.length := by rfl) (h0 : keys ≠ [] := by (intro z; cases z)) (h15 : keys.length ≤ 15 := by decide) :
    PE X (.Dict keys values pos) (rE T (dToV (eDisp ps))) := toE (pe_disp h hall hl h0 h15) (sim_dispV ps)
theorem jDispR {keys : List (Option Expr)} {values : List Expr} {ps : List (SE × SE)} (h : PPs X pos keys values (ps.map fun p => (rE T p.1, rE T p.2))) (hall : keys.all (·.isSome) = true := by rfl) (hl : keys.length = values.length := by rfl) (h0 : keys ≠ [] := by (intro z; cases z)) (h15 : keys.length ≤ 15 := by decide) :
    PE X (.Dict keys values pos) (rE T (dToR (eDisp ps))) := toE (pe_disp h hall hl h0 h15) (sim_dispR ps)
theorem jMulA (ha : PE X a (rE T fa)) (hb : PE X b (rE T fb)) : PE X (.BinOp a .Mult b pos) (rE T (eOp2 gMulA fa fb)) := jOp op_MulA vo_MulA ha hb
/-! targets -/
theorem sim_g3 {K : PySem.W.Frag} {i j l : Nat} : SimG T [i, j, l] (gTup K 3 (gCons (gName i) (gCons (gName j) (gCons (gName l) gNil)))) (kTup (ksCons (kName i) (ksCons (kName j) (ksCons (kName l) ksNil)))) := by
  refine sim_gtup (is := [i] ++ ([j] ++ ([l] ++ []))) (sim_gcons sim_gname (sim_gcons sim_gname (sim_gcons sim_gname sim_gnil))) fun ds r r' h => ?_
  match ds, h with
  | [_, _, _], _ => rfl
  | [], h => cases h
  | [_], h => cases h
  | [_, _], h => cases h
  | _ :: _ :: _ :: _ :: _, h => cases h
theorem sim_g4 {K : PySem.W.Frag} {i j l m : Nat} : SimG T [i, j, l, m] (gTup K 4 (gCons (gName i) (gCons (gName j) (gCons (gName l) (gCons (gName m) gNil))))) (kTup (ksCons (kName i) (ksCons (kName j) (ksCons (kName l) (ksCons (kName m) ksNil))))) := by
  refine sim_gtup (is := [i] ++ ([j] ++ ([l] ++ ([m] ++ [])))) (sim_gcons sim_gname (sim_gcons sim_gname (sim_gcons sim_gname (sim_gcons sim_gname sim_gnil)))) fun ds r r' h => ?_
  match ds, h with
  | [_, _, _, _], _ => rfl
  | [], h => cases h
  | [_], h => cases h
  | [_, _], h => cases h
  | [_, _, _], h => cases h
  | _ :: _ :: _ :: _ :: _ :: _, h => cases h
theorem jg3 {x y z : Expr} {i j l k : Nat} (hc : X.calm = true) (h1 : PG X x (gName i)) (h2 : PG X y (gName j)) (h3 : PG X z (gName l)) (hs : (assignEach [x, y, z] X.env).map (·.2) = assign x X.env :: (assignEach [y, z] X.env).map (·.2) := by rfl) (hs2 : (assignEach [y, z] X.env).map (·.2) = assign y X.env :: (assignEach [z] X.env).map (·.2) := by rfl) (hs3 : (assignEach [z] X.env).map (·.2) = assign z X.env :: (assignEach [] X.env).map (·.2) := by rfl)
    (hn : (assignEach [x, y, z] X.env).length = 3 := by rfl) (hst : (assignEach [x, y, z] X.env).findIdx? (·.1) = none := by rfl) : PG X (.Tuple [x, y, z] k pos) (gTup X.K 3 (gCons (gName i) (gCons (gName j) (gCons (gName l) gNil)))) := pg_tup hc (pgs_cons h1 (pgs_cons h2 (pgs_cons h3 pgs_nil hs3) hs2) hs) hn hst
theorem jg4 {x y z v : Expr} {i j l m k : Nat} (hc : X.calm = true) (h1 : PG X x (gName i)) (h2 : PG X y (gName j)) (h3 : PG X z (gName l)) (h4 : PG X v (gName m)) (hs : (assignEach [x, y, z, v] X.env).map (·.2) = assign x X.env :: (assignEach [y, z, v] X.env).map (·.2) := by rfl) (hs2 : (assignEach [y, z, v] X.env).map (·.2) = assign y X.env :: (assignEach [z, v] X.env).map (·.2) := by rfl) (hs3 : (assignEach [z, v] X.env).map (·.2) = assign z X.env :: (assignEach [v] X.env).map (·.2) := by rfl) (hs4 : (assignEach [v] X.env).map (·.2) = assign v X.env :: (assignEach [] X.env).map (·.2) := by rfl)
    (hn : (assignEach [x, y, z, v] X.env).length = 4 := by rfl) (hst : (assignEach [x, y, z, v] X.env).findIdx? (·.1) = none := by rfl) : PG X (.Tuple [x, y, z, v] k pos) (gTup X.K 4 (gCons (gName i) (gCons (gName j) (gCons (gName l) (gCons (gName m) gNil))))) := pg_tup hc (pgs_cons h1 (pgs_cons h2 (pgs_cons h3 (pgs_cons h4 pgs_nil hs4) hs3) hs2) hs) hn hst
/-- x, y = e -/
theorem jsAsg {tg : Expr} {tgt : TG} {kt : SG} {is : List Nat} (hk : SimG T is tgt kt) (he : PE X e (rE T fa)) (hg : PG X tg tgt) (hs : swapsWithSole [tg] e pos.line X.env = pure false := by rfl) (hw : swappedStores [tg] e X.env = pure none := by rfl) (h1 : (assignEach [tg] X.env).map (·.2) = [assign tg X.env] := by rfl) :
    PS X (.Assign [tg] e pos) (rS T (sAsg kt fa)) := toS (ps_asg he hg hs hw h1) (sim_asg sE hk)
/-- x, y = a, b -/
theorem jsPar2 {i j : Nat} {x y : Str} {px py pt : Pos} {kt k2 : Nat} {pt2 : Pos} (hc : X.calm = true) (hN : X.N.Nodup) (ha : PA X [a, b] (rA T fs)) (hi : X.N[i]? = some x := by rfl) (hj : X.N[j]? = some y := by rfl) (hij : i ≠ j := by decide) (hx : X.env.scope.names.lookup x = some .local := by rfl) (hy : X.env.scope.names.lookup y = some .local := by rfl)
    (hw : swappedStores [.Tuple [.Name x px, .Name y py] kt pt] (.Tuple [a, b] k2 pt2) X.env = pure (some [x, y]) := by rfl) (hs : swapsWithSole [.Tuple [.Name x px, .Name y py] kt pt] (.Tuple [a, b] k2 pt2) pos.line X.env = pure false := by rfl) :
    PS X (.Assign [.Tuple [.Name x px, .Name y py] kt pt] (.Tuple [a, b] k2 pt2) pos) (rS T (sPar [i, j] fs)) := toS (ps_par hc hN hi hj hij hx hy ha hw hs) (sim_par2 sA)
theorem jsPar3 {i j l : Nat} {x y z : Str} {px py pz pt : Pos} {kt k2 : Nat} {pt2 : Pos} (hc : X.calm = true) (hN : X.N.Nodup) (ha : PA X [a, b, c] (rA T fs)) (hi : X.N[i]? = some x := by rfl) (hj : X.N[j]? = some y := by rfl) (hl : X.N[l]? = some z := by rfl) (hij : i ≠ j := by decide) (hil : i ≠ l := by decide) (hjl : j ≠ l := by decide) (hx : X.env.scope.names.lookup x = some .local := by rfl) (hy : X.env.scope.names.lookup y = some .local := by rfl) (hz : X.env.scope.names.lookup z = some .local := by rfl)
    (hw : swappedStores [.Tuple [.Name x px, .Name y py, .Name z pz] kt pt] (.Tuple [a, b, c] k2 pt2) X.env = pure (some [x, y, z]) := by rfl) (hs : swapsWithSole [.Tuple [.Name x px, .Name y py, .Name z pz] kt pt] (.Tuple [a, b, c] k2 pt2) pos.line X.env = pure false := by rfl) :
    PS X (.Assign [.Tuple [.Name x px, .Name y py, .Name z pz] kt pt] (.Tuple [a, b, c] k2 pt2) pos) (rS T (sPar [i, j, l] fs)) := toS (ps_par3 hc hN hi hj hl hij hil hjl hx hy hz ha hw hs) (sim_par3 sA)
theorem jsAugP {i : Nat} {x : Str} {p2 : Pos} (hN : X.N.Nodup) (he : PE X e (rE T fa)) (hi : X.N[i]? = some x := by rfl) (hx : Loc X.env.scope x := by first | exact Or.inl rfl | exact Or.inr rfl) (hf : X.fn x = true ∨ X.env.scope.names.lookup x = some .local := by first | exact .inl rfl | exact .inr rfl) :
    PS X (.AugAssign (.Name x p2) .Add e pos) (rS T (sAug i (gI cT fun i j => i + j) fa)) := toS (ps_aug hN hi hx he ip_add hf) (sim_augI sE)
end
end HB

set_option Elab.async false
set_option linter.all false
set_option maxRecDepth 100000
set_option maxHeartbeats 1000000
/-! HB, part y: calls by keywords in one order; dict comprehensions as live objects. -/
namespace HB
open PySem PySem.Spec PyProof.Rows L2
/-- a global name that holds such a def, called by keywords in the order q -/
structure GCq (P : Program) (w : World) (K : PySem.W.Frag) (mg : Str → Option Value) (base : Heap) (k : Nat) (x : Str) (ps : List Str) (q : List Nat) (sp : Sp) : Prop where
  ex : ∃ (f : Addr) (fd : FuncData), mg x = some (.ref f) ∧ PySem.W.keepIn K (.ref f) = true ∧ GFn P w K mg base k f fd ps sp ∧
    ∀ (s : Shared) (ws : List Value), ws.length = ps.length → BindsTo s fd ⟨[], (q.map fun i => ps.getD i "").zip (q.map fun i => ws.getD i .none)⟩ (ps.zip ws)
section
variable {X : Cx} {k : Nat} {x : Str} {ps : List Str} {sp : Sp} {p pos : Pos} {e : Expr} {es : List Expr} {t : TA} {kws : List Keyword}
theorem pe_gq {q : List Nat} (c : GCq X.prog X.w X.K X.mg X.base k x ps q sp) (hr : Room k X.A) (hg : X.A.guards = some []) (gl : Gl X x) (hk : PK X kws t) (hq : q.Perm (List.range ps.length)) (hdb : (x == ("__debug__" : Str)) = false := by decide)
    (hall : (backToKw pos (keywordEach kws X.env)).all (·.1.isSome) = true := by rfl) (hks : (backToKw pos (keywordEach kws X.env)).filterMap (·.1) = q.map fun i => ps.getD i "" := by rfl)
    (hpl : ((backTo pos (starEach [] X.env)).any (·.1) || (backToKw pos (keywordEach kws X.env)).any (·.1.isNone)) = false := by rfl) : PE X (.Call (.Name x p) [] kws pos) (tGk ps.length q sp t) := by
  obtain ⟨f, fd, hm, hk', F, hb⟩ := c.ex
  constructor
  intro pins s s1 H Q I h
  refine wpAny_Call_Name_kw (ld_glob I gl hm ?_ hdb)
  refine PySem.W.callWith_KW0 (h₀ := X.base) I.ok.mod.kin hk' hall (thn (hk.run pos pins s s1 H _ I h) fun ws s2 ⟨vs, H1, I1, r, us, hl, ev, qq⟩ => ⟨I1.kIn, ?_⟩) hpl
  rw [hks]
  have hm' : ∀ i, i < us.length → ∃ j, q[j]? = some i := fun i hi => by
    have : i ∈ q := hq.mem_iff.mpr (by simp; omega)
    exact List.mem_iff_getElem?.mp this
  -- the values in the parameters' order
  have key : ∃ zs : List Value, Vals us zs ∧ ws = q.map fun i => zs.getD i .none := by
    have hex : ∀ i : Nat, ∃ z : Value, i < us.length → (RelV (us.getD i .non) z ∧ ∀ j : Nat, q[j]? = some i → ws[j]? = some z) := fun i => by
      by_cases hi : i < us.length
      · obtain ⟨j, hj⟩ := hm' i hi
        have hv : vs[j]? = some (us.getD i .non) := by rw [ev, List.getElem?_map, hj]; rfl
        obtain ⟨z, hz, rz⟩ := r.get hv
        refine ⟨z, fun _ => ⟨rz, fun j' hj' => ?_⟩⟩
        have nd : q.Nodup := hq.nodup_iff.mpr List.nodup_range
        have : j = j' := nodupIx nd hj hj'
        subst this
        exact hz
      · exact ⟨.none, fun h => absurd h hi⟩
    obtain ⟨z, hz⟩ := Classical.axiomOfChoice hex
    refine ⟨(List.range us.length).map z, ?_, ?_⟩
    · have all : ∀ (n : Nat) (us' : List V) (g : Nat → Value), us'.length = n → (∀ i, i < n → RelV (us'.getD i .non) (g i)) → Vals us' ((List.range n).map g) := by
        intro n
        induction n with
        | zero => intro us' g h1 _; rw [List.length_eq_zero_iff.mp h1]; exact .nil
        | succ n ih =>
          intro us' g h1 h2
          match us', h1 with
          | u :: us', h1 =>
            rw [List.range_succ_eq_map, List.map_cons, List.map_map]
            exact .cons (h2 0 (by omega)) (ih us' _ (by simpa using h1) fun i hi => by simpa using h2 (i + 1) (by omega))
      exact all us.length us z rfl fun i hi => (hz i hi).1
    · apply List.ext_getElem?
      intro j
      rw [List.getElem?_map]
      cases hj : q[j]? with
      | none =>
        have : q.length ≤ j := List.getElem?_eq_none_iff.mp hj
        rw [List.getElem?_eq_none]
        · rfl
        · have e1 := r.length
          have e2 : vs.length = q.length := by rw [ev, List.length_map]
          omega
      | some i =>
        have hi : i < us.length := by
          have : i ∈ q := List.mem_of_getElem? hj
          have := hq.mem_iff.mp this
          simp at this
          omega
        rw [(hz i hi).2 j hj]
        simp [hi]
  obtain ⟨zs, rz, ez⟩ := key
  have hlz : zs.length = ps.length := by rw [← rz.length]; exact hl
  rw [ez]
  exact run_g F hr hg (hb s2 zs hlz) hlz I1 rz qq
end
section
variable {T : List (Addr × Str)} {P : Program} {w : World} {K : PySem.W.Frag} {mg : Str → Option Value} {base : Heap} {x : Str} {args : Arguments} {body : List Stmt} {sc : Scope} {f : Addr} {fd : FuncData} {N ps : List Str} {k : Nat}
theorem GCq.of {sp : Sp} {q : List Nat} (F : FunD K x x args body sc [] [] f fd) (hm : mg x = some (.ref f)) (G : GFn P w K mg base k f fd ps sp)
    (h2 : ∀ (kV doc pm : Value) (an : Option Addr) (cdv ct : Value) (ws : List Value), ws.length = ps.length → bindArgs (PySem.W.fnOf x x args body sc .none kV doc pm an cdv ct) ⟨[], (q.map fun i => ps.getD i "").zip (q.map fun i => ws.getD i .none)⟩ = pure (ps.zip ws)) : GCq P w K mg base k x ps q sp := by
  refine ⟨f, fd, hm, F.kp, G, fun s ws hl => ?_⟩
  obtain ⟨oc, od, dV, kV, doc, pm, an, cdv, ct, osl, rfl, lk, hcd, hD, hK⟩ := F.ex
  rcases hD with ⟨_, rfl⟩ | ⟨e, _⟩
  · exact .of_eq (h2 kV doc pm an cdv ct ws hl)
  · exact absurd rfl e
end
section
variable {T : List (Addr × Str)} {X : Cx} {e : Expr} {fa fb : SE} {ga : ST} {fs : SA} {pos : Pos}
theorem jCallQ {k : Nat} {x : Str} {ps : List Str} {F : List Dt → Sto → Option (Dt × Sto)} {p : Pos} {kws : List Keyword} {q : List Nat} (c : GCq X.prog X.w X.K X.mg X.base k x ps q (SpF T ps.length F)) (hr : Room k X.A) (hg : X.A.guards = some []) (gl : Gl X x) (hk : PK X kws (rA T fs)) (hq : q.Perm (List.range ps.length)) (hdb : (x == ("__debug__" : Str)) = false := by decide)
    (hall : (backToKw pos (keywordEach kws X.env)).all (·.1.isSome) = true := by rfl) (hks : (backToKw pos (keywordEach kws X.env)).filterMap (·.1) = q.map fun i => ps.getD i "" := by rfl)
    (hpl : ((backTo pos (starEach [] X.env)).any (·.1) || (backToKw pos (keywordEach kws X.env)).any (·.1.isNone)) = false := by rfl) : PE X (.Call (.Name x p) [] kws pos) (rE T (eN (gFk ps.length q F) fs)) := toE (pe_gq c hr hg gl hk hq hdb hall hks hpl) (sim_gk sA hq)
theorem jDcR {kx vx tg iter : Expr} {ifs : List Expr} {scope : Scope} {own : List (Str × Nat)} {g : TG} {k : SG} {fi : SA} {is : List Nat} (hc : X.calm = true) (hN : X.N.Nodup) (hk : SimG T is g k) (hi : PI X tg iter (rI T fi)) (ok : BlkOk X.N X.env.scope scope own)
    (hg : ∀ s H C cl fp, PG (blkX X scope s H C cl fp) tg g) (ht : ∀ s H C cl fp, PTs (blkX X scope s H C cl fp) ifs (rT T ga)) (hkx : ∀ s H C cl fp, PE (blkX X scope s H C cl fp) kx (rE T fa)) (hvx : ∀ s H C cl fp, PE (blkX X scope s H C cl fp) vx (rE T fb)) (hz : ∀ i ∈ is, i ∈ own.map (·.2)) (hs : ∀ x, foldedSetIterable iter X.env x = pure x := by intro _; rfl) :
    PE X (.DictComp kx vx [⟨tg, iter, ifs, 0⟩] scope pos) (rE T (dToR (dc fi (own.map (·.2)) k ga fa fb))) := toE (pe_dc hc hN hi ok hg ht hkx hvx hs) (sim_dcR sI hk sT sE sE hz)
end
end HB

set_option Elab.async false
set_option linter.all false
set_option maxRecDepth 100000
set_option maxHeartbeats 1000000
/-! The plain theory of words and states, with no def in sight. -/
namespace HB
open PySem PySem.Spec PyProof.Rows L2
def letB (z : Str) : Bool := !decide (z.cps.toList < ("!" : Str).cps.toList) && !decide (("~" : Str).cps.toList < z.cps.toList)
def wordB (n : Nat) (w : Str) : Bool := decide (1 ≤ w.length) && (decide (w.length ≤ 7) && (w.cps.toList.all (fun c => letB ⟨#[c]⟩) && decide (w.length = n)))
def goodW (ws : List Str) : Bool := decide (1 ≤ ws.length) && (decide (ws.length ≤ 5) && (ws.all (wordB (ws.headD "").length) && decide ws.Nodup))
def ins2 (k : Str) (l : List Str) : List Str := if k ∈ l then l else l ++ [k]
def pre (w : Str) (n : Nat) : Str := ⟨(w.cps.toList.take n).toArray⟩
def preOf (w : Str) : List Str := (List.range (w.length + 1)).map (pre w)
def keysOf (ws : List Str) : List Str := (ws.flatMap preOf).foldl (fun l k => ins2 k l) []
def allSt (ws : List Str) : List Str := sortK (keysOf ws)
def lastS (z : Str) : Str := ⟨#[z.cps.toList.getLastD 0]⟩
def after (ws : List Str) (s : Str) : List Str := ((allSt ws).filter fun (o : Str) => decide (o ≠ ("" : Str)) && decide (pre o (o.length - 1) = s)).map lastS
def below (ws : List Str) (s : Str) : List Str := (allSt ws).filter fun o => decide (o.length < s.length) && Txt.endswith s o
def bigM : Int := ((10 ^ 60) ^ 60) ^ 4
def mixN (a k : Int) : Int :=
  let n := (a % 1000003 + k * k * 7919 + k) * 48271 % 2147483629
  let m := n * n % 2147483587
  m * (m + 2) % 2147483579 / 7
structure Drw where
  a : Int
  k : Nat
  b : Bool
def Drw.dt (x : Drw) : Dt := .lst [.int x.a, .int x.k, .bl x.b]
def nextN (x : Drw) : Int × Drw := if x.b = true then (x.a % 1000000, ⟨x.a / 1000000, x.k + 1, x.b⟩) else (mixN x.a (x.k + 1), ⟨x.a, x.k + 1, x.b⟩)
def signsOf (i : Nat) : Str := (["ab", "ab", "abc", "!~z"] : List Str).getD i ""
def wordOf (sg : Str) : Nat → Drw → List Nat × Drw
  | 0, x => ([], x)
  | n + 1, x => let y := nextN x; let z := wordOf sg n y.2; (sg.cps.toList.getD ((y.1 % sg.length).toNat) 0 :: z.1, z.2)
def wordsOf (sg : Str) (lg : Nat) : Nat → List Str → Drw → List Str × Drw
  | 0, l, x => (l, x)
  | n + 1, l, x => let y := wordOf sg lg x; wordsOf sg lg n (ins2 ⟨y.1.toArray⟩ l) y.2
def lawWords (most : Int) (x : Drw) : List Str × Drw :=
  let y1 := nextN x
  let y2 := nextN y1.2
  let y3 := nextN y2.2
  wordsOf (signsOf (y1.1 % 4).toNat) (1 + y2.1 % most).toNat (1 + y3.1 % 5).toNat [] y3.2
theorem line_ge : 16777216 ≤ sizeLine := by decide
structure Good (ws : List Str) (n : Nat) : Prop where
  n1 : 1 ≤ n
  n7 : n ≤ 7
  l1 : 1 ≤ ws.length
  l5 : ws.length ≤ 5
  len : ∀ w ∈ ws, w.length = n
  let_ : ∀ w ∈ ws, ∀ c ∈ w.cps.toList, letB ⟨#[c]⟩ = true
  nd : ws.Nodup
theorem good_of {ws : List Str} (h : goodW ws = true) : ∃ n, Good ws n := by
  unfold goodW at h
  simp only [Bool.and_eq_true, decide_eq_true_eq, List.all_eq_true] at h
  obtain ⟨h1, h2, h3, h4⟩ := h
  have key : ∀ w ∈ ws, 1 ≤ w.length ∧ w.length ≤ 7 ∧ (∀ c ∈ w.cps.toList, letB ⟨#[c]⟩ = true) ∧ w.length = (ws.headD "").length := fun w hw => by
    have := h3 w hw
    unfold wordB at this
    simp only [Bool.and_eq_true, decide_eq_true_eq, List.all_eq_true] at this
    exact this
  match ws, h1, h2, h4, key with
  | w :: ws, h1, h2, h4, key =>
    have k0 := key w List.mem_cons_self
    exact ⟨w.length, k0.1, k0.2.1, h1, h2, fun v hv => (key v hv).2.2.2, fun v hv => (key v hv).2.2.1, h4⟩
theorem v_toR0 {fs : SA} {r : Evr} {st : Sto} {ds : List Dt} (h : fs r st = some (ds, [])) : toR fs r st = some (.ref 0, [some (.lst ds)]) := v_toR h
theorem b_rt0 {g : SS} {n : Nat} {ds : List Dt} {st st1 : Sto} {d : Dt} (h : g (startD n ds) st = some (.rt d st1)) : bodyF g n ds st = some (d, st1) := by unfold bodyF; rw [h]; rfl
theorem hMd (i j : Int) (h : 0 < j) : cMod i j = true := by unfold cMod; exact decide_eq_true h
theorem hDv (i j : Int) (h : 0 < j ∧ j < 1073741824) : cDiv i j = true := by unfold cDiv; exact decide_eq_true h
theorem t_nT {c : ST} {r : Evr} {st st1 : Sto} (h : c r st = some (true, st1)) : cNot c r st = some (false, st1) := t_not h
theorem t_nF {c : ST} {r : Evr} {st st1 : Sto} (h : c r st = some (false, st1)) : cNot c r st = some (true, st1) := t_not h
theorem v_le3 {f : SE} {r : Evr} {st st1 : Sto} {z lo hi : Int} (h : f r st = some (.int z, st1)) (h1 : lo ≤ z) (h2 : z ≤ hi) : eChain gLe gLe (eC (.int lo)) f (eC (.int hi)) r st = some (.bl true, st1) :=
  v_chain rfl h (by rw [v_le, decide_eq_true h1]) rfl (by rw [v_le, decide_eq_true h2])
theorem v_inF {st : Sto} {x : Str} {l : List Str} {d : Dt} (h : asL st d = some (l.map Dt.str)) (hm : x ∉ l) : gIn false st (.str x) d = some (.bl false, st) := by rw [v_inS h, decide_eq_false hm]; rfl
theorem v_inT {st : Sto} {x : Str} {l : List Str} {d : Dt} (h : asL st d = some (l.map Dt.str)) (hm : x ∈ l) : gIn false st (.str x) d = some (.bl true, st) := by rw [v_inS h, decide_eq_true hm]; rfl
theorem v_ninF {st : Sto} {x : Str} {l : List Str} {d : Dt} (h : asL st d = some (l.map Dt.str)) (hm : x ∈ l) : gIn true st (.str x) d = some (.bl false, st) := by rw [v_inS h, decide_eq_true hm]; rfl
theorem v_ninT {st : Sto} {x : Str} {l : List Str} {d : Dt} (h : asL st d = some (l.map Dt.str)) (hm : x ∉ l) : gIn true st (.str x) d = some (.bl true, st) := by rw [v_inS h, decide_eq_false hm]; rfl
theorem atI_zero {α : Type} (x : α) (l : List α) : atI (x :: l) 0 = some x := by simp [atI, ixN]
theorem sIx0 (n d : Nat) : HT.sIx n d none = d := rfl
theorem cutS_pre (z : Str) (n : Nat) : cutS z none (some (n : Int)) = pre z n := by
  unfold cutS pre
  rw [sIx0, HT.sIx_nat]
  have : z.length = z.cps.toList.length := by simp [Str.length]
  congr 1
  rw [List.drop_zero, Nat.sub_zero, this, ← List.take_eq_take_min]
theorem cutL_map {α : Type} (f : α → Dt) (l : List α) (n : Nat) : cutL (l.map f) none (some (n : Int)) = (l.take n).map f := by
  unfold cutL
  rw [sIx0, HT.sIx_nat, List.drop_zero, Nat.sub_zero, ← List.take_eq_take_min, List.map_take]
theorem good_len {ws : List Str} {n : Nat} (h : Good ws n) {w : Str} (hw : w ∈ ws) : w.length ≤ sizeLine := by
  rw [h.len w hw]
  exact Nat.le_trans h.n7 (Nat.le_trans (by decide) line_ge)
abbrev WL (ws : List Str) : Dt := .lst (ws.map Dt.str)
theorem isi_str (z : Str) (st : Sto) : gIs "str" st [.str z] = some (.bl true, st) := rfl
theorem isi_lst (z : List Dt) (st : Sto) : gIs "list" st [.lst z] = some (.bl true, st) := rfl
theorem bools_all (l : List Nat) (h : ∀ c ∈ l, letB ⟨#[c]⟩ = true) : gAll [] [.lst (l.map fun c => Dt.bl (letB ⟨#[c]⟩))] = some (.bl true, []) := by
  show ((bools (l.map fun c => Dt.bl (letB ⟨#[c]⟩))).map _) = _
  rw [bools_map (fun c => letB ⟨#[c]⟩) l]
  show some (Dt.bl ((l.map fun c => letB ⟨#[c]⟩).all id), []) = _
  rw [show ((l.map fun c => letB ⟨#[c]⟩).all id) = true from by rw [List.all_map, List.all_eq_true]; exact h]
theorem ins2_mem {k x : Str} {l : List Str} : x ∈ ins2 k l ↔ x = k ∨ x ∈ l := by
  unfold ins2
  split
  · rename_i h
    exact ⟨.inr, fun z => z.elim (fun e => e ▸ h) id⟩
  · simp [or_comm]
theorem ins2_nodup {k : Str} {l : List Str} (h : l.Nodup) : (ins2 k l).Nodup := by
  unfold ins2
  split
  · exact h
  · rename_i n
    exact List.nodup_append.mpr ⟨h, by simp, fun a ha b hb e => n (by rw [List.mem_singleton.mp hb] at e; exact e ▸ ha)⟩
theorem ins2_len (k : Str) (l : List Str) : (ins2 k l).length ≤ l.length + 1 := by
  unfold ins2
  split <;> simp
theorem fold_mem {x : Str} : ∀ (ks l : List Str), x ∈ ks.foldl (fun l k => ins2 k l) l ↔ x ∈ ks ∨ x ∈ l
  | [], l => by simp
  | k :: ks, l => by
    rw [List.foldl_cons, fold_mem ks, ins2_mem]
    simp only [List.mem_cons]
    constructor
    · rintro (h | h | h)
      · exact .inl (.inr h)
      · exact .inl (.inl h)
      · exact .inr h
    · rintro ((h | h) | h)
      · exact .inr (.inl h)
      · exact .inl h
      · exact .inr (.inr h)
theorem fold_nodup : ∀ (ks l : List Str), l.Nodup → (ks.foldl (fun l k => ins2 k l) l).Nodup
  | [], l, h => h
  | k :: ks, l, h => by rw [List.foldl_cons]; exact fold_nodup ks _ (ins2_nodup h)
theorem fold_len : ∀ (ks l : List Str), (ks.foldl (fun l k => ins2 k l) l).length ≤ l.length + ks.length
  | [], l => by simp
  | k :: ks, l => by
    rw [List.foldl_cons]
    have := fold_len ks (ins2 k l)
    have := ins2_len k l
    rw [List.length_cons]
    omega
theorem pre_len (w : Str) (n : Nat) : (pre w n).length = min n w.length := by
  unfold pre
  simp [Str.length]
theorem mem_keys {ws : List Str} {x : Str} : x ∈ keysOf ws ↔ ∃ w ∈ ws, ∃ n ≤ w.length, x = pre w n := by
  unfold keysOf
  rw [fold_mem]
  simp only [List.mem_flatMap, preOf, List.mem_map, List.mem_range, List.not_mem_nil, or_false]
  constructor
  · rintro ⟨w, hw, n, hn, e⟩
    exact ⟨w, hw, n, by omega, e.symm⟩
  · rintro ⟨w, hw, n, hn, e⟩
    exact ⟨w, hw, n, by omega, e.symm⟩
theorem keys_nodup (ws : List Str) : (keysOf ws).Nodup := fold_nodup _ _ List.nodup_nil
abbrev dS (l : List Str) : Dt := .dic (l.map Sum.inr) (l.map fun _ => .bl true)
theorem pSet_true : ∀ (k : Str) (l : List Str), pSet (Sum.inr k) (Dt.bl true) (l.map (Sum.inr : Str → Key)) (l.map fun _ => .bl true) = l.map fun _ => Dt.bl true
  | _, [] => rfl
  | k, x :: l => by
    rw [List.map_cons, List.map_cons]
    show (if (Sum.inr x : Key) = Sum.inr k then Dt.bl true else Dt.bl true) :: pSet (Sum.inr k) (Dt.bl true) (l.map (Sum.inr : Str → Key)) (l.map fun _ => .bl true) = _
    rw [pSet_true k l, ite_self]
theorem put_dS (k : Str) (l : List Str) : Dt.dic (pPut (Sum.inr k) (Dt.bl true) (l.map (Sum.inr : Str → Key)) (l.map fun _ => .bl true)).1 (pPut (Sum.inr k) (Dt.bl true) (l.map (Sum.inr : Str → Key)) (l.map fun _ => .bl true)).2 = dS (ins2 k l) := by
  unfold pPut ins2
  have e : ((l.map (Sum.inr : Str → Key)).any fun j => decide (j = Sum.inr k)) = decide (k ∈ l) := by
    induction l with
    | nil => simp
    | cons x l ih =>
      rw [List.map_cons, List.any_cons, ih]
      by_cases h : x = k
      · subst h; simp
      · have h' : ¬ k = x := fun z => h z.symm
        simp [h, h']
  rw [e]
  by_cases h : k ∈ l
  · simp only [h, decide_true, if_true]
    rw [pSet_true]
  · simp only [h, decide_false, if_false]
    simp [dS]
theorem s_DP {r : Evr} {st st1 st2 st3 : Sto} {fd fk fv : SE} {v kd : Dt} {i : Nat} {k : Key} {ks : List Key} {es : List Dt} (h1 : fv r st = some (v, st1)) (h2 : fd r st1 = some (.ref i, st2)) (h3 : fk r st2 = some (kd, st3)) (h4 : st3[i]? = some (some (.dic ks es))) (hz : ks.length < sizeLine) (hk : keyD kd = some k) :
    sDP fd fk fv r st = some (.nx r (st3.set i (some (.dic (pPut k v ks es).1 (pPut k v ks es).2)))) := by
  unfold sDP
  rw [h1]
  show (fd r st1).bind _ = _
  rw [h2]
  show (fk r st2).bind _ = _
  rw [h3]
  show (match st3[i]? with
    | some (some (.dic ks ds)) => if ks.length < sizeLine then (keyD kd).map fun k => Ou.nx r (st3.set i (some (.dic (pPut k v ks ds).1 (pPut k v ks ds).2))) else none
    | _ => none) = _
  rw [h4]
  show (if ks.length < sizeLine then (keyD kd).map _ else none) = _
  rw [if_pos hz, hk]
  rfl
theorem rng_eq (n : Nat) : rngL 0 n = (List.range n).map fun i => Dt.int (0 + (i : Nat)) := rfl
theorem v_rg {f : SA} {r : Evr} {st st1 : Sto} {n : Nat} (h : f r st = some ([.int (n : Nat)], st1)) (hn : n < 1000000) : iR rg1 f r st = some ((List.range n).map fun i => Dt.int (0 + (i : Nat)), st1) := by
  refine v_iR h ?_
  simp only [rg1]
  rw [if_pos (by omega), Int.toNat_natCast]
  rfl
theorem mem_all {ws : List Str} {x : Str} : x ∈ allSt ws ↔ x ∈ keysOf ws := (List.mergeSort_perm (keysOf ws) keyLe).mem_iff
theorem all_nodup (ws : List Str) : (allSt ws).Nodup := (List.mergeSort_perm (keysOf ws) keyLe).nodup_iff.mpr (keys_nodup ws)
theorem all_len7 {ws : List Str} {n : Nat} (hg : Good ws n) {x : Str} (h : x ∈ allSt ws) : x.length ≤ 7 := by
  obtain ⟨w, hw, k, hk, rfl⟩ := mem_keys.mp (mem_all.mp h)
  have := hg.len w hw
  have := hg.n7
  have := pre_len w k
  omega
theorem all_line {ws : List Str} {n : Nat} (hg : Good ws n) {x : Str} (h : x ∈ allSt ws) : x.length ≤ sizeLine := Nat.le_trans (all_len7 hg h) (Nat.le_trans (by decide) line_ge)
theorem all_few {ws : List Str} {n : Nat} (hg : Good ws n) : (allSt ws).length ≤ 40 := by
  have e : (allSt ws).length = (keysOf ws).length := (List.mergeSort_perm (keysOf ws) keyLe).length_eq
  have h := fold_len (ws.flatMap preOf) []
  have h2 : (ws.flatMap preOf).length ≤ 8 * ws.length := by
    have : ∀ l : List Str, (∀ w ∈ l, w.length ≤ 7) → (l.flatMap preOf).length ≤ 8 * l.length := by
      intro l
      induction l with
      | nil => simp
      | cons w l ih =>
        intro h
        rw [List.flatMap_cons, List.length_append, List.length_cons]
        have := ih fun v hv => h v (by simp [hv])
        have h7 := h w (by simp)
        have : (preOf w).length = w.length + 1 := by unfold preOf; simp
        omega
    exact this ws fun w hw => by rw [hg.len w hw]; exact hg.n7
  have h5 := hg.l5
  have : (keysOf ws).length = ((ws.flatMap preOf).foldl (fun l k => ins2 k l) []).length := rfl
  rw [List.length_nil, Nat.zero_add] at h
  omega
theorem nr1 (ws : List Str) : noRefs [WL ws] = true := (Bool.and_eq_true _ _).mpr ⟨noRef_lstS ws, rfl⟩
theorem nr2 (s : Str) (ws : List Str) : noRefs [.str s, WL ws] = true := (Bool.and_eq_true _ _).mpr ⟨rfl, nr1 ws⟩
theorem nr3 (s : Str) (ws : List Str) : noRefs [WL ws, .str s] = true := (Bool.and_eq_true _ _).mpr ⟨noRef_lstS ws, rfl⟩
theorem v_neg1 {r : Evr} {st : Sto} : eNeg (eC (.int 1)) r st = some (.int (-1), st) := rfl
theorem str_len (z : Str) : z.length = z.cps.toList.length := by simp [Str.length]
theorem cutS_m1 (z : Str) : cutS z none (some (-1)) = pre z (z.length - 1) := by
  unfold cutS pre
  rw [sIx0]
  have : HT.sIx z.length z.length (some (-1)) = z.length - 1 := by
    show (if (-1 : Int) < 0 then (-1 + (z.length : Int)).toNat else min (-1 : Int).toNat z.length) = _
    rw [if_pos (by decide)]
    omega
  rw [this, List.drop_zero, Nat.sub_zero]
theorem str_ne {z : Str} (h : z ≠ ("" : Str)) : z.cps.toList ≠ [] := fun e => h (by
  cases z with
  | mk c =>
    have : c = #[] := by simpa using e
    subst this
    rfl)
theorem at_m1 {z : Str} (h : z ≠ ("" : Str)) : atI z.cps.toList (-1) = some (z.cps.toList.getLastD 0) := by
  have hne := str_ne h
  have hl : 0 < z.cps.toList.length := List.length_pos_iff.mpr hne
  unfold atI ixN
  rw [if_neg (by decide), if_pos (by omega)]
  show z.cps.toList[(-1 + (z.cps.toList.length : Int)).toNat]? = _
  have : (-1 + (z.cps.toList.length : Int)).toNat = z.cps.toList.length - 1 := by omega
  rw [this, ← List.getLast?_eq_getElem?]
  rw [List.getLast?_eq_some_getLast hne]
  congr 1
  exact (List.getLastD_eq_getLast? ..).symm ▸ (by rw [List.getLast?_eq_some_getLast hne]; rfl)
theorem put_new (k : Str) (d : Dt) (l : List Str) (h : k ∉ l) (es : List Dt) : pPut (Sum.inr k) d (l.map (Sum.inr : Str → Key)) es = ((l ++ [k]).map Sum.inr, es ++ [d]) := by
  unfold pPut
  rw [if_neg]
  · simp
  · intro z
    rw [List.any_eq_true] at z
    obtain ⟨y, hy, e⟩ := z
    obtain ⟨x, hx, rfl⟩ := List.mem_map.mp hy
    simp at e
    exact h (e ▸ hx)
theorem pGet_ix : ∀ (l : List Str) (s : Str) (f : Nat → Dt), s ∈ l → ∃ j, l[j]? = some s ∧ pGet (Sum.inr s) (l.map (Sum.inr : Str → Key)) ((List.range l.length).map f) = some (f j)
  | [], _, _, h => by simp at h
  | x :: l, s, f, h => by
    rw [List.length_cons, List.range_succ_eq_map, List.map_cons, List.map_cons, List.map_map]
    by_cases e : x = s
    · subst e
      exact ⟨0, rfl, by simp [pGet]⟩
    · obtain ⟨j, h1, h2⟩ := pGet_ix l s (f ∘ Nat.succ) ((List.mem_cons.mp h).resolve_left fun z => e z.symm)
      refine ⟨j + 1, by simpa using h1, ?_⟩
      have : pGet (Sum.inr s) (Sum.inr x :: l.map (Sum.inr : Str → Key)) (f 0 :: (List.range l.length).map (f ∘ Nat.succ)) = pGet (Sum.inr s) (l.map (Sum.inr : Str → Key)) ((List.range l.length).map (f ∘ Nat.succ)) := by
        simp [pGet, e]
      rw [this, h2]
      rfl
theorem keyLe_iff {a b : Str} : keyLe a b = true ↔ a.length < b.length ∨ (a.length = b.length ∧ strLe a b = true) := by
  unfold keyLe
  simp [Bool.or_eq_true, Bool.and_eq_true]
theorem keyLe_trans (a b c : Str) (h : keyLe a b = true) (h' : keyLe b c = true) : keyLe a c = true := by
  rw [keyLe_iff] at *
  rcases h with h | ⟨h, s⟩ <;> rcases h' with h' | ⟨h', s'⟩
  · left; omega
  · left; omega
  · left; omega
  · exact .inr ⟨by omega, strLe_trans a b c s s'⟩
theorem keyLe_total (a b : Str) : (keyLe a b || keyLe b a) = true := by
  rw [Bool.or_eq_true, keyLe_iff, keyLe_iff]
  rcases Nat.lt_trichotomy a.length b.length with h | h | h
  · exact .inl (.inl h)
  · have := strLe_total a b
    rw [Bool.or_eq_true] at this
    rcases this with t | t
    · exact .inl (.inr ⟨h, t⟩)
    · exact .inr (.inr ⟨h.symm, t⟩)
  · exact .inr (.inl h)
theorem keyLe_anti (a b : Str) (h : keyLe a b = true) (h' : keyLe b a = true) : a = b := by
  rw [keyLe_iff] at *
  rcases h with h | ⟨h, s⟩ <;> rcases h' with h' | ⟨h', s'⟩
  · omega
  · omega
  · omega
  · exact strLe_anti a b s s'
theorem all_sorted (ws : List Str) : (allSt ws).Pairwise fun a b => keyLe a b = true := List.pairwise_mergeSort keyLe_trans keyLe_total _
theorem perm_same {l m : List Str} (hl : l.Nodup) (hm : m.Nodup) (h : ∀ x, x ∈ l ↔ x ∈ m) : l.Perm m := (List.perm_ext_iff_of_nodup hl hm).mpr fun {x} => h x
theorem sorted_one {l m : List Str} (hl : l.Nodup) (hm : m.Nodup) (h : ∀ x, x ∈ l ↔ x ∈ m) (sl : l.Pairwise fun a b => keyLe a b = true) (sm : m.Pairwise fun a b => keyLe a b = true) : l = m :=
  List.Perm.eq_of_pairwise (le := fun a b => keyLe a b = true) (fun a b _ _ h1 h2 => keyLe_anti a b h1 h2) sl sm (perm_same hl hm h)
def blk (ws : List Str) (i : Nat) : List Str := sortS (setL (ws.map fun w => pre w i))
theorem blk_mem {ws : List Str} {i : Nat} {x : Str} : x ∈ blk ws i ↔ ∃ w ∈ ws, pre w i = x := by
  unfold blk
  rw [(sortS_perm _).mem_iff, setL_mem, List.mem_map]
theorem blk_nodup (ws : List Str) (i : Nat) : (blk ws i).Nodup := (sortS_perm _).nodup_iff.mpr (setL_nodup _)
theorem blk_len {ws : List Str} {n i : Nat} (hn : Good ws n) (hi : i ≤ n) {x : Str} (h : x ∈ blk ws i) : x.length = i := by
  obtain ⟨w, hw, rfl⟩ := blk_mem.mp h
  rw [pre_len, hn.len w hw]
  omega
theorem blk_few {ws : List Str} {n : Nat} (hn : Good ws n) (i : Nat) : (blk ws i).length ≤ 5 := by
  unfold blk
  have h := setL_len (ws.map fun w => pre w i)
  rw [List.length_map] at h
  rw [sortS_len]
  have := hn.l5
  omega
def lawSt (ws : List Str) (n : Nat) : List Str := (List.range (n + 1)).flatMap (blk ws)
theorem law_st {ws : List Str} {n : Nat} (hn : Good ws n) : lawSt ws n = allSt ws := by
  have mem : ∀ x, x ∈ lawSt ws n ↔ x ∈ allSt ws := fun x => by
    unfold lawSt
    rw [mem_all, mem_keys, List.mem_flatMap]
    constructor
    · rintro ⟨i, hi, h⟩
      obtain ⟨w, hw, rfl⟩ := blk_mem.mp h
      rw [List.mem_range] at hi
      exact ⟨w, hw, i, by rw [hn.len w hw]; omega, rfl⟩
    · rintro ⟨w, hw, i, hi, rfl⟩
      rw [hn.len w hw] at hi
      exact ⟨i, List.mem_range.mpr (by omega), blk_mem.mpr ⟨w, hw, rfl⟩⟩
  have lt : (List.range (n + 1)).Pairwise fun a b => ∀ x ∈ blk ws a, ∀ y ∈ blk ws b, x.length < y.length := by
    refine (List.pairwise_lt_range).imp_of_mem ?_
    intro a b ha hb hab x hx y hy
    rw [List.mem_range] at ha hb
    rw [blk_len hn (by omega) hx, blk_len hn (by omega) hy]
    exact hab
  refine sorted_one ?_ (all_nodup ws) mem ?_ (all_sorted ws)
  · unfold lawSt
    rw [List.Nodup, List.pairwise_flatMap]
    exact ⟨fun i _ => blk_nodup ws i, lt.imp fun h x hx y hy e => by have := h x hx y hy; rw [e] at this; omega⟩
  · unfold lawSt
    rw [List.pairwise_flatMap]
    refine ⟨fun i hi => ?_, lt.imp fun h x hx y hy => keyLe_iff.mpr (.inl (h x hx y hy))⟩
    rw [List.mem_range] at hi
    refine (sortS_sorted _).imp_of_mem ?_
    intro x y hx hy s
    exact keyLe_iff.mpr (.inr ⟨(blk_len hn (by omega) hx).trans (blk_len hn (by omega) hy).symm, s⟩)
theorem c_ss {f : SE} {r : Evr} {st st1 : Sto} {l : List Str} (h : f r st = some (.lst (l.map Dt.str), st1)) (hl : l.length ≤ 5) : eN gSS (aCons f aNil) r st = some (.lst ((sortS (setL l)).map Dt.str), st1) := by
  refine v_N (v_one h) ?_
  show ((strs' (l.map Dt.str)).bind fun ys => if ys.length + 1 < scanBound then _ else none) = _
  rw [strs_self]
  show (if l.length + 1 < scanBound then _ else none) = _
  rw [if_pos (by unfold scanBound; omega)]
theorem pre_toList (w : Str) (n : Nat) : (pre w n).cps.toList = w.cps.toList.take n := by unfold pre; simp
theorem pre_pre (w : Str) (k j : Nat) (h : j ≤ k) : pre (pre w k) j = pre w j := by
  refine str_ext ?_
  rw [pre_toList, pre_toList, pre_toList, List.take_take, Nat.min_eq_left h]
theorem pre_full {w : Str} {n : Nat} (h : w.length ≤ n) : pre w n = w := by
  refine str_ext ?_
  rw [pre_toList, List.take_of_length_le (by rw [← str_len]; exact h)]
theorem nonempty_iff {o : Str} : o ≠ ("" : Str) ↔ 1 ≤ o.length := by
  constructor
  · intro h
    have := List.length_pos_iff.mpr (str_ne h)
    rw [str_len]; omega
  · intro h e
    rw [e] at h
    exact absurd h (by decide)
def lawT (ws : List Str) (s : Str) : List Str := sortS (setL ((ws.filter fun w => decide (pre w s.length = s) && decide (s.length < w.length)).map fun w => pre w (s.length + 1)))
theorem lawT_mem {ws : List Str} {s o : Str} : o ∈ lawT ws s ↔ ∃ w ∈ ws, pre w s.length = s ∧ s.length < w.length ∧ o = pre w (s.length + 1) := by
  unfold lawT
  rw [(sortS_perm _).mem_iff, setL_mem, List.mem_map]
  constructor
  · rintro ⟨w, hw, rfl⟩
    rw [List.mem_filter, Bool.and_eq_true, decide_eq_true_eq, decide_eq_true_eq] at hw
    exact ⟨w, hw.1, hw.2.1, hw.2.2, rfl⟩
  · rintro ⟨w, hw, h1, h2, rfl⟩
    exact ⟨w, List.mem_filter.mpr ⟨hw, by rw [Bool.and_eq_true, decide_eq_true_eq, decide_eq_true_eq]; exact ⟨h1, h2⟩⟩, rfl⟩
theorem lawT_len {ws : List Str} {s o : Str} (h : o ∈ lawT ws s) : o.length = s.length + 1 := by
  obtain ⟨w, hw, h1, h2, rfl⟩ := lawT_mem.mp h
  rw [pre_len]; omega
theorem lawT_eq {ws : List Str} {n : Nat} (hn : Good ws n) (s : Str) : lawT ws s = (allSt ws).filter fun (o : Str) => decide (o ≠ ("" : Str)) && decide (pre o (o.length - 1) = s) := by
  refine sorted_one ((sortS_perm _).nodup_iff.mpr (setL_nodup _)) ((all_nodup ws).filter _) (fun x => ?_) ?_ ((all_sorted ws).filter _)
  · rw [List.mem_filter, Bool.and_eq_true, decide_eq_true_eq, decide_eq_true_eq, nonempty_iff, lawT_mem, mem_all, mem_keys]
    constructor
    · rintro ⟨w, hw, h1, h2, rfl⟩
      have hl : (pre w (s.length + 1)).length = s.length + 1 := by rw [pre_len]; omega
      refine ⟨⟨w, hw, s.length + 1, by omega, rfl⟩, by omega, ?_⟩
      rw [hl, pre_pre w _ _ (by omega)]
      exact h1
    · rintro ⟨⟨w, hw, k, hk, rfl⟩, h1, h2⟩
      have hl : (pre w k).length = k := by rw [pre_len]; omega
      rw [hl] at h1 h2
      rw [pre_pre w _ _ (by omega)] at h2
      have hs : s.length = k - 1 := by rw [← h2, pre_len]; omega
      refine ⟨w, hw, ?_, by omega, ?_⟩
      · rw [hs]; exact h2
      · rw [hs]
        congr 1
        omega
  · refine (sortS_sorted _).imp_of_mem ?_
    intro x y hx hy h
    exact keyLe_iff.mpr (.inr ⟨(lawT_len hx).trans (lawT_len hy).symm, h⟩)
def Sm (x : Str) : Prop := x.length ≤ 7 ∧ ∀ c ∈ x.cps.toList, c < 128
theorem letB_lt {c : Nat} (h : letB ⟨#[c]⟩ = true) : c < 128 := by
  unfold letB at h
  rw [Bool.and_eq_true] at h
  have h2 := h.2
  rw [Bool.not_eq_true', decide_eq_false_iff_not] at h2
  have e : ("~" : Str).cps.toList = [126] := by decide +kernel
  rw [e] at h2
  by_cases hc : c < 128
  · exact hc
  · exfalso
    apply h2
    show [126] < [c]
    exact List.Lex.rel (by omega)
theorem sm_word {ws : List Str} {n : Nat} (hn : Good ws n) {w : Str} (hw : w ∈ ws) : Sm w := ⟨by rw [hn.len w hw]; exact hn.n7, fun c hc => letB_lt (hn.let_ w hw c hc)⟩
theorem sm_pre {w : Str} (h : Sm w) (k : Nat) : Sm (pre w k) := ⟨by rw [pre_len]; have := h.1; omega, fun c hc => h.2 c (by rw [pre_toList] at hc; exact List.mem_of_mem_take hc)⟩
theorem sm_all {ws : List Str} {n : Nat} (hn : Good ws n) {x : Str} (h : x ∈ allSt ws) : Sm x := by
  obtain ⟨w, hw, k, hk, rfl⟩ := mem_keys.mp (mem_all.mp h)
  exact sm_pre (sm_word hn hw) k
theorem sm_last {z : Str} (h : Sm z) : Sm (lastS z) := by
  refine ⟨by unfold lastS; simp [Str.length], fun c hc => ?_⟩
  have e : c = z.cps.toList.getLastD 0 := List.mem_singleton.mp hc
  have m : z.cps.toList.getLastD 0 ∈ 0 :: z.cps.toList := List.getLastD_mem_cons
  rw [← e] at m
  rcases List.mem_cons.mp m with m | m
  · rw [m]; decide
  · exact h.2 c m
theorem sm_after {ws : List Str} {n : Nat} (hn : Good ws n) {s x : Str} (h : x ∈ after ws s) : Sm x := by
  unfold after at h
  obtain ⟨o, ho, rfl⟩ := List.mem_map.mp h
  exact sm_last (sm_all hn (List.mem_filter.mp ho).1)
theorem sm_below {ws : List Str} {n : Nat} (hn : Good ws n) {s x : Str} (h : x ∈ below ws s) : Sm x := sm_all hn (List.mem_filter.mp h).1
theorem text_up : ∀ (ts : List Str) (k : Nat) (acc : Str), (textFrom k acc ts).length ≤ acc.length + piled ts
  | [], k, acc => by show acc.length ≤ _; rw [piled_nil]; omega
  | t :: r, k, acc => by
    have h := text_up r (k + 1) (acc ++ (if k > 0 then ", " else "" : String) ++ t)
    rw [app_len, app_len] at h
    have e : ((if k > 0 then ", " else "" : String) : Str).length ≤ 2 := by
      split
      · decide
      · decide
    rw [piled_cons]
    show (textFrom (k + 1) _ r).length ≤ _
    omega
theorem list_up (ts : List Str) : (listText ts).length ≤ piled ts + 2 := by
  have h := text_up ts 0 "["
  unfold listText
  rw [app_len]
  have e1 : ("[" : Str).length = 1 := by decide +kernel
  have e2 : ("]" : Str).length = 1 := by decide +kernel
  rw [e1] at h
  rw [e2]
  omega
theorem rep_sm {x : Str} (h : Sm x) : (repT (.str x)).length ≤ 72 := by
  have := StrLaws.reprText_len x fun c hc => Nat.lt_of_lt_of_le (h.2 c hc) (by decide)
  have h7 := h.1
  show (reprText x).length ≤ 72
  omega
theorem piled_sm : ∀ l : List Str, (∀ x ∈ l, Sm x) → piled (repTs (l.map Dt.str)) ≤ 74 * l.length
  | [], _ => by decide
  | x :: l, h => by
    have ih := piled_sm l fun y hy => h y (by simp [hy])
    have hx := rep_sm (h x (by simp))
    rw [List.map_cons]
    show piled (repT (.str x) :: repTs (l.map Dt.str)) ≤ _
    rw [piled_cons, List.length_cons]
    omega
theorem rep_lst {l : List Str} (h : ∀ x ∈ l, Sm x) (hl : l.length ≤ 40) : (repT (WL l)).length ≤ 3000 := by
  have h1 := piled_sm l h
  have h2 := list_up (repTs (l.map Dt.str))
  show (listText (repTs (l.map Dt.str))).length ≤ 3000
  omega
theorem repOks_str : ∀ l : List Str, repOks (l.map Dt.str) = true
  | [] => by unfold repOks; rfl
  | x :: l => by
    rw [List.map_cons]
    unfold repOks
    rw [repOks_str l]
    unfold repOk
    rfl
theorem depDs_str : ∀ l : List Str, depDs (l.map Dt.str) = 0
  | [] => by unfold depDs; rfl
  | x :: l => by
    rw [List.map_cons]
    unfold depDs
    rw [depDs_str l]
    unfold depD
    rfl
structure Fine (l : List Str) : Prop where
  sm : ∀ x ∈ l, Sm x
  few : l.length ≤ 40
theorem v_rep1 {st : Sto} {d : Dt} {l : List Str} (hd : deref st 8 d = some (WL l)) (h : Fine l) : gRep st [d] = some (.str (repT (WL l)), st) := by
  have hs := line_ge
  have := rep_lst h.sm h.few
  show ((deref st 8 d).bind fun d => if noRef d = true ∧ repOk d = true ∧ depD d ≤ 32 ∧ (repT d).length ≤ sizeLine then some (Dt.str (repT d), st) else none) = _
  rw [hd]
  refine if_pos ⟨noRef_lstS l, by unfold repOk; exact repOks_str l, by unfold depD; rw [depDs_str]; decide, by omega⟩
def LL (ls : List (List Str)) : Dt := .lst (ls.map WL)
theorem LL_ok : ∀ ls : List (List Str), (∀ l ∈ ls, Fine l) → noRefs (ls.map WL) = true ∧ repOks (ls.map WL) = true ∧ depDs (ls.map WL) ≤ 1 ∧ piled (repTs (ls.map WL)) ≤ 3002 * ls.length
  | [], _ => ⟨by unfold noRefs; rfl, by unfold repOks; rfl, by unfold depDs; decide, by decide⟩
  | l :: ls, h => by
    obtain ⟨h1, h2, h3, h4⟩ := LL_ok ls fun m hm => h m (by simp [hm])
    have hl := h l (by simp)
    have := rep_lst hl.sm hl.few
    rw [List.map_cons]
    refine ⟨?_, ?_, ?_, ?_⟩
    · unfold noRefs; rw [noRef_lstS, h1]; rfl
    · unfold repOks; rw [h2]; unfold repOk; rw [repOks_str]; rfl
    · unfold depDs; unfold depD; rw [depDs_str]; omega
    · show piled (repT (WL l) :: repTs (ls.map WL)) ≤ _
      rw [piled_cons, List.length_cons]
      omega
theorem v_rep2 {st : Sto} {d : Dt} {ls : List (List Str)} (hd : deref st 8 d = some (LL ls)) (h : ∀ l ∈ ls, Fine l) (hl : ls.length ≤ 4) : gRep st [d] = some (.str (repT (LL ls)), st) := by
  have hs := line_ge
  obtain ⟨h1, h2, h3, h4⟩ := LL_ok ls h
  have hu := list_up (repTs (ls.map WL))
  have he : (repT (LL ls)).length ≤ sizeLine := by
    show (listText (repTs (ls.map WL))).length ≤ sizeLine
    omega
  show ((deref st 8 d).bind fun d => if noRef d = true ∧ repOk d = true ∧ depD d ≤ 32 ∧ (repT d).length ≤ sizeLine then some (Dt.str (repT d), st) else none) = _
  rw [hd]
  refine if_pos ⟨by unfold LL noRef; exact h1, by unfold LL repOk; exact h2, by unfold LL depD; omega, he⟩
theorem ends_cut {s o : Str} (h : o.length < s.length) : Txt.endswith s o = decide (cutS s (some ((s.length : Int) - (o.length : Int))) none = o) := by
  have e1 : HT.sIx s.length 0 (some ((s.length : Int) - (o.length : Int))) = s.length - o.length := by
    show (if (s.length : Int) - (o.length : Int) < 0 then _ else min ((s.length : Int) - (o.length : Int)).toNat s.length) = _
    rw [if_neg (by omega)]
    omega
  have e2 : (cutS s (some ((s.length : Int) - (o.length : Int))) none).cps.toList = s.cps.toList.drop (s.length - o.length) := by
    unfold cutS
    rw [e1, sIx0]
    simp only [List.toList_toArray]
    rw [List.take_of_length_le]
    rw [List.length_drop, ← str_len]
    omega
  unfold Txt.endswith
  rw [StrLaws.subAt_eq, decide_eq_true (show 0 + o.length ≤ s.length by omega), Bool.true_and]
  have e3 : (s.cps.toList.drop (s.length - o.length)).take o.length = s.cps.toList.drop (s.length - o.length) := by
    rw [List.take_of_length_le]
    rw [List.length_drop, ← str_len]
    omega
  rw [e3, ← e2]
  by_cases hc : cutS s (some ((s.length : Int) - (o.length : Int))) none = o
  · rw [decide_eq_true hc, hc]
    simp
  · rw [decide_eq_false hc, beq_eq_false_iff_ne]
    exact fun z => hc (str_ext z)
theorem after_nil {ws : List Str} {n : Nat} (hn : Good ws n) {s : Str} (hs : s ∈ allSt ws) : after ws s = [] ↔ s ∈ ws := by
  unfold after
  rw [List.map_eq_nil_iff, List.filter_eq_nil_iff]
  obtain ⟨w, hw, k, hk, e⟩ := mem_keys.mp (mem_all.mp hs)
  have hl := hn.len w hw
  constructor
  · intro h
    by_cases hkn : k = n
    · rw [e, hkn, pre_full (by omega)]; exact hw
    · exfalso
      refine h (pre w (k + 1)) (mem_all.mpr (mem_keys.mpr ⟨w, hw, k + 1, by omega, rfl⟩)) ?_
      have hp : (pre w (k + 1)).length = k + 1 := by rw [pre_len]; omega
      rw [Bool.and_eq_true, decide_eq_true_eq, decide_eq_true_eq, nonempty_iff, hp, pre_pre w _ _ (by omega)]
      exact ⟨by omega, by rw [e]; congr 1⟩
  · intro h o ho hp
    rw [Bool.and_eq_true, decide_eq_true_eq, decide_eq_true_eq, nonempty_iff] at hp
    obtain ⟨v, hv, j, hj, rfl⟩ := mem_keys.mp (mem_all.mp ho)
    have hlv := hn.len v hv
    have hls := hn.len s h
    have hp2 := pre_len v j
    have : (pre (pre v j) ((pre v j).length - 1)).length = s.length := by rw [hp.2]
    rw [pre_len] at this
    omega
theorem shaped_str : ∀ l : List Str, (∀ x ∈ l, Sm x) → PyData.canLayAll0 (l.map PyData.str) = true
  | [], _ => by unfold PyData.canLayAll0; rfl
  | x :: l, h => by
    rw [List.map_cons]
    unfold PyData.canLayAll0
    rw [shaped_str l fun y hy => h y (by simp [hy]), Bool.and_true]
    unfold PyData.canLay0
    have := (h x (by simp)).2
    unfold PyData.strOk
    rw [← Array.all_toList, List.all_eq_true]
    intro c hc
    exact decide_eq_true (Nat.lt_trans (this c hc) (by decide))
theorem depth_str : ∀ l : List Str, PyData.depthAll (l.map PyData.str) = 0
  | [] => by unfold PyData.depthAll; rfl
  | x :: l => by
    rw [List.map_cons]
    unfold PyData.depthAll
    rw [depth_str l]
    unfold PyData.depth
    rfl
theorem mapM_str (st : Sto) (n : Nat) : ∀ l : List Str, (l.map Dt.str).mapM (py st (n + 1)) = some (l.map PyData.str)
  | [] => rfl
  | x :: l => by
    rw [List.map_cons, List.mapM_cons, mapM_str st n l]
    rfl
theorem eqv_str : ∀ l m : List Str, PyData.eqvAll (l.map PyData.str) (m.map PyData.str) = decide (l = m)
  | [], [] => by unfold PyData.eqvAll; rfl
  | [], _ :: _ => by rw [List.map_cons, List.map_nil]; unfold PyData.eqvAll; rfl
  | _ :: _, [] => by rw [List.map_cons, List.map_nil]; unfold PyData.eqvAll; rfl
  | x :: l, y :: m => by
    rw [List.map_cons, List.map_cons]
    unfold PyData.eqvAll
    rw [eqv_str l m]
    unfold PyData.eqv
    by_cases h1 : x = y
    · subst h1
      by_cases h2 : l = m
      · subst h2; simp
      · simp [h2]
    · have : (x == y) = false := by simpa using h1
      rw [this]
      simp [h1]
theorem deref4 {st : Sto} {a b c d : Nat} {A B C D : Dt} (h1 : st[a]? = some (some A)) (h2 : st[b]? = some (some B)) (h3 : st[c]? = some (some C)) (h4 : st[d]? = some (some D)) (n1 : noRef A = true) (n2 : noRef B = true) (n3 : noRef C = true) (n4 : noRef D = true) : deref st 8 (.lst [.ref a, .ref b, .ref c, .ref d]) = some (.lst [A, B, C, D]) := by
  unfold deref
  rw [if_neg (by unfold noRef noRefs noRef; simp)]
  show (derefs st 7 [.ref a, .ref b, .ref c, .ref d]).map _ = _
  unfold derefs
  rw [deref_ref (n := 5) h1 n1]
  show ((derefs st 6 [.ref b, .ref c, .ref d]).map _).map _ = _
  unfold derefs
  rw [deref_ref (n := 4) h2 n2]
  show (((derefs st 5 [.ref c, .ref d]).map _).map _).map _ = _
  unfold derefs
  rw [deref_ref (n := 3) h3 n3]
  show ((((derefs st 4 [.ref d]).map _).map _).map _).map _ = _
  unfold derefs
  rw [deref_ref (n := 2) h4 n4]
  show (((((derefs st 3 []).map _).map _).map _).map _).map _ = _
  unfold derefs
  rfl
theorem deref2 {st : Sto} {a b : Nat} {A B : Dt} (h1 : st[a]? = some (some A)) (h2 : st[b]? = some (some B)) (n1 : noRef A = true) (n2 : noRef B = true) : deref st 8 (.lst [.ref a, .ref b]) = some (.lst [A, B]) := by
  unfold deref
  rw [if_neg (by unfold noRef noRefs noRef; simp)]
  show (derefs st 7 [.ref a, .ref b]).map _ = _
  unfold derefs
  rw [deref_ref (n := 5) h1 n1]
  show ((derefs st 6 [.ref b]).map _).map _ = _
  unfold derefs
  rw [deref_ref (n := 4) h2 n2]
  show (((derefs st 5 []).map _).map _).map _ = _
  unfold derefs
  rfl
theorem get_at (st l : Sto) (i : Nat) : (st ++ l)[st.length + i]? = l[i]? := by
  rw [List.getElem?_append_right (by omega)]
  congr 1
  omega
theorem c_R {m : List Dt → Option Dt} {ds : List Dt} {d : Dt} (st p : Sto) (hn : noRefs ds = true) (h : m ds = some d) : liftR m ds (st ++ p) = some (.ref (st.length + p.length), st ++ (p ++ [some d])) := by
  rw [v_R hn h, List.length_append, List.append_assoc]
theorem v_app {fo : SE} {r : Evr} {st st1 : Sto} {k : Nat} {es : List Dt} (h : fo r st = some (.ref k, st1)) (hk : st1[k]? = some (some (.lst es))) (hz : es.length < sizeLine) : eM isL gApp fo (aCons (eC .non) aNil) r st = some (.non, st1.set k (some (.lst (es ++ [.non])))) := by
  unfold eM
  rw [h]
  show (if isL st1 (.ref k) = true then _ else none) = _
  have e : asL st1 (.ref k) = some es := by
    show (match st1[k]? with
      | some (some (.lst ds)) => some ds
      | _ => none) = _
    rw [hk]
  rw [if_pos (by unfold isL; rw [e]; rfl)]
  show gApp st1 (.ref k) [.non] = _
  show (match st1[k]? with
    | some (some (.lst ds)) => if ds.length < sizeLine then some (Dt.non, st1.set k (some (.lst (ds ++ [Dt.non])))) else none
    | _ => none) = _
  rw [hk]
  exact if_pos hz
theorem fine_all {ws : List Str} {n : Nat} (hn : Good ws n) : Fine (allSt ws) := ⟨fun x hx => sm_all hn hx, all_few hn⟩
theorem fine_ws {ws : List Str} {n : Nat} (hn : Good ws n) : Fine ws := ⟨fun x hx => sm_word hn hx, by have := hn.l5; omega⟩
theorem fine_after {ws : List Str} {n : Nat} (hn : Good ws n) (s : Str) : Fine (after ws s) := ⟨fun x hx => sm_after hn hx, by
  unfold after
  rw [List.length_map]
  exact Nat.le_trans (List.length_filter_le _ _) (all_few hn)⟩
theorem fine_below {ws : List Str} {n : Nat} (hn : Good ws n) (s : Str) : Fine (below ws s) := ⟨fun x hx => sm_below hn hx, Nat.le_trans (List.length_filter_le _ _) (all_few hn)⟩
theorem next_k (x : Drw) : (nextN x).2.k = x.k + 1 := by unfold nextN; split <;> rfl
theorem at_mod {α : Type} (l : List α) (n m : Int) (hm : m = l.length) (h : 0 < m) (d : α) : atI l (n % m) = some (l.getD (n % m).toNat d) := by
  have h1 := Int.emod_nonneg n (show m ≠ 0 by omega)
  have h2 := Int.emod_lt_of_pos n h
  unfold atI ixN
  rw [if_pos h1, if_pos (by omega)]
  show l[(n % m).toNat]? = _
  rw [List.getD_eq_getElem?_getD]
  have : (n % m).toNat < l.length := by omega
  rw [List.getElem?_eq_getElem this]
  rfl
theorem lcGo_cons {kt : SG} {c : ST} {f : SE} {r r1 : Evr} {x y : Dt} {xs zs : List Dt} {st st1 st2 st3 : Sto} (hk : kt x r = some r1) (hc : c r1 st = some (true, st1)) (hf : f r1 st1 = some (y, st2)) (ht : lcGo kt c f r xs st2 = some (zs, st3)) : lcGo kt c f r (x :: xs) st = some (y :: zs, st3) := by
  show (kt x r).bind _ = _
  rw [hk]
  show (c r1 st).bind _ = _
  rw [hc]
  show (f r1 st1).bind _ = _
  rw [hf]
  show (lcGo kt c f r xs st2).bind _ = _
  rw [ht]
  rfl
structure Sg (sg : Str) : Prop where
  l1 : 1 ≤ sg.length
  l3 : sg.length ≤ 3
theorem sg_line {sg : Str} (h : Sg sg) : sg.length ≤ sizeLine := Nat.le_trans h.l3 (by decide)
theorem word_k (sg : Str) : ∀ (n : Nat) (x : Drw), (wordOf sg n x).2.k = x.k + n
  | 0, x => rfl
  | n + 1, x => by
    show (wordOf sg n (nextN x).2).2.k = _
    rw [word_k sg n, next_k]
    omega
theorem word_len (sg : Str) : ∀ (n : Nat) (x : Drw), (wordOf sg n x).1.length = n
  | 0, x => rfl
  | n + 1, x => by
    show ((wordOf sg n (nextN x).2).1.length + 1) = _
    rw [word_len sg n]
theorem joinL_one : ∀ cs : List Nat, TL.joinL [] (cs.map fun c => [c]) = cs
  | [] => rfl
  | [c] => rfl
  | c :: d :: cs => by
    have ih := joinL_one (d :: cs)
    rw [List.map_cons] at ih
    rw [List.map_cons, List.map_cons]
    show [c] ++ ([] ++ TL.joinL [] ([d] :: cs.map fun c => [c])) = _
    rw [ih]
    rfl
theorem join_one (cs : List Nat) : Txt.join ("" : Str) (cs.map fun c => ⟨#[c]⟩) = ⟨cs.toArray⟩ := by
  refine str_ext ?_
  show TL.tl (Txt.join ("" : Str) (cs.map fun c => ⟨#[c]⟩)) = _
  rw [TL.join_eq, TL.tl_join, List.map_map]
  have e : TL.tl ("" : Str) = [] := by decide +kernel
  rw [e]
  show TL.joinL [] (cs.map fun c => [c]) = _
  rw [joinL_one]
theorem ones : ∀ cs : List Nat, (cs.map fun _ => 1).sum = cs.length
  | [] => rfl
  | c :: cs => by rw [List.map_cons, List.sum_cons, ones cs, List.length_cons]; omega
theorem v_M1 {g : Sto → Dt → Dt → Option (Dt × Sto)} {fo fe : SE} {r : Evr} {st st1 st2 : Sto} {a : Str} {y : Dt} {q : Dt × Sto} (h1 : fo r st = some (.str a, st1)) (h2 : fe r st1 = some (y, st2)) (h3 : g st2 (.str a) y = some q) : eM1 g fo fe r st = some q := by
  unfold eM1
  rw [h1]
  show (if isS st1 (.str a) = true then (fe r st1).bind _ else none) = _
  rw [if_pos (show isS st1 (Dt.str a) = true from rfl), h2]
  exact h3
theorem v_join (cs : List Nat) (h : cs.length ≤ 7) (st : Sto) : gJoin st (.str "") (.lst (cs.map fun c => Dt.str ⟨#[c]⟩)) = some (.str ⟨cs.toArray⟩, st) := by
  have e : strs' (cs.map fun c => Dt.str ⟨#[c]⟩) = some (cs.map fun c => (⟨#[c]⟩ : Str)) := strs_map (fun c => (⟨#[c]⟩ : Str)) cs
  show ((strs' (cs.map fun c => Dt.str ⟨#[c]⟩)).bind fun ys => if (ys.map (·.length)).sum + ys.length * ("" : Str).length ≤ 16777216 then some (Dt.str (Txt.join "" ys), st) else none) = _
  rw [e]
  show (if ((cs.map fun c => (⟨#[c]⟩ : Str)).map (·.length)).sum + (cs.map fun c => (⟨#[c]⟩ : Str)).length * ("" : Str).length ≤ 16777216 then some (Dt.str (Txt.join "" (cs.map fun c => (⟨#[c]⟩ : Str))), st) else none) = _
  have e2 : ((cs.map fun c => (⟨#[c]⟩ : Str)).map (·.length)).sum = cs.length := by
    rw [List.map_map]
    have : ((·.length) ∘ fun c => (⟨#[c]⟩ : Str)) = fun _ : Nat => 1 := rfl
    rw [this]
    exact ones cs
  have e3 : ("" : Str).length = 0 := by decide +kernel
  rw [e2, e3, Nat.mul_zero, if_pos (by omega), join_one]
abbrev wd (sg : Str) (lg : Nat) (x : Drw) : Str := ⟨(wordOf sg lg x).1.toArray⟩
theorem sg_of (i : Nat) (h : i < 4) : Sg (signsOf i) := by
  have : i = 0 ∨ i = 1 ∨ i = 2 ∨ i = 3 := by omega
  rcases this with rfl | rfl | rfl | rfl <;> exact ⟨by decide +kernel, by decide +kernel⟩
theorem sg_let (i : Nat) (h : i < 4) : ∀ c ∈ (signsOf i).cps.toList, letB ⟨#[c]⟩ = true := by
  have : i = 0 ∨ i = 1 ∨ i = 2 ∨ i = 3 := by omega
  rcases this with rfl | rfl | rfl | rfl <;> (rw [← List.all_eq_true]; decide +kernel)
theorem wordsOf_inv (sg : Str) (lg : Nat) (P : Str → Prop) (hP : ∀ x, P (wd sg lg x)) : ∀ (m : Nat) (l : List Str) (x : Drw), l.Nodup → (∀ w ∈ l, P w) → (wordsOf sg lg m l x).1.Nodup ∧ (∀ w ∈ (wordsOf sg lg m l x).1, P w) ∧ (wordsOf sg lg m l x).1.length ≤ l.length + m ∧ l.length ≤ (wordsOf sg lg m l x).1.length ∧ (1 ≤ m → 1 ≤ (wordsOf sg lg m l x).1.length)
  | 0, l, x, nd, h => ⟨nd, h, Nat.le_refl _, Nat.le_refl _, fun z => by omega⟩
  | m + 1, l, x, nd, h => by
    obtain ⟨h1, h2, h3, h4, h5⟩ := wordsOf_inv sg lg P hP m (ins2 (wd sg lg x) l) (wordOf sg lg x).2 (ins2_nodup nd) fun w hw => (ins2_mem.mp hw).elim (fun e => e ▸ hP x) (h w)
    have hl := ins2_len (wd sg lg x) l
    have hg : l.length ≤ (ins2 (wd sg lg x) l).length := by unfold ins2; split <;> simp
    have hpos : 1 ≤ (ins2 (wd sg lg x) l).length := List.length_pos_of_mem (ins2_mem.mpr (.inl rfl))
    refine ⟨h1, h2, ?_, ?_, fun _ => ?_⟩
    · show (wordsOf sg lg m (ins2 (wd sg lg x) l) (wordOf sg lg x).2).1.length ≤ _
      omega
    · show _ ≤ (wordsOf sg lg m (ins2 (wd sg lg x) l) (wordOf sg lg x).2).1.length
      omega
    · show _ ≤ (wordsOf sg lg m (ins2 (wd sg lg x) l) (wordOf sg lg x).2).1.length
      omega
theorem word_mem {sg : Str} (h1 : 1 ≤ sg.length) : ∀ (n : Nat) (x : Drw), ∀ c ∈ (wordOf sg n x).1, c ∈ sg.cps.toList
  | 0, x, c, h => by cases h
  | n + 1, x, c, h => by
    rcases List.mem_cons.mp h with e | h
    · rw [e, List.getD_eq_getElem?_getD]
      have a := Int.emod_nonneg (nextN x).1 (show (sg.length : Int) ≠ 0 by omega)
      have b := Int.emod_lt_of_pos (nextN x).1 (show (0 : Int) < sg.length by omega)
      have hl := str_len sg
      have : ((nextN x).1 % sg.length).toNat < sg.cps.toList.length := by omega
      rw [List.getElem?_eq_getElem this]
      exact List.getElem_mem _
    · exact word_mem h1 n _ c h
theorem good_law (x : Drw) : goodW (lawWords 7 x).1 = true := by
  unfold lawWords
  simp only []
  generalize (nextN x) = y1
  generalize (nextN y1.2) = y2
  generalize (nextN y2.2) = y3
  have a1 := Int.emod_nonneg y1.1 (show (4 : Int) ≠ 0 by decide)
  have b1 := Int.emod_lt_of_pos y1.1 (show (0 : Int) < 4 by decide)
  have a2 := Int.emod_nonneg y2.1 (show (7 : Int) ≠ 0 by decide)
  have b2 := Int.emod_lt_of_pos y2.1 (show (0 : Int) < 7 by decide)
  have a3 := Int.emod_nonneg y3.1 (show (5 : Int) ≠ 0 by decide)
  have b3 := Int.emod_lt_of_pos y3.1 (show (0 : Int) < 5 by decide)
  have hi : (y1.1 % 4).toNat < 4 := by omega
  generalize (y1.1 % 4).toNat = i at hi
  have hl1 : 1 ≤ (1 + y2.1 % 7).toNat := by omega
  have hl7 : (1 + y2.1 % 7).toNat ≤ 7 := by omega
  generalize (1 + y2.1 % 7).toNat = lg at hl1 hl7
  have hm1 : 1 ≤ (1 + y3.1 % 5).toNat := by omega
  have hm5 : (1 + y3.1 % 5).toNat ≤ 5 := by omega
  generalize (1 + y3.1 % 5).toNat = m at hm1 hm5
  have hs := sg_of i hi
  obtain ⟨h1, h2, h3, h4, h5⟩ := wordsOf_inv (signsOf i) lg (fun w => w.length = lg ∧ ∀ c ∈ w.cps.toList, letB ⟨#[c]⟩ = true) (fun x => ⟨by
    rw [str_len]
    show (wordOf (signsOf i) lg x).1.toArray.toList.length = lg
    rw [List.toList_toArray, word_len], fun c hc => sg_let i hi c (word_mem hs.l1 lg x c (by simpa using hc))⟩) m [] y3.2 List.nodup_nil (fun w hw => by cases hw)
  generalize (wordsOf (signsOf i) lg m [] y3.2).1 = ws at h1 h2 h3 h4 h5
  have h5 := h5 hm1
  rw [List.length_nil] at h3
  have hh : (ws.headD "").length = lg := by
    cases ws with
    | nil => simp at h5
    | cons w l => exact (h2 w (by simp)).1
  unfold goodW
  simp only [Bool.and_eq_true, decide_eq_true_eq, List.all_eq_true]
  refine ⟨h5, by omega, fun w hw => ?_, h1⟩
  unfold wordB
  simp only [Bool.and_eq_true, decide_eq_true_eq, List.all_eq_true]
  have := h2 w hw
  exact ⟨by omega, by omega, this.2, by rw [hh]; exact this.1⟩
def drw0 (c : Int) : Drw := ⟨c % bigM, 0, decide (10 ^ 18 ≤ c)⟩
abbrev dst (cs : List Int) : Sto := cs.map fun c => some (drw0 c).dt
theorem all_by {ws ks l : List Str} (hk : keysOf ws = ks) (hp : ks.Perm l) (hl : l.Nodup) (hs : l.Pairwise fun a b => keyLe a b = true) : allSt ws = l :=
  sorted_one (all_nodup ws) hl (fun x => by rw [mem_all, hk]; exact hp.mem_iff) (all_sorted ws) hs
theorem sm_of (l : List Str) (h : (l.all fun x => decide (x.length ≤ 7) && x.cps.toList.all fun c => decide (c < 128)) = true) : ∀ x ∈ l, Sm x := fun x hx => by
  have := List.all_eq_true.mp h x hx
  simp only [Bool.and_eq_true, decide_eq_true_eq, List.all_eq_true] at this
  exact this
end HB

set_option Elab.async false
set_option linter.all false
set_option maxRecDepth 100000
set_option maxHeartbeats 1000000
/-! HB, part z: plain functions worked out by simp. -/
namespace HB
open PySem PySem.Spec PyProof.Rows L2
section
variable {r : Evr} {st : Sto} {fa fb fc : SE} {fs : SA} {ca cb : ST} {g k : SS} {i n : Nat} {d x y : Dt} {ds : List Dt}
@[simp] theorem zVar : eVar i r st = (match r[i]? with
  | some (some d) => some (d, st)
  | _ => none) := rfl
@[simp] theorem zC : eC d r st = some (d, st) := rfl
@[simp] theorem zOp {f : Sto → Dt → Dt → Option (Dt × Sto)} : eOp2 f fa fb r st = (fa r st).bind fun x => (fb r x.2).bind fun y => f y.2 x.1 y.1 := rfl
@[simp] theorem zNil : aNil r st = some ([], st) := rfl
@[simp] theorem zCons : aCons fa fs r st = (fa r st).bind fun x => (fs r x.2).bind fun y => some (x.1 :: y.1, y.2) := rfl
@[simp] theorem zN {f : Sto → List Dt → Option (Dt × Sto)} : eN f fs r st = (fs r st).bind fun x => f x.2 x.1 := rfl
@[simp] theorem zIf : eIf ca fa fb r st = (ca r st).bind fun b => if b.1 = true then fa r b.2 else fb r b.2 := rfl
@[simp] theorem zChain {f f' : Sto → Dt → Dt → Option (Dt × Sto)} : eChain f f' fa fb fc r st = (fa r st).bind fun x => (fb r x.2).bind fun y => (f y.2 x.1 y.1).bind fun z => match z.1 with
  | .bl true => (fc r z.2).bind fun w => f' w.2 y.1 w.1
  | .bl false => some (.bl false, z.2)
  | _ => none := by
  unfold eChain
  cases fa r st with
  | none => rfl
  | some x =>
    show (fb r x.2).bind _ = (fb r x.2).bind _
    cases fb r x.2 with
    | none => rfl
    | some y =>
      show (f y.2 x.1 y.1).bind _ = (f y.2 x.1 y.1).bind _
      cases f y.2 x.1 y.1 with
      | none => rfl
      | some z =>
        obtain ⟨z1, z2⟩ := z
        cases z1 with
        | bl b => cases b <;> rfl
        | _ => rfl
@[simp] theorem zAndV : eAndV fa fb r st = (fa r st).bind fun x => match x.1 with
  | .bl true => fb r x.2
  | .bl false => some (.bl false, x.2)
  | _ => none := by
  unfold eAndV
  cases fa r st with
  | none => rfl
  | some x =>
    obtain ⟨z1, z2⟩ := x
    cases z1 with
    | bl b => cases b <;> rfl
    | _ => rfl
@[simp] theorem zB : cB fa r st = (fa r st).bind fun x => match x.1 with
  | .bl b => some (b, x.2)
  | _ => none := rfl
@[simp] theorem zAnd' : cAnd ca cb r st = (ca r st).bind fun b => if b.1 = true then cb r b.2 else some (false, b.2) := rfl
@[simp] theorem zOr : cOr ca cb r st = (ca r st).bind fun b => if b.1 = true then some (true, b.2) else cb r b.2 := rfl
@[simp] theorem zNot : cNot ca r st = (ca r st).bind fun b => some (!b.1, b.2) := rfl
@[simp] theorem zYes : cYes r st = some (true, st) := rfl
@[simp] theorem zNx : sNx r st = some (.nx r st) := rfl
@[simp] theorem zNo : sNo r st = none := rfl
@[simp] theorem zRet : sRet fa r st = (fa r st).bind fun x => some (.rt x.1 x.2) := rfl
@[simp] theorem zEx : sEx fa r st = (fa r st).bind fun x => some (.nx r x.2) := rfl
@[simp] theorem zSet : sSet i fa r st = (fa r st).bind fun x => some (.nx (r.set i (some x.1)) x.2) := rfl
@[simp] theorem zSeq : sSeq g k r st = (g r st).bind fun o => match o with
  | .nx r' st' => k r' st'
  | o => some o := rfl
@[simp] theorem zIfS : sIf ca g k r st = (ca r st).bind fun b => if b.1 = true then g r b.2 else k r b.2 := rfl
@[simp] theorem zToV : toV fs r st = (fs r st).bind fun z => some (.lst z.1, z.2) := rfl
@[simp] theorem zToR : toR fs r st = (fs r st).bind fun z => some (.ref z.2.length, z.2 ++ [some (.lst z.1)]) := rfl
@[simp] theorem zToT : toT fs r st = (fs r st).bind fun z => if z.1.length ≤ sizeLine then some (.tup z.1, z.2) else none := rfl
@[simp] theorem zSmall : small fs r st = (fs r st).bind fun z => if z.1.length ≤ sizeLine then some z else none := rfl
@[simp] theorem zDR : eDR r st = some (.ref st.length, st ++ [some (.dic [] [])]) := rfl
@[simp] theorem zFor {fi : SA} {kt : SG} : sFor fi kt g r st = (fi r st).bind fun xs => sForGo kt g xs.1 r xs.2 := rfl
@[simp] theorem zIE {f : Sto → Dt → Option (List Dt)} : iE f fa r st = (fa r st).bind fun x => (f x.2 x.1).map fun xs => (xs, x.2) := rfl
@[simp] theorem zIR {f : List Dt → Option (List Dt)} : iR f fs r st = (fs r st).bind fun x => (f x.1).map fun xs => (xs, x.2) := rfl
@[simp] theorem zItL : itL st (.lst ds) = some ds := rfl
@[simp] theorem zItS {z : Str} : itS st (.str z) = some (z.cps.toList.map fun c => .str ⟨#[c]⟩) := rfl
@[simp] theorem zSl {l h : SO} : eSl fa l h r st = (fa r st).bind fun x => (l r x.2).bind fun a => (h r a.2).bind fun b => (gSl b.2 x.1 a.1 b.1).map fun d => (d, b.2) := rfl
@[simp] theorem zONo : oNo r st = some (none, st) := rfl
@[simp] theorem zOE : oE fa r st = (fa r st).bind fun x => match x.1 with
  | .int i => some (some i, x.2)
  | _ => none := rfl
@[simp] theorem zNeg : eNeg fa r st = (fa r st).bind fun x => match x.1 with
  | .int i => some (.int (-i), x.2)
  | _ => none := rfl
@[simp] theorem zLc {fi : SA} {own : List Nat} {kt : SG} : lc fi own kt ca fa r st = (fi r st).bind fun xs => (lcGo kt ca fa (wipeD r own) xs.1 xs.2).bind fun z => if z.1.length ≤ sizeLine then some z else none := rfl
@[simp] theorem zName : kName i d r = some (r.set i (some d)) := rfl
@[simp] theorem zTup {ks : List Dt → Evr → Option Evr} : kTup ks (.tup ds) r = ks ds r := rfl
@[simp] theorem zKs {kt : SG} {ks : List Dt → Evr → Option Evr} : ksCons kt ks (d :: ds) r = (kt d r).bind fun r' => ks ds r' := rfl
@[simp] theorem zKn : ksNil [] r = some r := rfl
@[simp] theorem zGF {F : List Dt → Sto → Option (Dt × Sto)} : gF n F st ds = if ds.length = n then F ds st else none := rfl
@[simp] theorem zLV {f : List Dt → Option Dt} : liftV f ds st = if noRefs ds = true then (f ds).map fun d => (d, st) else none := rfl
@[simp] theorem zLR {f : List Dt → Option Dt} : liftR f ds st = if noRefs ds = true then (f ds).map fun d => (.ref st.length, st ++ [some d]) else none := rfl
@[simp] theorem zWipe0 : wipeD r [] = r := rfl
@[simp] theorem zWipe {v : Nat} {vs : List Nat} : wipeD r (v :: vs) = (wipeD r vs).set v none := rfl
@[simp] theorem zAsg {kt : SG} : sAsg kt fa r st = (fa r st).bind fun x => (kt x.1 r).map fun r' => .nx r' x.2 := rfl
@[simp] theorem zPar {is : List Nat} : sPar is fs r st = (fs r st).bind fun x => if x.1.length = is.length then some (.nx ((is.zip x.1).foldl (fun r p => r.set p.1 (some p.2)) r) x.2) else none := rfl
@[simp] theorem zRev : eRev fa r st = (fa r st).bind fun x => (asL x.2 x.1).map fun ds => (.lst ds.reverse, x.2) := rfl
@[simp] theorem zItems : eItems fa r st = (fa r st).bind fun x => (asD x.2 x.1).map fun p => (.lst (itemsL p.1 p.2), x.2) := rfl
@[simp] theorem zDToR {f : Evr → Sto → Option ((List Key × List Dt) × Sto)} : dToR f r st = (f r st).bind fun z => some (.ref z.2.length, z.2 ++ [some (.dic z.1.1 z.1.2)]) := rfl
@[simp] theorem zDToV {f : Evr → Sto → Option ((List Key × List Dt) × Sto)} : dToV f r st = (f r st).bind fun z => some (.dic z.1.1 z.1.2, z.2) := rfl
@[simp] theorem zDc {fi : SA} {own : List Nat} {kt : SG} : dc fi own kt ca fa fb r st = (fi r st).bind fun xs => dcGo kt ca fa fb (wipeD r own) xs.1 xs.2 [] [] := rfl
/-! data without live objects -/
@[simp] theorem nrN : noRef .non = true := rfl
@[simp] theorem nrB {b : Bool} : noRef (.bl b) = true := rfl
@[simp] theorem nrI {i : Int} : noRef (.int i) = true := rfl
@[simp] theorem nrS {z : Str} : noRef (.str z) = true := rfl
@[simp] theorem nrL : noRef (.lst ds) = noRefs ds := by unfold noRef; rfl
@[simp] theorem nrT : noRef (.tup ds) = noRefs ds := by unfold noRef; rfl
@[simp] theorem nrD {ks : List Key} : noRef (.dic ks ds) = noRefs ds := by unfold noRef; rfl
@[simp] theorem nrNil : noRefs [] = true := by unfold noRefs; rfl
@[simp] theorem nrCons : noRefs (d :: ds) = (noRef d && noRefs ds) := by conv => lhs; unfold noRefs
theorem noRefs_all : ∀ {ds : List Dt}, noRefs ds = ds.all noRef
  | [] => by simp
  | d :: ds => by rw [nrCons, List.all_cons, noRefs_all]
theorem noRefs_map {α : Type} {f : α → Dt} {l : List α} (h : ∀ a ∈ l, noRef (f a) = true) : noRefs (l.map f) = true := by
  rw [noRefs_all, List.all_eq_true]
  intro d hd
  obtain ⟨a, ha, rfl⟩ := List.mem_map.mp hd
  exact h a ha
@[simp] theorem nrStrs {l : List Str} : noRefs (l.map Dt.str) = true := noRefs_map fun _ _ => rfl
@[simp] theorem nrStrsF {α : Type} {f : α → Str} {l : List α} : noRefs (l.map fun a => Dt.str (f a)) = true := noRefs_map fun _ _ => rfl
/-! operators -/
@[simp] theorem zAsL : asL st (.lst ds) = some ds := rfl
@[simp] theorem zAsD {ks : List Key} : asD st (.dic ks ds) = some (ks, ds) := rfl
@[simp] theorem zAsLD {ks : List Key} : asL st (.dic ks ds) = none := rfl
@[simp] theorem zAsLS {z : Str} : asL st (.str z) = none := rfl
@[simp] theorem zLenL : gLen st [.lst ds] = some (.int ds.length, st) := rfl
@[simp] theorem zLenD {ks : List Key} : gLen st [.dic ks ds] = some (.int ks.length, st) := rfl
theorem zLenS {z : Str} (h : z.length ≤ sizeLine) : gLen st [.str z] = some (.int z.length, st) := v_lenS h
@[simp] theorem zLe {i j : Int} : gLe st (.int i) (.int j) = some (.bl (decide (i ≤ j)), st) := rfl
@[simp] theorem zLt {i j : Int} : gLt st (.int i) (.int j) = some (.bl (decide (i < j)), st) := rfl
@[simp] theorem zGt {i j : Int} : gGt st (.int i) (.int j) = some (.bl (decide (j < i)), st) := rfl
@[simp] theorem zGe {i j : Int} : gGe st (.int i) (.int j) = some (.bl (decide (j ≤ i)), st) := rfl
@[simp] theorem zAddI {i j : Int} : gAdd st (.int i) (.int j) = some (.int (i + j), st) := rfl
@[simp] theorem zMin {i j : Int} : gMin st (.int i) (.int j) = some (.int (i - j), st) := rfl
theorem zMod {i j : Int} (h : 0 < j) : gMod st (.int i) (.int j) = some (.int (i % j), st) := v_gI (hMd _ _ h)
theorem zDiv {i j : Int} (h : 0 < j) (h2 : j < 1073741824) : gDiv st (.int i) (.int j) = some (.int (i / j), st) := v_gI (hDv _ _ ⟨h, h2⟩)
theorem zMulI {i j : Int} (h : cMul i j = true) : gMulA st (.int i) (.int j) = some (.int (i * j), st) := by
  show (if cMul i j = true then _ else _) = _
  exact if_pos h
@[simp] theorem zIntI {i : Int} : gInt st [.int i] = some (.int i, st) := rfl
@[simp] theorem zIsi {z : Str} : gIs "str" st [.str z] = some (.bl true, st) := rfl
@[simp] theorem zIsl : gIs "list" st [.lst ds] = some (.bl true, st) := rfl
@[simp] theorem zIsd {ks : List Key} : gIs "dict" st [.dic ks ds] = some (.bl true, st) := rfl
theorem zIx {i : Int} {d : Dt} (h : atI ds i = some d) : gIx st (.lst ds) (.int i) = some (d, st) := v_ixL h
theorem zIxD {ks : List Key} {kd : Dt} {k : Key} {d : Dt} (hk : keyD kd = some k) (h : pGet k ks ds = some d) : gIx st (.dic ks ds) kd = some (d, st) := by
  show ((keyD kd).bind fun k => (pGet k ks ds).map fun d => (d, st)) = _
  rw [hk]
  show (pGet k ks ds).map _ = _
  rw [h]; rfl
theorem zInD {neg : Bool} {ks : List Key} {kd : Dt} {k : Key} (hk : keyD kd = some k) : gIn neg st kd (.dic ks ds) = some (.bl (if neg then !(pGet k ks ds).isSome else (pGet k ks ds).isSome), st) := by
  unfold gIn inD
  show ((keyD kd).map fun k => (pGet k ks ds).isSome).map _ = _
  rw [hk]; rfl
@[simp] theorem zKeyS {z : Str} : keyD (.str z) = some (Sum.inr z) := rfl
@[simp] theorem zKeyI {i : Int} : keyD (.int i) = some (Sum.inl i) := rfl
@[simp] theorem zSlL {lo hi : Option Int} : gSl st (.lst ds) lo hi = some (.lst (cutL ds lo hi)) := rfl
theorem zSlS {z : Str} {lo hi : Option Int} (h : z.length ≤ sizeLine) : gSl st (.str z) lo hi = some (.str (cutS z lo hi)) := v_slS h
/-! == and != -/
theorem eqB_S {x y : Str} : eqB st (.str x) (.str y) = some (decide (x = y)) := by
  have h := v_eqS (st := st) (x := x) (y := y)
  unfold gEq at h
  obtain ⟨b, h1, h2⟩ := Option.map_eq_some_iff.mp h
  cases h2
  exact h1
@[simp] theorem zEqS {x y : Str} : gEqB st (.str x) (.str y) = some (.bl (decide (x = y)), st) := by unfold gEqB; rw [eqB_S]; rfl
@[simp] theorem zNeS {x y : Str} : gNeB st (.str x) (.str y) = some (.bl (!decide (x = y)), st) := by unfold gNeB; rw [eqB_S]; rfl
theorem eqB_I {x y : Int} : eqB st (.int x) (.int y) = some (decide (x = y)) := by
  show (if scal (.int x) (.int y) = true then some (decide (V.int x = V.int y)) else none) = _
  have : decide (V.int x = V.int y) = decide (x = y) := by simp
  rw [this]; rfl
@[simp] theorem zEqI {x y : Int} : gEqB st (.int x) (.int y) = some (.bl (decide (x = y)), st) := by unfold gEqB; rw [eqB_I]; rfl
@[simp] theorem zNeI {x y : Int} : gNeB st (.int x) (.int y) = some (.bl (!decide (x = y)), st) := by unfold gNeB; rw [eqB_I]; rfl
/-- texts or None -/
def oS : Option Str → Dt
  | none => .non
  | some x => .str x
@[simp] theorem nrO {o : Option Str} : noRef (oS o) = true := by cases o <;> rfl
theorem eqB_O {x y : Option Str} : eqB st (oS x) (oS y) = some (decide (x = y)) := by
  cases x with
  | none => cases y with
    | none => rfl
    | some b => rfl
  | some a => cases y with
    | none => rfl
    | some b =>
      have := eqB_S (st := st) (x := a) (y := b)
      simpa [oS] using this
@[simp] theorem zEqO {x y : Option Str} : gEqB st (oS x) (oS y) = some (.bl (decide (x = y)), st) := by unfold gEqB; rw [eqB_O]; rfl
@[simp] theorem zNeO {x y : Option Str} : gNeB st (oS x) (oS y) = some (.bl (!decide (x = y)), st) := by unfold gNeB; rw [eqB_O]; rfl
/-- == of the thing with itself is told -/
def okQ (n : Nat) (d : Dt) : Prop := eqQ n d d = some true
theorem eqPl_S {x y : Str} (hx : Sm x) (hy : Sm y) : eqPl (.str x) (.str y) = some (decide (x = y)) := by
  have sh : ∀ z : Str, Sm z → SeqAt.shaped (.str z) = true := fun z hz => by
    unfold SeqAt.shaped PyData.canLay0 PyData.depth PyData.strOk
    rw [Bool.and_eq_true]
    refine ⟨?_, by decide⟩
    rw [← Array.all_toList, List.all_eq_true]
    intro c hc
    exact decide_eq_true (Nat.lt_trans (hz.2 c hc) (by decide))
  show (if (SeqAt.shaped (.str x) && SeqAt.shaped (.str y)) = true then some (PyData.eqv (.str x) (.str y)) else none) = _
  rw [if_pos (by rw [sh x hx, sh y hy]; rfl)]
  unfold PyData.eqv
  by_cases h : x = y
  · subst h; simp
  · simp [h]
theorem okQ_S {z : Str} {n : Nat} (h : Sm z) : okQ (n + 1) (.str z) := by
  show eqPl (.str z) (.str z) = _
  rw [eqPl_S h h]; simp
theorem okQ_N {n : Nat} : okQ (n + 1) .non := by
  show eqPl .non .non = some true
  decide
theorem okQ_O {o : Option Str} {n : Nat} (h : ∀ z, o = some z → Sm z) : okQ (n + 1) (oS o) := by
  cases o with
  | none => exact okQ_N
  | some z => exact okQ_S (h z rfl)
theorem okQ_L {n : Nat} (h : ∀ d ∈ ds, okQ n d) : okQ (n + 1) (.lst ds) := by
  show (if ds.length = ds.length then allO (List.zipWith (eqQ n) ds ds) else some false) = some true
  rw [if_pos rfl]
  have : ∀ l : List Dt, (∀ d ∈ l, okQ n d) → allO (List.zipWith (eqQ n) l l) = some true := by
    intro l
    induction l with
    | nil => intro _; rfl
    | cons d l ih =>
      intro h
      rw [List.zipWith_cons_cons]
      show ((eqQ n d d).bind fun b => (allO (List.zipWith (eqQ n) l l)).map fun c => b && c) = _
      rw [show eqQ n d d = some true from h d (by simp), ih fun x hx => h x (by simp [hx])]
      rfl
  exact this ds h
theorem okQ_D {n : Nat} {ks : List Key} (nd : ks.Nodup) (hl : ks.length = ds.length) (h : ∀ d ∈ ds, okQ n d) : okQ (n + 1) (.dic ks ds) := by
  show (if ks.Nodup ∧ ks.length = ds.length ∧ ks.length = ds.length then (if ks.length = ks.length then allO ((ks.zip ds).map fun p => match pGet p.1 ks ds with
        | none => some false
        | some y => eqQ n p.2 y) else some false) else none) = some true
  rw [if_pos ⟨nd, hl, hl⟩, if_pos rfl]
  have : ((ks.zip ds).map fun p => match pGet p.1 ks ds with
        | none => some false
        | some y => eqQ n p.2 y) = ((ks.zip ds).map fun _ => true).map some := by
    rw [List.map_map]
    refine List.map_congr_left fun p hp => ?_
    rw [pGet_mem nd p hp]
    exact h p.2 (List.of_mem_zip (a := p.1) (b := p.2) hp).2
  rw [this, allO_map]
  congr 1
  rw [List.all_map, List.all_eq_true]
  intro _ _; rfl
theorem eq_same {x y : Dt} (hx : deref st 8 x = some d) (hy : deref st 8 y = some d) (hn : noRef d = true) (ha : alikeD d d = true) (ho : okQ 8 d) : gEqB st x y = some (.bl true, st) ∧ gNeB st x y = some (.bl false, st) := by
  have e : eqB st x y = some true := by
    unfold eqB
    rw [hx, hy]
    show (if alikeD d d = true then (if noRef d = true ∧ noRef d = true then eqQ 8 d d else none) else eqD st x y) = _
    rw [if_pos ha, if_pos ⟨hn, hn⟩]
    exact ho
  unfold gEqB gNeB
  rw [e]
  exact ⟨rfl, rfl⟩
theorem eqQ_list {α : Type} [DecidableEq α] {f : α → Dt} {n : Nat} : ∀ l m : List α, (∀ a ∈ l, ∀ b ∈ m, eqQ n (f a) (f b) = some (decide (a = b))) → eqQ (n + 1) (.lst (l.map f)) (.lst (m.map f)) = some (decide (l = m)) := by
  intro l m h
  show (if (l.map f).length = (m.map f).length then allO (List.zipWith (eqQ n) (l.map f) (m.map f)) else some false) = _
  rw [List.length_map, List.length_map]
  by_cases hl : l.length = m.length
  · rw [if_pos hl]
    induction l generalizing m with
    | nil =>
      cases m with
      | nil => rfl
      | cons => simp at hl
    | cons a l ih =>
      cases m with
      | nil => simp at hl
      | cons b m =>
        rw [List.map_cons, List.map_cons, List.zipWith_cons_cons]
        show ((eqQ n (f a) (f b)).bind fun z => (allO (List.zipWith (eqQ n) (l.map f) (m.map f))).map fun c => z && c) = _
        rw [h a (by simp) b (by simp), ih m (fun x hx y hy => h x (by simp [hx]) y (by simp [hy])) (by simpa using hl)]
        by_cases h1 : a = b <;> by_cases h2 : l = m <;> simp [h1, h2]
  · rw [if_neg hl]
    have : ¬ l = m := fun e => hl (by rw [e])
    simp [this]
theorem eqB_L {l m : List Str} (hl : ∀ x ∈ l, Sm x) (hm : ∀ x ∈ m, Sm x) : eqB st (.lst (l.map Dt.str)) (.lst (m.map Dt.str)) = some (decide (l = m)) := by
  unfold eqB
  rw [deref_no (by simp), deref_no (by simp)]
  show (if alikeD (.lst (l.map Dt.str)) (.lst (m.map Dt.str)) = true then (if noRef (.lst (l.map Dt.str)) = true ∧ noRef (.lst (m.map Dt.str)) = true then eqQ 8 (.lst (l.map Dt.str)) (.lst (m.map Dt.str)) else none) else eqD st (.lst (l.map Dt.str)) (.lst (m.map Dt.str))) = _
  rw [if_pos (show alikeD (.lst (l.map Dt.str)) (.lst (m.map Dt.str)) = true from rfl), if_pos (by simp)]
  exact eqQ_list l m fun a ha b hb => eqPl_S (hl a ha) (hm b hb)
theorem zNeL {l m : List Str} (hl : ∀ x ∈ l, Sm x) (hm : ∀ x ∈ m, Sm x) : gNeB st (.lst (l.map Dt.str)) (.lst (m.map Dt.str)) = some (.bl (!decide (l = m)), st) := by unfold gNeB; rw [eqB_L hl hm]; rfl
theorem zEqL {l m : List Str} (hl : ∀ x ∈ l, Sm x) (hm : ∀ x ∈ m, Sm x) : gEqB st (.lst (l.map Dt.str)) (.lst (m.map Dt.str)) = some (.bl (decide (l = m)), st) := by unfold gEqB; rw [eqB_L hl hm]; rfl
theorem zNeL0 {l : List Str} (hl : ∀ x ∈ l, Sm x) : gNeB st (.lst (l.map Dt.str)) (.lst []) = some (.bl (!decide (l = [])), st) := zNeL (m := []) hl (by simp)
/-! loops told by what they do to a state -/
theorem for_st {α σ : Type} {kt : SG} {g : SS} (D : α → Dt) (E : σ → Evr) (S : σ → Sto) (f : σ → α → σ) (I : σ → Prop) : ∀ (xs : List α) (s : σ), I s → (∀ s a, a ∈ xs → I s → ∃ r1, kt (D a) (E s) = some r1 ∧ g r1 (S s) = some (.nx (E (f s a)) (S (f s a))) ∧ I (f s a)) →
    sForGo kt g (xs.map D) (E s) (S s) = some (.nx (E (xs.foldl f s)) (S (xs.foldl f s))) ∧ I (xs.foldl f s)
  | [], s, h, _ => ⟨rfl, h⟩
  | a :: xs, s, h, st => by
    obtain ⟨r1, h1, h2, h3⟩ := st s a (by simp) h
    obtain ⟨k1, k2⟩ := for_st D E S f I xs (f s a) h3 fun s b hb => st s b (by simp [hb])
    refine ⟨?_, k2⟩
    rw [List.map_cons, List.foldl_cons]
    exact for_cons h1 h2 k1
theorem dc_pure {α : Type} {kt : SG} {fk fv : SE} (D : α → Dt) (K : α → Str) (q : α → Dt) : ∀ (xs : List α) (ks : List Str) (es : List Dt), (∀ w ∈ xs, ∃ r1, kt (D w) r = some r1 ∧ fk r1 st = some (.str (K w), st) ∧ fv r1 st = some (q w, st)) → (ks ++ xs.map K).Nodup → ks.length + xs.length ≤ 1000000 →
    dcGo kt cYes fk fv r (xs.map D) st (ks.map Sum.inr) es = some (((ks ++ xs.map K).map Sum.inr, es ++ xs.map q), st)
  | [], ks, es, _, _, _ => by simp [dcGo]
  | w :: xs, ks, es, h, nd, hl => by
    obtain ⟨r1, h1, h2, h3⟩ := h w (by simp)
    rw [List.length_cons] at hl
    have ih := dc_pure D K q xs (ks ++ [K w]) (es ++ [q w]) (fun v hv => h v (by simp [hv])) (by simpa using nd) (by rw [List.length_append]; simp; omega)
    have hn : K w ∉ ks := fun hm => by
      rw [List.map_cons, List.nodup_append] at nd
      exact nd.2.2 _ hm _ (by simp) rfl
    have hs := line_ge
    rw [List.map_cons]
    show (kt (D w) r).bind _ = _
    rw [h1]
    show (fk r1 st).bind _ = _
    rw [h2]
    show (fv r1 st).bind _ = _
    rw [h3]
    show (if (ks.map (Sum.inr : Str → Key)).length < sizeLine then dcGo kt cYes fk fv r (xs.map D) st (pPut (Sum.inr (K w)) (q w) (ks.map Sum.inr) es).1 (pPut (Sum.inr (K w)) (q w) (ks.map Sum.inr) es).2 else none) = _
    rw [if_pos (by rw [List.length_map]; omega), put_new _ _ _ hn, ih]
    simp
end
end HB

set_option Elab.async false
set_option linter.all false
set_option maxRecDepth 100000
set_option maxHeartbeats 1000000
/-! The plain theory of tables of steps back. -/
namespace HB
open PySem PySem.Spec PyProof.Rows L2
/-- a dict of texts, by the order of its keys -/
def tK (ks : List Str) (tb : Str → Str) : Dt := .dic (ks.map Sum.inr) (ks.map fun s => .str (tb s))
def oK (ks : List Str) (f : Str → Option Str) : Dt := .dic (ks.map Sum.inr) (ks.map fun s => oS (f s))
@[simp] theorem nr_tK {ks : List Str} {tb : Str → Str} : noRef (tK ks tb) = true := by unfold tK; rw [nrD]; exact noRefs_map fun _ _ => rfl
@[simp] theorem nr_oK {ks : List Str} {f : Str → Option Str} : noRef (oK ks f) = true := by unfold oK; rw [nrD]; exact noRefs_map fun _ _ => nrO
theorem pGet_map {α : Type} {f : Str → α} : ∀ {ks : List Str} {s : Str}, s ∈ ks → pGet (Sum.inr s) (ks.map (Sum.inr : Str → Key)) (ks.map f) = some (f s)
  | [], s, h => by simp at h
  | k :: ks, s, h => by
    rw [List.map_cons, List.map_cons]
    by_cases e : k = s
    · subst e; simp [pGet]
    · have ih := pGet_map (f := f) ((List.mem_cons.mp h).resolve_left fun z => e z.symm)
      simp [pGet, e, ih]
theorem pGet_no {α : Type} {f : Str → α} : ∀ {ks : List Str} {s : Str}, s ∉ ks → pGet (Sum.inr s) (ks.map (Sum.inr : Str → Key)) (ks.map f) = none
  | [], s, h => by simp [pGet]
  | k :: ks, s, h => by
    rw [List.map_cons, List.map_cons]
    rw [List.mem_cons, not_or] at h
    have e : ¬ k = s := fun z => h.1 z.symm
    have ih := pGet_no (f := f) h.2
    simp [pGet, e, ih]
theorem nodup_inr {ks : List Str} (h : ks.Nodup) : (ks.map (Sum.inr : Str → Key)).Nodup := by
  induction ks with
  | nil => simp
  | cons k ks ih =>
    rw [List.nodup_cons] at h
    rw [List.map_cons, List.nodup_cons]
    refine ⟨fun z => ?_, ih h.2⟩
    obtain ⟨y, hy, e⟩ := List.mem_map.mp z
    cases e
    exact h.1 hy
abbrev bD (ws : List Str) : Dt := .dic ((allSt ws).map Sum.inr) ((allSt ws).map fun s => WL (after ws s))
theorem ix_tK {st : Sto} {ks : List Str} {tb : Str → Str} {s : Str} (h : s ∈ ks) : gIx st (tK ks tb) (.str s) = some (.str (tb s), st) := zIxD rfl (pGet_map h)
theorem ix_oK {st : Sto} {ks : List Str} {f : Str → Option Str} {s : Str} (h : s ∈ ks) : gIx st (oK ks f) (.str s) = some (oS (f s), st) := zIxD rfl (pGet_map h)
theorem ix_bD {st : Sto} {ws : List Str} {s : Str} (h : s ∈ allSt ws) : gIx st (bD ws) (.str s) = some (WL (after ws s), st) := zIxD rfl (pGet_map h)
theorem in_tK {st : Sto} {ks : List Str} {tb : Str → Str} {s : Str} (h : s ∈ ks) : gIn false st (.str s) (tK ks tb) = some (.bl true, st) := by
  unfold tK
  rw [zInD rfl, pGet_map h]; rfl
@[simp] theorem len_tK {st : Sto} {ks : List Str} {tb : Str → Str} : gLen st [tK ks tb] = some (.int ks.length, st) := by unfold tK; rw [zLenD, List.length_map]
@[simp] theorem isd_tK {st : Sto} {ks : List Str} {tb : Str → Str} : gIs "dict" st [tK ks tb] = some (.bl true, st) := rfl
@[simp] theorem nr_bD {ws : List Str} : noRef (bD ws) = true := by rw [nrD]; exact noRefs_map fun _ _ => by simp
theorem cutL_one {α : Type} (f : α → Dt) (a : α) (l : List α) : cutL ((a :: l).map f) (some 1) none = l.map f := by
  unfold cutL
  have e1 : HT.sIx ((a :: l).map f).length 0 (some 1) = 1 := by
    have : HT.sIx ((a :: l).map f).length 0 (some ((1 : Nat) : Int)) = min 1 ((a :: l).map f).length := HT.sIx_nat ..
    rw [show ((1 : Int)) = ((1 : Nat) : Int) from rfl, this]
    simp
  rw [e1, sIx0, List.map_cons]
  simp
  rw [List.take_of_length_le (by simp)]
theorem bools_any {α : Type} (l : List α) (p : α → Bool) (st : Sto) : gAny st [.lst (l.map fun a => Dt.bl (p a))] = some (.bl (l.any p), st) := by
  show ((bools (l.map fun a => Dt.bl (p a))).map _) = _
  rw [bools_map p l]
  show some (Dt.bl ((l.map p).any id), st) = _
  rw [List.any_map]; rfl
theorem bools_allT {α : Type} (l : List α) (p : α → Bool) (st : Sto) : gAll st [.lst (l.map fun a => Dt.bl (p a))] = some (.bl (l.all p), st) := by
  show ((bools (l.map fun a => Dt.bl (p a))).map _) = _
  rw [bools_map p l]
  show some (Dt.bl ((l.map p).all id), st) = _
  rw [List.all_map]; rfl
/-- a comprehension without a test that leaves the store -/
theorem lcGo_map {α : Type} {kt : SG} {f : SE} {r : Evr} {st : Sto} (D : α → Dt) (q : α → Dt) (xs : List α) (h : ∀ w ∈ xs, ∃ r1, kt (D w) r = some r1 ∧ f r1 st = some (q w, st)) : lcGo kt cYes f r (xs.map D) st = some (xs.map q, st) := by
  have := lcGo_pure (c := cYes) D (fun _ => true) q xs fun w hw => let ⟨r1, h1, h2⟩ := h w hw; ⟨r1, h1, rfl, fun _ => h2⟩
  rw [List.filter_eq_self.mpr (by simp)] at this
  exact this
theorem wh_step {c : ST} {g : SS} {n : Nat} {r r2 : Evr} {st st1 st2 : Sto} {o : Option Ou} (hc : c r st = some (true, st1)) (hg : g r st1 = some (.nx r2 st2)) (h : sWh c g n r2 st2 = o) : sWh c g (n + 1) r st = o := by
  show (c r st).bind _ = _
  rw [hc]
  show (g r st1).bind _ = _
  rw [hg]
  exact h
theorem wh_stop {c : ST} {g : SS} {n : Nat} {r : Evr} {st st1 : Sto} (hc : c r st = some (false, st1)) : sWh c g (n + 1) r st = some (.nx r st1) := by
  show (c r st).bind _ = _
  rw [hc]
  rfl
/-- a loop that looks for the first one -/
theorem for_find {α : Type} {kt : SG} {g : SS} {st : Sto} (D : α → Dt) (p : α → Bool) (R : α → Dt) (E : Option Dt → Evr) : ∀ (xs : List α) (v : Option Dt), (∀ a ∈ xs, ∀ v, ∃ r1, kt (D a) (E v) = some r1 ∧ g r1 st = if p a = true then some (.rt (R a) st) else some (.nx (E (some (D a))) st)) →
    ∃ v', sForGo kt g (xs.map D) (E v) st = match xs.find? p with
      | some a => some (.rt (R a) st)
      | none => some (.nx (E v') st)
  | [], v, _ => ⟨v, rfl⟩
  | a :: xs, v, h => by
    obtain ⟨r1, h1, h2⟩ := h a (by simp) v
    rw [List.map_cons, List.find?_cons]
    cases hp : p a with
    | true =>
      rw [hp, if_pos rfl] at h2
      refine ⟨v, ?_⟩
      show (kt (D a) (E v)).bind _ = _
      rw [h1]
      show (g r1 st).bind _ = _
      rw [h2]; rfl
    | false =>
      rw [hp, if_neg (by simp)] at h2
      obtain ⟨v', ih⟩ := for_find D p R E xs (some (D a)) fun b hb => h b (by simp [hb])
      refine ⟨v', ?_⟩
      show (kt (D a) (E v)).bind _ = _
      rw [h1]
      show (g r1 st).bind _ = _
      rw [h2]
      exact ih
@[simp] theorem nrWLs {α : Type} {f : α → List Str} {l : List α} : noRefs (l.map fun a => WL (f a)) = true := noRefs_map fun _ _ => by simp
def updS (tb : Str → Str) (s v : Str) : Str → Str := fun t => if t = s then v else tb t
theorem pSet_map (s v : Str) (tb : Str → Str) : ∀ ks : List Str, pSet (Sum.inr s) (Dt.str v) (ks.map (Sum.inr : Str → Key)) (ks.map fun t => Dt.str (tb t)) = ks.map fun t => Dt.str (updS tb s v t)
  | [] => rfl
  | k :: ks => by
    rw [List.map_cons, List.map_cons, List.map_cons]
    show (if (Sum.inr k : Key) = Sum.inr s then Dt.str v else Dt.str (tb k)) :: pSet (Sum.inr s) (Dt.str v) (ks.map (Sum.inr : Str → Key)) (ks.map fun t => Dt.str (tb t)) = _
    rw [pSet_map s v tb ks]
    unfold updS
    by_cases e : k = s
    · simp [e]
    · simp [e]
theorem put_tK (s v : Str) (ks : List Str) (tb : Str → Str) : Dt.dic (pPut (Sum.inr s) (Dt.str v) (ks.map (Sum.inr : Str → Key)) (ks.map fun t => Dt.str (tb t))).1 (pPut (Sum.inr s) (Dt.str v) (ks.map (Sum.inr : Str → Key)) (ks.map fun t => Dt.str (tb t))).2 = tK (ins2 s ks) (updS tb s v) := by
  unfold tK
  by_cases h : s ∈ ks
  · have e : ((ks.map (Sum.inr : Str → Key)).any fun j => decide (j = Sum.inr s)) = true := by
      rw [List.any_eq_true]
      exact ⟨Sum.inr s, List.mem_map_of_mem h, by simp⟩
    unfold pPut ins2
    rw [if_pos e, if_pos h, pSet_map]
  · rw [put_new s _ ks h]
    unfold ins2
    rw [if_neg h]
    have e1 : (ks.map fun t => Dt.str (updS tb s v t)) = ks.map fun t => Dt.str (tb t) := List.map_congr_left fun t ht => by
      have hts : ¬ t = s := fun z => h (z ▸ ht)
      simp [updS, hts]
    have e2 : updS tb s v s = v := by simp [updS]
    rw [List.map_append, List.map_append, e1]
    simp [e2]
theorem dp_tK {fd fk fv : SE} {r : Evr} {st st1 st2 st3 : Sto} {i : Nat} {s v : Str} {ks : List Str} {tb : Str → Str} (h1 : fv r st = some (.str v, st1)) (h2 : fd r st1 = some (.ref i, st2)) (h3 : fk r st2 = some (.str s, st3)) (h4 : st3[i]? = some (some (tK ks tb))) (hz : ks.length < sizeLine) :
    sDP fd fk fv r st = some (.nx r (st3.set i (some (tK (ins2 s ks) (updS tb s v))))) := by
  rw [s_DP h1 h2 h3 h4 (by rw [List.length_map]; exact hz) rfl, put_tK]
/-- the states but the empty one -/
def tl (ws : List Str) : List Str := (allSt ws).tail
/-- the keys of a table of ws, in any order -/
structure Keys (ws ks : List Str) : Prop where
  nd : ks.Nodup
  mem : ∀ s, s ∈ ks ↔ s ∈ tl ws
/-- the entries of a table -/
def Tab (ws : List Str) (tb : Str → Str) : Prop := ∀ s ∈ tl ws, tb s ∈ allSt ws ∧ (tb s).length < s.length
def chainN (tb : Str → Str) : Nat → Str → List Str
  | 0, _ => []
  | n + 1, s => if s = ("" : Str) then [] else tb s :: chainN tb n (tb s)
def chain (tb : Str → Str) (s : Str) : List Str := chainN tb s.length s
def beyond (ws : List Str) (o s : Str) : Bool := (after ws o).any fun l => !decide (l ∈ after ws s)
def shortc (ws : List Str) (tb : Str → Str) (s : Str) : Option Str := (chain tb s).find? fun o => beyond ws o s
def longE (ws : List Str) (s : Str) : Str := (below ws s).getLastD ""
theorem nil_iff {s : Str} : s = ("" : Str) ↔ s.length = 0 := by
  constructor
  · intro h; subst h; decide +kernel
  · intro h
    apply Classical.byContradiction
    intro z
    have := nonempty_iff.mp z
    omega
theorem empty_len : ("" : Str).length = 0 := nil_iff.mp rfl
section
variable {ws : List Str} {n : Nat}
theorem empty_all (hg : Good ws n) : ("" : Str) ∈ allSt ws := by
  have h1 := hg.l1
  cases ws with
  | nil => simp at h1
  | cons w ws =>
    refine mem_all.mpr (mem_keys.mpr ⟨w, by simp, 0, by omega, ?_⟩)
    exact nil_iff.mpr (by rw [pre_len]; omega) |>.symm
theorem all_cons (hg : Good ws n) : allSt ws = ("" : Str) :: tl ws := by
  have hm := empty_all hg
  have hs := all_sorted ws
  unfold tl
  cases e : allSt ws with
  | nil => rw [e] at hm; simp at hm
  | cons a l =>
    rw [e] at hm hs
    rcases List.mem_cons.mp hm with h | h
    · rw [h]; rfl
    · have := (List.pairwise_cons.mp hs).1 _ h
      rcases keyLe_iff.mp this with z | z
      · rw [empty_len] at z; omega
      · rw [empty_len] at z
        rw [nil_iff.mpr z.1]
        rfl
theorem mem_tl (hg : Good ws n) {s : Str} : s ∈ tl ws ↔ s ∈ allSt ws ∧ s ≠ ("" : Str) := by
  have e := all_cons hg
  have nd := all_nodup ws
  rw [e] at nd ⊢
  rw [List.nodup_cons] at nd
  constructor
  · intro h; exact ⟨by simp [h], fun z => nd.1 (z ▸ h)⟩
  · rintro ⟨h, z⟩
    exact (List.mem_cons.mp h).resolve_left z
theorem tl_nodup (ws : List Str) : (tl ws).Nodup := (all_nodup ws).sublist (List.tail_sublist _)
theorem keys_tl (ws : List Str) : Keys ws (tl ws) := ⟨tl_nodup ws, fun _ => Iff.rfl⟩
theorem keys_rev (ws : List Str) : Keys ws (tl ws).reverse := ⟨(List.reverse_perm _).nodup_iff.mpr (tl_nodup ws), fun _ => List.mem_reverse⟩
theorem Keys.len {ks : List Str} (h : Keys ws ks) : ks.length = (tl ws).length := ((List.perm_ext_iff_of_nodup h.nd (tl_nodup ws)).mpr fun {x} => h.mem x).length_eq
theorem tl_few (hg : Good ws n) : (tl ws).length ≤ 40 := by
  have := all_few hg
  rw [all_cons hg, List.length_cons] at this
  omega
theorem tl_len (hg : Good ws n) : (allSt ws).length = (tl ws).length + 1 := by rw [all_cons hg]; rfl
theorem chain_nil {tb : Str → Str} : chain tb ("" : Str) = [] := by unfold chain; rw [empty_len]; rfl
theorem chainN_more {tb : Str → Str} (hg : Good ws n) (ht : Tab ws tb) : ∀ (m k : Nat) (s : Str), s ∈ allSt ws → s.length ≤ m → s.length ≤ k → chainN tb m s = chainN tb k s
  | 0, 0, s, _, _, _ => rfl
  | 0, k + 1, s, hs, h, _ => by
    have : s = ("" : Str) := nil_iff.mpr (by omega)
    simp [chainN, this]
  | m + 1, 0, s, hs, _, h => by
    have : s = ("" : Str) := nil_iff.mpr (by omega)
    simp [chainN, this]
  | m + 1, k + 1, s, hs, h1, h2 => by
    unfold chainN
    by_cases e : s = ("" : Str)
    · rw [if_pos e, if_pos e]
    · rw [if_neg e, if_neg e]
      obtain ⟨a, b⟩ := ht s ((mem_tl hg).mpr ⟨hs, e⟩)
      rw [chainN_more hg ht m k (tb s) a (by omega) (by omega)]
theorem chain_cons {tb : Str → Str} (hg : Good ws n) (ht : Tab ws tb) {s : Str} (hs : s ∈ tl ws) : chain tb s = tb s :: chain tb (tb s) := by
  obtain ⟨h1, h2⟩ := (mem_tl hg).mp hs
  obtain ⟨a, b⟩ := ht s hs
  unfold chain
  have hl : s.length = (s.length - 1) + 1 := by have := nonempty_iff.mp h2; omega
  rw [hl]
  show (if s = ("" : Str) then [] else tb s :: chainN tb (s.length - 1) (tb s)) = _
  rw [if_neg h2, chainN_more hg ht (s.length - 1) (tb s).length (tb s) a (by omega) (by omega)]
theorem chain_mem {tb : Str → Str} (hg : Good ws n) (ht : Tab ws tb) : ∀ (m : Nat) (s : Str), s ∈ allSt ws → s.length ≤ m → ∀ o ∈ chain tb s, o ∈ allSt ws ∧ o.length < s.length
  | 0, s, hs, h, o, ho => by
    rw [nil_iff.mpr (show s.length = 0 by omega), chain_nil] at ho
    simp at ho
  | m + 1, s, hs, h, o, ho => by
    by_cases e : s = ("" : Str)
    · rw [e, chain_nil] at ho; simp at ho
    · have ht' := (mem_tl hg).mpr ⟨hs, e⟩
      obtain ⟨a, b⟩ := ht s ht'
      rw [chain_cons hg ht ht'] at ho
      rcases List.mem_cons.mp ho with z | z
      · rw [z]; exact ⟨a, b⟩
      · obtain ⟨c, d⟩ := chain_mem hg ht m (tb s) a (by omega) o z
        exact ⟨c, by omega⟩
theorem chain_few {tb : Str → Str} (s : Str) : (chain tb s).length ≤ s.length := by
  have : ∀ (m : Nat) (s : Str), (chainN tb m s).length ≤ m := by
    intro m
    induction m with
    | zero => intro s; simp [chainN]
    | succ m ih =>
      intro s
      unfold chainN
      split
      · simp
      · rw [List.length_cons]; have := ih (tb s); omega
  exact this _ _
theorem fine_chain {tb : Str → Str} (hg : Good ws n) (ht : Tab ws tb) {s : Str} (hs : s ∈ allSt ws) : Fine (chain tb s) := ⟨fun x hx => sm_all hg (chain_mem hg ht _ s hs (Nat.le_refl _) x hx).1, by have := chain_few (tb := tb) s; have := all_len7 hg hs; omega⟩
/-- the ends of a state: the empty one is the first -/
theorem ends_nil (s : Str) : Txt.endswith s ("" : Str) = true := by
  unfold Txt.endswith
  rw [StrLaws.subAt_eq, empty_len]
  simp
  decide +kernel
theorem below_ne (hg : Good ws n) {s : Str} (hs : s ∈ tl ws) : ("" : Str) ∈ below ws s := by
  unfold below
  rw [List.mem_filter]
  refine ⟨empty_all hg, ?_⟩
  have := nonempty_iff.mp ((mem_tl hg).mp hs).2
  rw [ends_nil, empty_len]
  simp
  omega
theorem longE_mem (hg : Good ws n) {s : Str} (hs : s ∈ tl ws) : longE ws s ∈ below ws s := by
  have h := below_ne hg hs
  unfold longE
  rw [List.getLastD_eq_getLast?]
  have hne : below ws s ≠ [] := fun z => by rw [z] at h; simp at h
  rw [List.getLast?_eq_some_getLast hne]
  exact List.getLast_mem hne
theorem tab_true (hg : Good ws n) : Tab ws (longE ws) := fun s hs => by
  have h := longE_mem hg hs
  unfold below at h
  rw [List.mem_filter, Bool.and_eq_true, decide_eq_true_eq] at h
  exact ⟨h.1, h.2.1⟩
theorem tab_new (hg : Good ws n) : Tab ws fun _ => "" := fun s hs => ⟨empty_all hg, by rw [empty_len]; have := nonempty_iff.mp ((mem_tl hg).mp hs).2; omega⟩
/-- the lesser states -/
def lessS (ws : List Str) (s : Str) : List Str := (allSt ws).filter fun o => decide (o.length < s.length)
theorem own_below (s : Str) : (lessS ws s).filter (fun o => decide (cutS s (some ((s.length : Int) - (o.length : Int))) none = o)) = below ws s := by
  unfold lessS below
  rw [List.filter_filter]
  refine List.filter_congr fun o _ => ?_
  by_cases h : o.length < s.length
  · rw [ends_cut h]; simp [h]
  · simp [h]
def deepS (ws : List Str) (s : Str) : List Str := (lessS ws s).filter fun o => decide ((o.length : Int) = (s.length : Int) - 1)
theorem deep_ne (hg : Good ws n) {s : Str} (hs : s ∈ tl ws) : deepS ws s ≠ [] := by
  obtain ⟨h1, h2⟩ := (mem_tl hg).mp hs
  obtain ⟨w, hw, k, hk, rfl⟩ := mem_keys.mp (mem_all.mp h1)
  have hl := nonempty_iff.mp h2
  rw [pre_len] at hl
  intro z
  have : pre w (k - 1) ∈ deepS ws (pre w k) := by
    unfold deepS lessS
    rw [List.mem_filter, List.mem_filter]
    refine ⟨⟨mem_all.mpr (mem_keys.mpr ⟨w, hw, k - 1, by omega, rfl⟩), ?_⟩, ?_⟩
    · rw [pre_len, pre_len]; simp; omega
    · rw [pre_len, pre_len]; simp; omega
  rw [z] at this
  simp at this
theorem less_ne (hg : Good ws n) {s : Str} (hs : s ∈ tl ws) : lessS ws s ≠ [] := fun z => deep_ne hg hs (by unfold deepS; rw [z]; rfl)
end
end HB

set_option Elab.async false
set_option linter.all false
set_option maxRecDepth 100000
set_option maxHeartbeats 1000000
/-! What is shown by repr has bounds. -/
namespace HB
open PySem PySem.Spec PyProof.Rows L2
/-- d may be shown: its depth is at most e, its text has at most k signs -/
structure RB (e k : Nat) (d : Dt) : Prop where
  nr : noRef d = true
  ok : repOk d = true
  dep : depD d ≤ e
  len : (repT d).length ≤ k
theorem RB.mono {e e' k k' : Nat} {d : Dt} (h : RB e k d) (he : e ≤ e') (hk : k ≤ k') : RB e' k' d := ⟨h.nr, h.ok, Nat.le_trans h.dep he, Nat.le_trans h.len hk⟩
theorem rb_S {z : Str} (h : Sm z) : RB 0 72 (.str z) := ⟨rfl, rfl, Nat.le_refl 0, rep_sm h⟩
theorem rb_N : RB 0 72 .non := ⟨rfl, rfl, Nat.le_refl 0, by show ("None" : Str).length ≤ 72; decide +kernel⟩
theorem rb_O {o : Option Str} (h : ∀ z, o = some z → Sm z) : RB 0 72 (oS o) := by
  cases o with
  | none => exact rb_N
  | some z => exact rb_S (h z rfl)
theorem dict_up (ps : List Str) : (dictText ps).length ≤ piled ps + 2 := by
  have e : (dictText ps).length = 1 + (Str.join ", " ps).length + 1 := by
    unfold dictText
    rw [app_len, app_len]; rfl
  by_cases h : ps = []
  · subst h
    rw [e]
    show 1 + (Str.join ", " []).length + 1 ≤ _
    have : (Str.join ", " []).length = 0 := by decide +kernel
    omega
  · have := join_length_add ps h
    omega
theorem rbs {e k : Nat} : ∀ {ds : List Dt}, (∀ d ∈ ds, RB e k d) → noRefs ds = true ∧ repOks ds = true ∧ depDs ds ≤ e ∧ piled (repTs ds) ≤ (k + 2) * ds.length
  | [], _ => ⟨by simp, by unfold repOks; rfl, by unfold depDs; omega, by show piled [] ≤ _; rw [piled_nil]; omega⟩
  | d :: ds, h => by
    obtain ⟨h1, h2, h3, h4⟩ := rbs fun x hx => h x (List.mem_cons_of_mem _ hx)
    have hd := h d (by simp)
    refine ⟨by rw [nrCons, hd.nr, h1]; rfl, ?_, ?_, ?_⟩
    · unfold repOks; rw [hd.ok, h2]; rfl
    · unfold depDs; have := hd.dep; omega
    · have := hd.len
      show piled (repT d :: repTs ds) ≤ _
      rw [piled_cons, List.length_cons, Nat.mul_succ]
      omega
theorem rb_L {e k m : Nat} {ds : List Dt} (h : ∀ d ∈ ds, RB e k d) (hm : ds.length ≤ m) : RB (e + 1) ((k + 2) * m + 2) (.lst ds) := by
  obtain ⟨h1, h2, h3, h4⟩ := rbs h
  refine ⟨by rw [nrL]; exact h1, by unfold repOk; exact h2, by unfold depD; omega, ?_⟩
  have := list_up (repTs ds)
  have : (k + 2) * ds.length ≤ (k + 2) * m := Nat.mul_le_mul_left _ hm
  show (listText (repTs ds)).length ≤ _
  omega
theorem rb_D {e k m : Nat} {ks : List Str} {f : Str → Dt} (hk : ∀ s ∈ ks, Sm s) (h : ∀ s ∈ ks, RB e k (f s)) (hm : ks.length ≤ m) : RB (e + 1) ((k + 76) * m + 2) (.dic (ks.map Sum.inr) (ks.map f)) := by
  obtain ⟨h1, h2, h3, _⟩ := rbs (ds := ks.map f) fun d hd => by
    obtain ⟨s, hs, rfl⟩ := List.mem_map.mp hd
    exact h s hs
  have hp : ∀ l : List Str, (∀ s ∈ l, Sm s) → (∀ s ∈ l, RB e k (f s)) → piled (repKs (l.map Sum.inr) (l.map f)) ≤ (k + 76) * l.length := by
    intro l
    induction l with
    | nil => intro _ _; show piled [] ≤ _; rw [piled_nil]; omega
    | cons s l ih =>
      intro g1 g2
      have i := ih (fun x hx => g1 x (by simp [hx])) fun x hx => g2 x (by simp [hx])
      have a := rep_sm (g1 s (by simp))
      have b := (g2 s (by simp)).len
      have c : (": " : Str).length = 2 := by decide +kernel
      rw [List.map_cons, List.map_cons]
      show piled ((reprText s ++ ": " ++ repT (f s)) :: repKs (l.map Sum.inr) (l.map f)) ≤ _
      rw [piled_cons, app_len, app_len, c, List.length_cons, Nat.mul_succ]
      have a' : (reprText s).length ≤ 72 := a
      omega
  refine ⟨by rw [nrD]; exact h1, ?_, by unfold depD; omega, ?_⟩
  · unfold repOk
    rw [h2, Bool.and_true, List.all_eq_true]
    intro x hx
    obtain ⟨s, _, rfl⟩ := List.mem_map.mp hx
    rfl
  · have := dict_up (repKs (ks.map Sum.inr) (ks.map f))
    have := hp ks hk h
    have : (k + 76) * ks.length ≤ (k + 76) * m := Nat.mul_le_mul_left _ hm
    show (dictText (repKs (ks.map Sum.inr) (ks.map f))).length ≤ _
    omega
theorem v_rep {e k : Nat} {st : Sto} {x d : Dt} (hd : deref st 8 x = some d) (h : RB e k d) (he : e ≤ 32) (hk : k ≤ 16777216) : gRep st [x] = some (.str (repT d), st) := by
  have hs := line_ge
  have := h.len
  have := h.dep
  show ((deref st 8 x).bind fun d => if noRef d = true ∧ repOk d = true ∧ depD d ≤ 32 ∧ (repT d).length ≤ sizeLine then some (Dt.str (repT d), st) else none) = _
  rw [hd]
  exact if_pos ⟨h.nr, h.ok, by omega, by omega⟩
theorem rb_WL {l : List Str} (h : Fine l) : RB 1 3000 (WL l) := (rb_L (m := 40) (fun d hd => by
  obtain ⟨s, hs, rfl⟩ := List.mem_map.mp hd
  exact rb_S (h.sm s hs)) (by rw [List.length_map]; exact h.few)).mono (by omega) (by omega)
theorem rb_tK {ks : List Str} {tb : Str → Str} (hk : ∀ s ∈ ks, Sm s) (h : ∀ s ∈ ks, Sm (tb s)) (hm : ks.length ≤ 40) : RB 1 6000 (tK ks tb) := (rb_D hk (fun s hs => rb_S (h s hs)) hm).mono (by omega) (by omega)
end HB

set_option Elab.async false
set_option linter.all false
set_option maxRecDepth 100000
set_option maxHeartbeats 4000000
/-! printed by pr2.py: the defs of the row, their plain functions, their derivations. -/
namespace K03
open PySem PySem.Spec PyProof.Rows L2 HB
def top (i : Nat) : Stmt := PySem.Challenge.pw_halfback_k03_tables_and_shortcuts.main.body.getD i (.Pass ⟨0, 0, 0, 0⟩)
abbrev FnP (K : PySem.W.Frag) (x : Str) (st : Stmt) (f : Addr) (fd : FuncData) : Prop := FunD K x x (defArgs st) (defBody st) (defScope st) [] [] f fd
abbrev s_is_letter : Stmt := top 7
def N_is_letter : List Str := ["sign"]
theorem sc_is_letter : FnScope N_is_letter ["sign"] (defScope s_is_letter) := ⟨rfl, rfl, rfl, by decide +kernel, rfl, by decide +kernel, by decide +kernel⟩
abbrev s_check_words : Stmt := top 8
def N_check_words : List Str := ["words", "index", "word", "sign"]
theorem sc_check_words : FnScope N_check_words ["words"] (defScope s_check_words) := ⟨rfl, rfl, rfl, by decide +kernel, rfl, by decide +kernel, by decide +kernel⟩
abbrev s_all_states : Stmt := top 9
def N_all_states : List Str := ["words", "some", "word", "many"]
theorem sc_all_states : FnScope N_all_states ["words"] (defScope s_all_states) := ⟨rfl, rfl, rfl, by decide +kernel, rfl, by decide +kernel, by decide +kernel⟩
abbrev s_letters_behind : Stmt := top 10
def N_letters_behind : List Str := ["words", "some", "state", "other"]
theorem sc_letters_behind : FnScope N_letters_behind ["words"] (defScope s_letters_behind) := ⟨rfl, rfl, rfl, by decide +kernel, rfl, by decide +kernel, by decide +kernel⟩
abbrev s_check_state : Stmt := top 11
def N_check_state : List Str := ["state", "words"]
theorem sc_check_state : FnScope N_check_state ["state", "words"] (defScope s_check_state) := ⟨rfl, rfl, rfl, by decide +kernel, rfl, by decide +kernel, by decide +kernel⟩
abbrev s_ends_in : Stmt := top 12
def N_ends_in : List Str := ["words", "state", "other"]
theorem sc_ends_in : FnScope N_ends_in ["words", "state"] (defScope s_ends_in) := ⟨rfl, rfl, rfl, by decide +kernel, rfl, by decide +kernel, by decide +kernel⟩
abbrev s_check_table : Stmt := top 14
def N_check_table : List Str := ["table", "words", "some", "state", "entry"]
theorem sc_check_table : FnScope N_check_table ["table", "words"] (defScope s_check_table) := ⟨rfl, rfl, rfl, by decide +kernel, rfl, by decide +kernel, by decide +kernel⟩
abbrev s_check_search : Stmt := top 15
def N_check_search : List Str := ["words", "table"]
theorem sc_check_search : FnScope N_check_search ["words", "table"] (defScope s_check_search) := ⟨rfl, rfl, rfl, by decide +kernel, rfl, by decide +kernel, by decide +kernel⟩
abbrev s_goes_beyond : Stmt := top 16
def N_goes_beyond : List Str := ["behind", "other", "state", "letter"]
theorem sc_goes_beyond : FnScope N_goes_beyond ["behind", "other", "state"] (defScope s_goes_beyond) := ⟨rfl, rfl, rfl, by decide +kernel, rfl, by decide +kernel, by decide +kernel⟩
abbrev s_chain_in : Stmt := top 17
def N_chain_in : List Str := ["table", "state", "told"]
theorem sc_chain_in : FnScope N_chain_in ["table", "state"] (defScope s_chain_in) := ⟨rfl, rfl, rfl, by decide +kernel, rfl, by decide +kernel, by decide +kernel⟩
abbrev s_shortcut_in : Stmt := top 18
def N_shortcut_in : List Str := ["behind", "table", "state", "some", "other"]
theorem sc_shortcut_in : FnScope N_shortcut_in ["behind", "table", "state"] (defScope s_shortcut_in) := ⟨rfl, rfl, rfl, by decide +kernel, rfl, by decide +kernel, by decide +kernel⟩
abbrev s_shortcuts_in : Stmt := top 19
def N_shortcuts_in : List Str := ["words", "table", "behind", "state"]
theorem sc_shortcuts_in : FnScope N_shortcuts_in ["words", "table"] (defScope s_shortcuts_in) := ⟨rfl, rfl, rfl, by decide +kernel, rfl, by decide +kernel, by decide +kernel⟩
abbrev s_true_in : Stmt := top 20
def N_true_in : List Str := ["words", "state"]
theorem sc_true_in : FnScope N_true_in ["words"] (defScope s_true_in) := ⟨rfl, rfl, rfl, by decide +kernel, rfl, by decide +kernel, by decide +kernel⟩
abbrev s_true_table : Stmt := top 21
def N_true_table : List Str := ["words"]
theorem sc_true_table : FnScope N_true_table ["words"] (defScope s_true_table) := ⟨rfl, rfl, rfl, by decide +kernel, rfl, by decide +kernel, by decide +kernel⟩
abbrev s_new_table : Stmt := top 22
def N_new_table : List Str := ["words", "state"]
theorem sc_new_table : FnScope N_new_table ["words"] (defScope s_new_table) := ⟨rfl, rfl, rfl, by decide +kernel, rfl, by decide +kernel, by decide +kernel⟩
abbrev s_chain : Stmt := top 23
def N_chain : List Str := ["words", "table", "state"]
theorem sc_chain : FnScope N_chain ["words", "table", "state"] (defScope s_chain) := ⟨rfl, rfl, rfl, by decide +kernel, rfl, by decide +kernel, by decide +kernel⟩
abbrev s_shortcuts : Stmt := top 24
def N_shortcuts : List Str := ["words", "table"]
theorem sc_shortcuts : FnScope N_shortcuts ["words", "table"] (defScope s_shortcuts) := ⟨rfl, rfl, rfl, by decide +kernel, rfl, by decide +kernel, by decide +kernel⟩
abbrev s__law_draws : Stmt := top 26
def N__law_draws : List Str := ["_law_cell"]
theorem sc__law_draws : FnScope N__law_draws ["_law_cell"] (defScope s__law_draws) := ⟨rfl, rfl, rfl, by decide +kernel, rfl, by decide +kernel, by decide +kernel⟩
abbrev s__law_next : Stmt := top 27
def N__law_next : List Str := ["_law_draws_here", "_law_k", "_law_number"]
theorem sc__law_next : FnScope N__law_next ["_law_draws_here"] (defScope s__law_next) := ⟨rfl, rfl, rfl, by decide +kernel, rfl, by decide +kernel, by decide +kernel⟩
abbrev s__law_words : Stmt := top 28
def N__law_words : List Str := ["_law_draws_here", "_law_most", "_law_signs", "_law_long", "_law_told", "_law_k", "_law_word", "_law_at"]
theorem sc__law_words : FnScope N__law_words ["_law_draws_here", "_law_most"] (defScope s__law_words) := ⟨rfl, rfl, rfl, by decide +kernel, rfl, by decide +kernel, by decide +kernel⟩
abbrev s__law_states : Stmt := top 29
def N__law_states : List Str := ["_law_some", "_law_told", "_law_long", "_law_word"]
theorem sc__law_states : FnScope N__law_states ["_law_some"] (defScope s__law_states) := ⟨rfl, rfl, rfl, by decide +kernel, rfl, by decide +kernel, by decide +kernel⟩
abbrev s__law_behind : Stmt := top 30
def N__law_behind : List Str := ["_law_some", "_law_here", "_law_told", "_law_other", "_law_word"]
theorem sc__law_behind : FnScope N__law_behind ["_law_some", "_law_here"] (defScope s__law_behind) := ⟨rfl, rfl, rfl, by decide +kernel, rfl, by decide +kernel, by decide +kernel⟩
abbrev s__law_table : Stmt := top 31
def N__law_table : List Str := ["_law_draws_here", "_law_some", "_law_kind", "_law_every", "_law_told", "_law_here", "_law_less", "_law_pick", "_law_own", "_law_deep", "_law_row", "_law_other"]
theorem sc__law_table : FnScope N__law_table ["_law_draws_here", "_law_some"] (defScope s__law_table) := ⟨rfl, rfl, rfl, by decide +kernel, rfl, by decide +kernel, by decide +kernel⟩
abbrev s__law_chain : Stmt := top 32
def N__law_chain : List Str := ["_law_rows", "_law_here", "_law_told"]
theorem sc__law_chain : FnScope N__law_chain ["_law_rows", "_law_here"] (defScope s__law_chain) := ⟨rfl, rfl, rfl, by decide +kernel, rfl, by decide +kernel, by decide +kernel⟩
abbrev s__law_shortcut : Stmt := top 33
def N__law_shortcut : List Str := ["_law_some", "_law_rows", "_law_here", "_law_own", "_law_other", "_law_sign"]
theorem sc__law_shortcut : FnScope N__law_shortcut ["_law_some", "_law_rows", "_law_here"] (defScope s__law_shortcut) := ⟨rfl, rfl, rfl, by decide +kernel, rfl, by decide +kernel, by decide +kernel⟩
abbrev s__law_plain_right : Stmt := top 34
def N__law_plain_right : List Str := ["_law_some", "_law_every", "_law_kept", "_law_due", "_law_here", "_law_fresh", "_law_told", "_law_rows", "_law_other", "_law_type_name"]
theorem sc__law_plain_right : FnScope N__law_plain_right ["_law_some"] (defScope s__law_plain_right) := ⟨rfl, rfl, rfl, by decide +kernel, rfl, by decide +kernel, by decide +kernel⟩
abbrev s__law_right : Stmt := top 35
def N__law_right : List Str := ["_law_some", "_law_rows", "_law_kept", "_law_turned", "_law_every", "_law_here", "_law_due", "_law_told", "_law_word"]
theorem sc__law_right : FnScope N__law_right ["_law_some", "_law_rows"] (defScope s__law_right) := ⟨rfl, rfl, rfl, by decide +kernel, rfl, by decide +kernel, by decide +kernel⟩
abbrev s_law : Stmt := top 36
def N_law : List Str := ["_law_script", "_law_draws_here", "_law_due", "_law_some", "_law_cell"]
theorem sc_law : FnScope N_law ["_law_script"] (defScope s_law) := ⟨rfl, rfl, rfl, by decide +kernel, rfl, by decide +kernel, by decide +kernel⟩
def g_is_letter : SS :=
  (sRet (eChain gLe gLe (eC (.str "!")) (eVar 0) (eC (.str "~"))))
def F_is_letter : List Dt → Sto → Option (Dt × Sto) := bodyF g_is_letter 1
theorem ok_is_letter {T : List (Addr × Str)} {P : Program} {w : World} {K : PySem.W.Frag} {mg : Str → Option Value} {base : Heap} {f : Addr} {fd : FuncData} (F : FnP K "is_letter" s_is_letter f fd)  :
    GFn P w K mg base 1 f fd ["sign"] (SpF T 1 F_is_letter) := by
  refine gfnJ (k := 0) (N := N_is_letter) (ps := ["sign"]) F sc_is_letter fun A outer s H hr hg => ?_
  have sc := sc_is_letter
  have hu := hr.units
  have hu1 := hu_of hr
  exact (jsOne (jsRet (jChain op_LeA vo_Le op_LeA vo_Le jStr (jv 0) jStr)))
def e1_check_words : SE :=
  (eN (gF 1 (liftV (fV F_is_letter))) (aCons (eVar 3) aNil))
def b2_check_words : SS :=
  (sSeq (sIf (cOr (cNot (cB (eN (gIs "str") (aCons (eVar 2) aNil)))) (cNot (cB (eChain gLe gLe (eC (.int 1)) (eN gLen (aCons (eVar 2) aNil)) (eC (.int 7))))))
  sNo
  sNx)
  (sIf (cOr (cNot (cB (eN gAll (aCons (toV (lc (iE itS (eVar 2)) [3] (kName 3) cYes e1_check_words)) aNil)))) (cOr (cB (eOp2 gNeB (eN gLen (aCons (eVar 2) aNil)) (eN gLen (aCons (eOp2 gIx (eVar 0) (eC (.int 0))) aNil)))) (cB (eOp2 (gIn false) (eVar 2) (eSl (eVar 0) oNo (oE (eVar 1)))))))
  sNo
  sNx))
def g_check_words : SS :=
  (sSeq (sIf (cOr (cNot (cB (eN (gIs "list") (aCons (eVar 0) aNil)))) (cNot (cB (eChain gLe gLe (eC (.int 1)) (eN gLen (aCons (eVar 0) aNil)) (eC (.int 5))))))
  sNo
  sNx)
  (sFor (iR en (aCons (eVar 0) aNil)) (kTup (ksCons (kName 1) (ksCons (kName 2) ksNil)))
  b2_check_words))
def F_check_words : List Dt → Sto → Option (Dt × Sto) := bodyF g_check_words 4
theorem ok_check_words {T : List (Addr × Str)} {P : Program} {w : World} {K : PySem.W.Frag} {mg : Str → Option Value} {base : Heap} {f : Addr} {fd : FuncData} (F : FnP K "check_words" s_check_words f fd) (cV_is_letter : GP P w K mg base 1 "is_letter" ["sign"] (SpF T 1 (liftV (fV F_is_letter)))) (n_all : mg "all" = none) (n_enumerate : mg "enumerate" = none) (n_isinstance : mg "isinstance" = none) (n_len : mg "len" = none) (n_list : mg "list" = none) (n_str : mg "str" = none) {t_MOST_LETTERS : Tok} (i_MOST_LETTERS : mg "MOST_LETTERS" = some (.int 7 t_MOST_LETTERS)) {t_MOST_WORDS : Tok} (i_MOST_WORDS : mg "MOST_WORDS" = some (.int 5 t_MOST_WORDS)) :
    GFn P w K mg base 2 f fd ["words"] (SpF T 1 F_check_words) := by
  refine gfnJ (k := 1) (N := N_check_words) (ps := ["words"]) F sc_check_words fun A outer s H hr hg => ?_
  have sc := sc_check_words
  have hu := hr.units
  have hu1 := hu_of hr
  exact (jsCons (jsIf (PW.pt (jwOr (jtNot (jtVal (jIsi (by rfl) n_isinstance (by rfl) n_list boot_list (jv 0)))) (jwOr1 (jtNot (jtChain op_LeA vo_Le op_LeA vo_Le jInt (jB call_lenA vo_len (by rfl) n_len boot_len (jCons (jv 0) jNil)) (jGI (by rfl) i_MOST_WORDS))))))
    jsNo
    jsNil)
    (jsOne (jsFor PassesOwn.never rfl sim_g2 (jiEn (by rfl) n_enumerate (jCons (jv 0) jNil)) (jg2 rfl (jg 1 sc.nd) (jg 2 sc.nd))
    (jsCons (jsIf (PW.pt (jwOr (jtNot (jtVal (jIsi (by rfl) n_isinstance (by rfl) n_str boot_str (jv 2)))) (jwOr1 (jtNot (jtChain op_LeA vo_Le op_LeA vo_Le jInt (jB call_lenA vo_len (by rfl) n_len boot_len (jCons (jv 2) jNil)) (jGI (by rfl) i_MOST_LETTERS))))))
    jsNo
    jsNil)
    (jsOne (jsIf (PW.pt (jwOr (jtNot (jtVal (jB (cr_all rfl) vo_all (by rfl) n_all boot_all (jCons (jLcV (own := [("sign", 3)]) rfl sc.nd sim_gname (jiS (jv 2)) (blkOk_by (by rfl)) (fun _ _ _ _ _ => (jg 3 sc.nd)) (fun _ _ _ _ _ => jtNil) (fun _ _ _ _ _ => (jCallP (k := 1) (x := "is_letter") (ps := ["sign"]) (F := (liftV (fV F_is_letter))) (by exact cV_is_letter) (by exact hr.mono (by decide)) (by exact hg) (by rfl) (jCons (jv 3) jNil))) (by decide)) jNil)))) (jwOr (jtCmp (op_NeZ (by exact hr)) vo_NeZ (jB call_lenA vo_len (by rfl) n_len boot_len (jCons (jv 2) jNil)) (jB call_lenA vo_len (by rfl) n_len boot_len (jCons (jIx (by exact hu) (jv 0) jInt) jNil))) (jwOr1 (jtCmp (op_InA (by exact hu1)) vo_In (jv 2) (jSl (jv 0) joNone (joSome (jv 1))))))))
    jsNo
    jsNil))))))
def b1_all_states : SS :=
  (sDP (eVar 1) (eSl (eVar 2) oNo (oE (eVar 3))) (eC (.bl true)))
def b2_all_states : SS :=
  (sFor (iR rg1 (aCons (eOp2 gAdd (eN gLen (aCons (eVar 2) aNil)) (eC (.int 1))) aNil)) (kName 3)
  b1_all_states)
def g_all_states : SS :=
  (sSeq (sSet 1 eDR)
  (sSeq (sFor (iE itL (eVar 0)) (kName 2)
  b2_all_states)
  (sRet (eSortK (eVar 1)))))
def F_all_states : List Dt → Sto → Option (Dt × Sto) := bodyF g_all_states 4
theorem ok_all_states {T : List (Addr × Str)} {P : Program} {w : World} {K : PySem.W.Frag} {mg : Str → Option Value} {base : Heap} {f : Addr} {fd : FuncData} (F : FnP K "all_states" s_all_states f fd) {c R : Addr} (TB : LamX.TabB base mg c R) (hcode : fd.code = .ref c) (hmT : (R, ("all_states" : Str) ++ ".<locals>." ++ "<lambda>") ∈ T) (huT : ∀ p ∈ T, p.1 = R → p.2 = ("all_states" : Str) ++ ".<locals>." ++ "<lambda>") (n_len : mg "len" = none) (n_range : mg "range" = none) (n_sorted : mg "sorted" = none) :
    GFn P w K mg base 3 f fd ["words"] (SpF T 1 F_all_states) := by
  refine gfnJ (k := 2) (N := N_all_states) (ps := ["words"]) F sc_all_states fun A outer s H hr hg => ?_
  have sc := sc_all_states
  have hu := hr.units
  have hu1 := hu_of hr
  exact (jsCons (jsSet (i := 1) sc.nd jDR)
    (jsCons (jsFor PassesOwn.never rfl sim_gname (jiL (jv 0)) (jg 2 sc.nd)
    (jsOne (jsFor PassesOwn.never rfl sim_gname (jiR1 (by rfl) n_range (jCons (jAdd (jB call_lenA vo_len (by rfl) n_len boot_len (jCons (jv 2) jNil)) jInt) jNil)) (jg 3 sc.nd)
    (jsOne (jsDP (by exact hu) (jv 1) (jSl (jv 2) joNone (joSome (jv 3))) jBl)))))
    (jsOne (jsRet (jSortK (k := 0) (by exact TB) (by exact hcode) (by exact hmT) (by exact huT) (by exact hr.mono (by decide)) (by rfl) n_sorted n_len (jv 1))))))
def e1_letters_behind : SE :=
  (eOp2 gIx (eVar 3) (eNeg (eC (.int 1))))
def c1_letters_behind : ST :=
  (cAnd (cB (eOp2 gNeB (eVar 3) (eC (.str "")))) (cB (eOp2 gEqB (eSl (eVar 3) oNo (oE (eNeg (eC (.int 1))))) (eVar 2))))
def v2_letters_behind : SE :=
  (toV (lc (iE itL (eVar 1)) [3] (kName 3) c1_letters_behind e1_letters_behind))
def g_letters_behind : SS :=
  (sSeq (sSet 1 (eN (gF 1 (liftV (fV F_all_states))) (aCons (eVar 0) aNil)))
  (sRet (dToR (dc (iE itL (eVar 1)) [2] (kName 2) cYes (eVar 2) v2_letters_behind))))
def F_letters_behind : List Dt → Sto → Option (Dt × Sto) := bodyF g_letters_behind 4
theorem ok_letters_behind {T : List (Addr × Str)} {P : Program} {w : World} {K : PySem.W.Frag} {mg : Str → Option Value} {base : Heap} {f : Addr} {fd : FuncData} (F : FnP K "letters_behind" s_letters_behind f fd) (cV_all_states : GP P w K mg base 3 "all_states" ["words"] (SpF T 1 (liftV (fV F_all_states)))) :
    GFn P w K mg base 4 f fd ["words"] (SpF T 1 F_letters_behind) := by
  refine gfnJ (k := 3) (N := N_letters_behind) (ps := ["words"]) F sc_letters_behind fun A outer s H hr hg => ?_
  have sc := sc_letters_behind
  have hu := hr.units
  have hu1 := hu_of hr
  exact (jsCons (jsSet (i := 1) sc.nd (jCallP (k := 3) (x := "all_states") (ps := ["words"]) (F := (liftV (fV F_all_states))) (by exact cV_all_states) (by exact hr.mono (by decide)) (by exact hg) (by rfl) (jCons (jv 0) jNil)))
    (jsOne (jsRet (jDcR (own := [("state", 2)]) rfl sc.nd sim_gname (jiL (jv 1)) (blkOk_by (by rfl)) (fun _ _ _ _ _ => (jg 2 sc.nd)) (fun _ _ _ _ _ => jtNil) (fun _ _ _ _ _ => (jv 2)) (fun _ _ _ _ _ => (jLcV (own := [("other", 3)]) rfl sc.nd sim_gname (jiL (jv 1)) (blkOk_by (by rfl)) (fun _ _ _ _ _ => (jg 3 sc.nd)) (fun _ _ _ _ _ => (jtOne (PW.pt (jwAnd (jtCmp (op_NeZ (by exact hr)) vo_NeZ (jv 3) jStr) (jwAnd1 (jtCmp (op_EqZ (by exact hr)) vo_EqZ (jSl (jv 3) joNone (joSome (jNeg jInt))) (jv 2))))))) (fun _ _ _ _ _ => (jIx (by exact hu) (jv 3) (jNeg jInt))) (by decide))) (by decide)))))
def g_check_state : SS :=
  (sIf (cOr (cNot (cB (eN (gIs "str") (aCons (eVar 0) aNil)))) (cB (eOp2 (gIn true) (eVar 0) (eN (gF 1 (liftV (fV F_all_states))) (aCons (eVar 1) aNil)))))
  sNo
  sNx)
def F_check_state : List Dt → Sto → Option (Dt × Sto) := bodyF g_check_state 2
theorem ok_check_state {T : List (Addr × Str)} {P : Program} {w : World} {K : PySem.W.Frag} {mg : Str → Option Value} {base : Heap} {f : Addr} {fd : FuncData} (F : FnP K "check_state" s_check_state f fd) (cV_all_states : GP P w K mg base 3 "all_states" ["words"] (SpF T 1 (liftV (fV F_all_states)))) (n_isinstance : mg "isinstance" = none) (n_str : mg "str" = none) :
    GFn P w K mg base 4 f fd ["state", "words"] (SpF T 2 F_check_state) := by
  refine gfnJ (k := 3) (N := N_check_state) (ps := ["state", "words"]) F sc_check_state fun A outer s H hr hg => ?_
  have sc := sc_check_state
  have hu := hr.units
  have hu1 := hu_of hr
  exact (jsOne (jsIf (PW.pt (jwOr (jtNot (jtVal (jIsi (by rfl) n_isinstance (by rfl) n_str boot_str (jv 0)))) (jwOr1 (jtCmp (op_NotInA (by exact hu1)) vo_In (jv 0) (jCallP (k := 3) (x := "all_states") (ps := ["words"]) (F := (liftV (fV F_all_states))) (by exact cV_all_states) (by exact hr.mono (by decide)) (by exact hg) (by rfl) (jCons (jv 1) jNil))))))
    jsNo
    jsNil))
def e1_ends_in : SE :=
  (eVar 2)
def c1_ends_in : ST :=
  (cAnd (cB (eOp2 gLt (eN gLen (aCons (eVar 2) aNil)) (eN gLen (aCons (eVar 1) aNil)))) (cB (eM isS gEnds (eVar 1) (aCons (eVar 2) aNil))))
def g_ends_in : SS :=
  (sRet (toR (lc (iE itL (eN (gF 1 (liftV (fV F_all_states))) (aCons (eVar 0) aNil))) [2] (kName 2) c1_ends_in e1_ends_in)))
def F_ends_in : List Dt → Sto → Option (Dt × Sto) := bodyF g_ends_in 3
theorem ok_ends_in {T : List (Addr × Str)} {P : Program} {w : World} {K : PySem.W.Frag} {mg : Str → Option Value} {base : Heap} {f : Addr} {fd : FuncData} (F : FnP K "ends_in" s_ends_in f fd) (cV_all_states : GP P w K mg base 3 "all_states" ["words"] (SpF T 1 (liftV (fV F_all_states)))) (n_len : mg "len" = none) :
    GFn P w K mg base 4 f fd ["words", "state"] (SpF T 2 F_ends_in) := by
  refine gfnJ (k := 3) (N := N_ends_in) (ps := ["words", "state"]) F sc_ends_in fun A outer s H hr hg => ?_
  have sc := sc_ends_in
  have hu := hr.units
  have hu1 := hu_of hr
  exact (jsOne (jsRet (jLcR (own := [("other", 2)]) rfl sc.nd sim_gname (jiL (jCallP (k := 3) (x := "all_states") (ps := ["words"]) (F := (liftV (fV F_all_states))) (by exact cV_all_states) (by exact hr.mono (by decide)) (by exact hg) (by rfl) (jCons (jv 0) jNil))) (blkOk_by (by rfl)) (fun _ _ _ _ _ => (jg 2 sc.nd)) (fun _ _ _ _ _ => (jtOne (PW.pt (jwAnd (jtCmp op_lt vLt (jB call_lenA vo_len (by rfl) n_len boot_len (jCons (jv 2) jNil)) (jB call_lenA vo_len (by rfl) n_len boot_len (jCons (jv 1) jNil))) (jwAnd1 (jtVal (jEnds (jv 1) (jCons (jv 2) jNil)))))))) (fun _ _ _ _ _ => (jv 2)) (by decide))))
def e1_check_table : SE :=
  (eOp2 (gIn false) (eVar 3) (eVar 0))
def b2_check_table : SS :=
  (sSeq (sSet 4 (eOp2 gIx (eVar 0) (eVar 3)))
  (sIf (cOr (cNot (cB (eN (gIs "str") (aCons (eVar 4) aNil)))) (cOr (cB (eOp2 (gIn true) (eVar 4) (eVar 2))) (cB (eOp2 gGe (eN gLen (aCons (eVar 4) aNil)) (eN gLen (aCons (eVar 3) aNil))))))
  sNo
  sNx))
def g_check_table : SS :=
  (sSeq (sSet 2 (eN (gF 1 (liftV (fV F_all_states))) (aCons (eVar 1) aNil)))
  (sSeq (sIf (cOr (cNot (cB (eN (gIs "dict") (aCons (eVar 0) aNil)))) (cOr (cB (eOp2 gNeB (eN gLen (aCons (eVar 0) aNil)) (eOp2 gMin (eN gLen (aCons (eVar 2) aNil)) (eC (.int 1))))) (cNot (cB (eN gAll (aCons (toV (lc (iE itL (eSl (eVar 2) (oE (eC (.int 1))) oNo)) [3] (kName 3) cYes e1_check_table)) aNil))))))
  sNo
  sNx)
  (sFor (iE itL (eSl (eVar 2) (oE (eC (.int 1))) oNo)) (kName 3)
  b2_check_table)))
def F_check_table : List Dt → Sto → Option (Dt × Sto) := bodyF g_check_table 5
theorem ok_check_table {T : List (Addr × Str)} {P : Program} {w : World} {K : PySem.W.Frag} {mg : Str → Option Value} {base : Heap} {f : Addr} {fd : FuncData} (F : FnP K "check_table" s_check_table f fd) (cV_all_states : GP P w K mg base 3 "all_states" ["words"] (SpF T 1 (liftV (fV F_all_states)))) (n_all : mg "all" = none) (n_dict : mg "dict" = none) (n_isinstance : mg "isinstance" = none) (n_len : mg "len" = none) (n_str : mg "str" = none) :
    GFn P w K mg base 4 f fd ["table", "words"] (SpF T 2 F_check_table) := by
  refine gfnJ (k := 3) (N := N_check_table) (ps := ["table", "words"]) F sc_check_table fun A outer s H hr hg => ?_
  have sc := sc_check_table
  have hu := hr.units
  have hu1 := hu_of hr
  exact (jsCons (jsSet (i := 2) sc.nd (jCallP (k := 3) (x := "all_states") (ps := ["words"]) (F := (liftV (fV F_all_states))) (by exact cV_all_states) (by exact hr.mono (by decide)) (by exact hg) (by rfl) (jCons (jv 1) jNil)))
    (jsCons (jsIf (PW.pt (jwOr (jtNot (jtVal (jIsi (by rfl) n_isinstance (by rfl) n_dict boot_dict (jv 0)))) (jwOr (jtCmp (op_NeZ (by exact hr)) vo_NeZ (jB call_lenA vo_len (by rfl) n_len boot_len (jCons (jv 0) jNil)) (jMin (jB call_lenA vo_len (by rfl) n_len boot_len (jCons (jv 2) jNil)) jInt)) (jwOr1 (jtNot (jtVal (jB (cr_all rfl) vo_all (by rfl) n_all boot_all (jCons (jLcV (own := [("state", 3)]) rfl sc.nd sim_gname (jiL (jSl (jv 2) (joSome jInt) joNone)) (blkOk_by (by rfl)) (fun _ _ _ _ _ => (jg 3 sc.nd)) (fun _ _ _ _ _ => jtNil) (fun _ _ _ _ _ => (jCmp (op_InA (by exact hu1)) vo_In (jv 3) (jv 0))) (by decide)) jNil))))))))
    jsNo
    jsNil)
    (jsOne (jsFor PassesOwn.never rfl sim_gname (jiL (jSl (jv 2) (joSome jInt) joNone)) (jg 3 sc.nd)
    (jsCons (jsSet (i := 4) sc.nd (jIx (by exact hu) (jv 0) (jv 3)))
    (jsOne (jsIf (PW.pt (jwOr (jtNot (jtVal (jIsi (by rfl) n_isinstance (by rfl) n_str boot_str (jv 4)))) (jwOr (jtCmp (op_NotInA (by exact hu1)) vo_In (jv 4) (jv 2)) (jwOr1 (jtCmp op_ge vGe (jB call_lenA vo_len (by rfl) n_len boot_len (jCons (jv 4) jNil)) (jB call_lenA vo_len (by rfl) n_len boot_len (jCons (jv 3) jNil)))))))
    jsNo
    jsNil)))))))
def g_check_search : SS :=
  (sSeq (sEx (eN (gF 1 (liftV (fV F_check_words))) (aCons (eVar 0) aNil)))
  (sEx (eN (gF 2 (liftV (fV F_check_table))) (aCons (eVar 1) (aCons (eVar 0) aNil)))))
def F_check_search : List Dt → Sto → Option (Dt × Sto) := bodyF g_check_search 2
theorem ok_check_search {T : List (Addr × Str)} {P : Program} {w : World} {K : PySem.W.Frag} {mg : Str → Option Value} {base : Heap} {f : Addr} {fd : FuncData} (F : FnP K "check_search" s_check_search f fd) (cV_check_words : GP P w K mg base 2 "check_words" ["words"] (SpF T 1 (liftV (fV F_check_words)))) (cV_check_table : GP P w K mg base 4 "check_table" ["table", "words"] (SpF T 2 (liftV (fV F_check_table)))) :
    GFn P w K mg base 5 f fd ["words", "table"] (SpF T 2 F_check_search) := by
  refine gfnJ (k := 4) (N := N_check_search) (ps := ["words", "table"]) F sc_check_search fun A outer s H hr hg => ?_
  have sc := sc_check_search
  have hu := hr.units
  have hu1 := hu_of hr
  exact (jsCons (jsEx (jCallP (k := 2) (x := "check_words") (ps := ["words"]) (F := (liftV (fV F_check_words))) (by exact cV_check_words) (by exact hr.mono (by decide)) (by exact hg) (by rfl) (jCons (jv 0) jNil)))
    (jsOne (jsEx (jCallP (k := 4) (x := "check_table") (ps := ["table", "words"]) (F := (liftV (fV F_check_table))) (by exact cV_check_table) (by exact hr.mono (by decide)) (by exact hg) (by rfl) (jCons (jv 1) (jCons (jv 0) jNil))))))
def e1_goes_beyond : SE :=
  (eOp2 (gIn true) (eVar 3) (eOp2 gIx (eVar 0) (eVar 2)))
def g_goes_beyond : SS :=
  (sRet (eN gAny (aCons (toV (lc (iE itL (eOp2 gIx (eVar 0) (eVar 1))) [3] (kName 3) cYes e1_goes_beyond)) aNil)))
def F_goes_beyond : List Dt → Sto → Option (Dt × Sto) := bodyF g_goes_beyond 4
theorem ok_goes_beyond {T : List (Addr × Str)} {P : Program} {w : World} {K : PySem.W.Frag} {mg : Str → Option Value} {base : Heap} {f : Addr} {fd : FuncData} (F : FnP K "goes_beyond" s_goes_beyond f fd) (n_any : mg "any" = none) :
    GFn P w K mg base 1 f fd ["behind", "other", "state"] (SpF T 3 F_goes_beyond) := by
  refine gfnJ (k := 0) (N := N_goes_beyond) (ps := ["behind", "other", "state"]) F sc_goes_beyond fun A outer s H hr hg => ?_
  have sc := sc_goes_beyond
  have hu := hr.units
  have hu1 := hu_of hr
  exact (jsOne (jsRet (jB (cr_any rfl) vo_any (by rfl) n_any boot_any (jCons (jLcV (own := [("letter", 3)]) rfl sc.nd sim_gname (jiL (jIx (by exact hu) (jv 0) (jv 1))) (blkOk_by (by rfl)) (fun _ _ _ _ _ => (jg 3 sc.nd)) (fun _ _ _ _ _ => jtNil) (fun _ _ _ _ _ => (jCmp (op_NotInA (by exact hu1)) vo_In (jv 3) (jIx (by exact hu) (jv 0) (jv 2)))) (by decide)) jNil))))
def b1_chain_in : SS :=
  (sSeq (sSet 1 (eOp2 gIx (eVar 0) (eVar 1)))
  (sEx (eM isL gApp (eVar 2) (aCons (eVar 1) aNil))))
def w1_chain_in : ST :=
  (cB (eOp2 gNeB (eVar 1) (eC (.str ""))))
def g_chain_in : SS :=
  (sSeq (sSet 2 (toR (small aNil)))
  (sSeq (sWh w1_chain_in b1_chain_in 1000)
  (sRet (eVar 2))))
def F_chain_in : List Dt → Sto → Option (Dt × Sto) := bodyF g_chain_in 3
theorem ok_chain_in {T : List (Addr × Str)} {P : Program} {w : World} {K : PySem.W.Frag} {mg : Str → Option Value} {base : Heap} {f : Addr} {fd : FuncData} (F : FnP K "chain_in" s_chain_in f fd)  :
    GFn P w K mg base 1 f fd ["table", "state"] (SpF T 2 F_chain_in) := by
  refine gfnJ (k := 0) (N := N_chain_in) (ps := ["table", "state"]) F sc_chain_in fun A outer s H hr hg => ?_
  have sc := sc_chain_in
  have hu := hr.units
  have hu1 := hu_of hr
  exact (jsCons (jsSet (i := 2) sc.nd (jLstR jNil))
    (jsCons (jsWh 1000 (jtCmp (op_NeZ (by exact hr)) vo_NeZ (jv 1) jStr)
    (jsCons (jsSet (i := 1) sc.nd (jIx (by exact hu) (jv 0) (jv 1)))
    (jsOne (jsEx (jApp (jv 2) (jCons (jv 1) jNil))))))
    (jsOne (jsRet (jv 2)))))
def e1_shortcut_in : SE :=
  (eVar 4)
def c1_shortcut_in : ST :=
  (cB (eN (gF 3 (liftV (fV F_goes_beyond))) (aCons (eVar 0) (aCons (eVar 4) (aCons (eVar 2) aNil)))))
def g_shortcut_in : SS :=
  (sSeq (sSet 3 (toV (lc (iE itL (eN (gF 2 (liftV (fV F_chain_in))) (aCons (eVar 1) (aCons (eVar 2) aNil)))) [4] (kName 4) c1_shortcut_in e1_shortcut_in)))
  (sRet (eIf (cB (eOp2 gNeB (eVar 3) (toV (small aNil)))) (eOp2 gIx (eVar 3) (eC (.int 0))) (eC .non))))
def F_shortcut_in : List Dt → Sto → Option (Dt × Sto) := bodyF g_shortcut_in 5
theorem ok_shortcut_in {T : List (Addr × Str)} {P : Program} {w : World} {K : PySem.W.Frag} {mg : Str → Option Value} {base : Heap} {f : Addr} {fd : FuncData} (F : FnP K "shortcut_in" s_shortcut_in f fd) (cV_chain_in : GP P w K mg base 1 "chain_in" ["table", "state"] (SpF T 2 (liftV (fV F_chain_in)))) (cV_goes_beyond : GP P w K mg base 1 "goes_beyond" ["behind", "other", "state"] (SpF T 3 (liftV (fV F_goes_beyond)))) :
    GFn P w K mg base 2 f fd ["behind", "table", "state"] (SpF T 3 F_shortcut_in) := by
  refine gfnJ (k := 1) (N := N_shortcut_in) (ps := ["behind", "table", "state"]) F sc_shortcut_in fun A outer s H hr hg => ?_
  have sc := sc_shortcut_in
  have hu := hr.units
  have hu1 := hu_of hr
  exact (jsCons (jsSetLc (i := 3) (own := [("other", 4)]) rfl sc.nd sim_gname (sw_true rfl rfl rfl rfl) (jiL (jCallP (k := 1) (x := "chain_in") (ps := ["table", "state"]) (F := (liftV (fV F_chain_in))) (by exact cV_chain_in) (by exact hr.mono (by decide)) (by exact hg) (by rfl) (jCons (jv 1) (jCons (jv 2) jNil)))) (blkOk_by (by rfl)) (fun _ _ _ _ _ => (jg 4 sc.nd)) (fun _ _ _ _ _ => (jtOne (jtVal (jCallP (k := 1) (x := "goes_beyond") (ps := ["behind", "other", "state"]) (F := (liftV (fV F_goes_beyond))) (by exact cV_goes_beyond) (by exact hr.mono (by decide)) (by exact hg) (by rfl) (jCons (jv 0) (jCons (jv 4) (jCons (jv 2) jNil))))))) (fun _ _ _ _ _ => (jv 4)) (by decide))
    (jsOne (jsRet (jIf (jtCmp (op_NeZ (by exact hr)) vo_NeZ (jv 3) (jLstV jNil)) (jIx (by exact hu) (jv 3) jInt) jNon))))
def v1_shortcuts_in : SE :=
  (eN (gF 3 (liftV (fV F_shortcut_in))) (aCons (eVar 2) (aCons (eVar 1) (aCons (eVar 3) aNil))))
def g_shortcuts_in : SS :=
  (sSeq (sSet 2 (eN (gF 1 (liftV (fV F_letters_behind))) (aCons (eVar 0) aNil)))
  (sRet (dToR (dc (iE itL (eSl (eN (gF 1 (liftV (fV F_all_states))) (aCons (eVar 0) aNil)) (oE (eC (.int 1))) oNo)) [3] (kName 3) cYes (eVar 3) v1_shortcuts_in))))
def F_shortcuts_in : List Dt → Sto → Option (Dt × Sto) := bodyF g_shortcuts_in 4
theorem ok_shortcuts_in {T : List (Addr × Str)} {P : Program} {w : World} {K : PySem.W.Frag} {mg : Str → Option Value} {base : Heap} {f : Addr} {fd : FuncData} (F : FnP K "shortcuts_in" s_shortcuts_in f fd) (cV_letters_behind : GP P w K mg base 4 "letters_behind" ["words"] (SpF T 1 (liftV (fV F_letters_behind)))) (cV_all_states : GP P w K mg base 3 "all_states" ["words"] (SpF T 1 (liftV (fV F_all_states)))) (cV_shortcut_in : GP P w K mg base 2 "shortcut_in" ["behind", "table", "state"] (SpF T 3 (liftV (fV F_shortcut_in)))) :
    GFn P w K mg base 5 f fd ["words", "table"] (SpF T 2 F_shortcuts_in) := by
  refine gfnJ (k := 4) (N := N_shortcuts_in) (ps := ["words", "table"]) F sc_shortcuts_in fun A outer s H hr hg => ?_
  have sc := sc_shortcuts_in
  have hu := hr.units
  have hu1 := hu_of hr
  exact (jsCons (jsSet (i := 2) sc.nd (jCallP (k := 4) (x := "letters_behind") (ps := ["words"]) (F := (liftV (fV F_letters_behind))) (by exact cV_letters_behind) (by exact hr.mono (by decide)) (by exact hg) (by rfl) (jCons (jv 0) jNil)))
    (jsOne (jsRet (jDcR (own := [("state", 3)]) rfl sc.nd sim_gname (jiL (jSl (jCallP (k := 3) (x := "all_states") (ps := ["words"]) (F := (liftV (fV F_all_states))) (by exact cV_all_states) (by exact hr.mono (by decide)) (by exact hg) (by rfl) (jCons (jv 0) jNil)) (joSome jInt) joNone)) (blkOk_by (by rfl)) (fun _ _ _ _ _ => (jg 3 sc.nd)) (fun _ _ _ _ _ => jtNil) (fun _ _ _ _ _ => (jv 3)) (fun _ _ _ _ _ => (jCallP (k := 2) (x := "shortcut_in") (ps := ["behind", "table", "state"]) (F := (liftV (fV F_shortcut_in))) (by exact cV_shortcut_in) (by exact hr.mono (by decide)) (by exact hg) (by rfl) (jCons (jv 2) (jCons (jv 1) (jCons (jv 3) jNil))))) (by decide)))))
def v1_true_in : SE :=
  (eOp2 gIx (eN (gF 2 (liftV (fV F_ends_in))) (aCons (eVar 0) (aCons (eVar 1) aNil))) (eNeg (eC (.int 1))))
def g_true_in : SS :=
  (sRet (dToR (dc (iE itL (eSl (eN (gF 1 (liftV (fV F_all_states))) (aCons (eVar 0) aNil)) (oE (eC (.int 1))) oNo)) [1] (kName 1) cYes (eVar 1) v1_true_in)))
def F_true_in : List Dt → Sto → Option (Dt × Sto) := bodyF g_true_in 2
theorem ok_true_in {T : List (Addr × Str)} {P : Program} {w : World} {K : PySem.W.Frag} {mg : Str → Option Value} {base : Heap} {f : Addr} {fd : FuncData} (F : FnP K "true_in" s_true_in f fd) (cV_all_states : GP P w K mg base 3 "all_states" ["words"] (SpF T 1 (liftV (fV F_all_states)))) (cV_ends_in : GP P w K mg base 4 "ends_in" ["words", "state"] (SpF T 2 (liftV (fV F_ends_in)))) :
    GFn P w K mg base 5 f fd ["words"] (SpF T 1 F_true_in) := by
  refine gfnJ (k := 4) (N := N_true_in) (ps := ["words"]) F sc_true_in fun A outer s H hr hg => ?_
  have sc := sc_true_in
  have hu := hr.units
  have hu1 := hu_of hr
  exact (jsOne (jsRet (jDcR (own := [("state", 1)]) rfl sc.nd sim_gname (jiL (jSl (jCallP (k := 3) (x := "all_states") (ps := ["words"]) (F := (liftV (fV F_all_states))) (by exact cV_all_states) (by exact hr.mono (by decide)) (by exact hg) (by rfl) (jCons (jv 0) jNil)) (joSome jInt) joNone)) (blkOk_by (by rfl)) (fun _ _ _ _ _ => (jg 1 sc.nd)) (fun _ _ _ _ _ => jtNil) (fun _ _ _ _ _ => (jv 1)) (fun _ _ _ _ _ => (jIx (by exact hu) (jCallP (k := 4) (x := "ends_in") (ps := ["words", "state"]) (F := (liftV (fV F_ends_in))) (by exact cV_ends_in) (by exact hr.mono (by decide)) (by exact hg) (by rfl) (jCons (jv 0) (jCons (jv 1) jNil))) (jNeg jInt))) (by decide))))
def g_true_table : SS :=
  (sSeq (sEx (eN (gF 1 (liftV (fV F_check_words))) (aCons (eVar 0) aNil)))
  (sRet (eN (gF 1 (liftR (fR F_true_in))) (aCons (eVar 0) aNil))))
def F_true_table : List Dt → Sto → Option (Dt × Sto) := bodyF g_true_table 1
theorem ok_true_table {T : List (Addr × Str)} {P : Program} {w : World} {K : PySem.W.Frag} {mg : Str → Option Value} {base : Heap} {f : Addr} {fd : FuncData} (F : FnP K "true_table" s_true_table f fd) (cV_check_words : GP P w K mg base 2 "check_words" ["words"] (SpF T 1 (liftV (fV F_check_words)))) (cR_true_in : GP P w K mg base 5 "true_in" ["words"] (SpF T 1 (liftR (fR F_true_in)))) :
    GFn P w K mg base 6 f fd ["words"] (SpF T 1 F_true_table) := by
  refine gfnJ (k := 5) (N := N_true_table) (ps := ["words"]) F sc_true_table fun A outer s H hr hg => ?_
  have sc := sc_true_table
  have hu := hr.units
  have hu1 := hu_of hr
  exact (jsCons (jsEx (jCallP (k := 2) (x := "check_words") (ps := ["words"]) (F := (liftV (fV F_check_words))) (by exact cV_check_words) (by exact hr.mono (by decide)) (by exact hg) (by rfl) (jCons (jv 0) jNil)))
    (jsOne (jsRet (jCallP (k := 5) (x := "true_in") (ps := ["words"]) (F := (liftR (fR F_true_in))) (by exact cR_true_in) (by exact hr.mono (by decide)) (by exact hg) (by rfl) (jCons (jv 0) jNil)))))
def v1_new_table : SE :=
  (eC (.str ""))
def g_new_table : SS :=
  (sSeq (sEx (eN (gF 1 (liftV (fV F_check_words))) (aCons (eVar 0) aNil)))
  (sRet (dToR (dc (iE itL (eSl (eN (gF 1 (liftV (fV F_all_states))) (aCons (eVar 0) aNil)) (oE (eC (.int 1))) oNo)) [1] (kName 1) cYes (eVar 1) v1_new_table))))
def F_new_table : List Dt → Sto → Option (Dt × Sto) := bodyF g_new_table 2
theorem ok_new_table {T : List (Addr × Str)} {P : Program} {w : World} {K : PySem.W.Frag} {mg : Str → Option Value} {base : Heap} {f : Addr} {fd : FuncData} (F : FnP K "new_table" s_new_table f fd) (cV_check_words : GP P w K mg base 2 "check_words" ["words"] (SpF T 1 (liftV (fV F_check_words)))) (cV_all_states : GP P w K mg base 3 "all_states" ["words"] (SpF T 1 (liftV (fV F_all_states)))) :
    GFn P w K mg base 4 f fd ["words"] (SpF T 1 F_new_table) := by
  refine gfnJ (k := 3) (N := N_new_table) (ps := ["words"]) F sc_new_table fun A outer s H hr hg => ?_
  have sc := sc_new_table
  have hu := hr.units
  have hu1 := hu_of hr
  exact (jsCons (jsEx (jCallP (k := 2) (x := "check_words") (ps := ["words"]) (F := (liftV (fV F_check_words))) (by exact cV_check_words) (by exact hr.mono (by decide)) (by exact hg) (by rfl) (jCons (jv 0) jNil)))
    (jsOne (jsRet (jDcR (own := [("state", 1)]) rfl sc.nd sim_gname (jiL (jSl (jCallP (k := 3) (x := "all_states") (ps := ["words"]) (F := (liftV (fV F_all_states))) (by exact cV_all_states) (by exact hr.mono (by decide)) (by exact hg) (by rfl) (jCons (jv 0) jNil)) (joSome jInt) joNone)) (blkOk_by (by rfl)) (fun _ _ _ _ _ => (jg 1 sc.nd)) (fun _ _ _ _ _ => jtNil) (fun _ _ _ _ _ => (jv 1)) (fun _ _ _ _ _ => jStr) (by decide)))))
def g_chain : SS :=
  (sSeq (sEx (eN (gF 2 (liftV (fV F_check_search))) (aCons (eVar 0) (aCons (eVar 1) aNil))))
  (sSeq (sEx (eN (gF 2 (liftV (fV F_check_state))) (aCons (eVar 2) (aCons (eVar 0) aNil))))
  (sRet (eN (gF 2 (liftR (fR F_chain_in))) (aCons (eVar 1) (aCons (eVar 2) aNil))))))
def F_chain : List Dt → Sto → Option (Dt × Sto) := bodyF g_chain 3
theorem ok_chain {T : List (Addr × Str)} {P : Program} {w : World} {K : PySem.W.Frag} {mg : Str → Option Value} {base : Heap} {f : Addr} {fd : FuncData} (F : FnP K "chain" s_chain f fd) (cV_check_search : GP P w K mg base 5 "check_search" ["words", "table"] (SpF T 2 (liftV (fV F_check_search)))) (cV_check_state : GP P w K mg base 4 "check_state" ["state", "words"] (SpF T 2 (liftV (fV F_check_state)))) (cR_chain_in : GP P w K mg base 1 "chain_in" ["table", "state"] (SpF T 2 (liftR (fR F_chain_in)))) :
    GFn P w K mg base 6 f fd ["words", "table", "state"] (SpF T 3 F_chain) := by
  refine gfnJ (k := 5) (N := N_chain) (ps := ["words", "table", "state"]) F sc_chain fun A outer s H hr hg => ?_
  have sc := sc_chain
  have hu := hr.units
  have hu1 := hu_of hr
  exact (jsCons (jsEx (jCallP (k := 5) (x := "check_search") (ps := ["words", "table"]) (F := (liftV (fV F_check_search))) (by exact cV_check_search) (by exact hr.mono (by decide)) (by exact hg) (by rfl) (jCons (jv 0) (jCons (jv 1) jNil))))
    (jsCons (jsEx (jCallP (k := 4) (x := "check_state") (ps := ["state", "words"]) (F := (liftV (fV F_check_state))) (by exact cV_check_state) (by exact hr.mono (by decide)) (by exact hg) (by rfl) (jCons (jv 2) (jCons (jv 0) jNil))))
    (jsOne (jsRet (jCallP (k := 1) (x := "chain_in") (ps := ["table", "state"]) (F := (liftR (fR F_chain_in))) (by exact cR_chain_in) (by exact hr.mono (by decide)) (by exact hg) (by rfl) (jCons (jv 1) (jCons (jv 2) jNil)))))))
def g_shortcuts : SS :=
  (sSeq (sEx (eN (gF 2 (liftV (fV F_check_search))) (aCons (eVar 0) (aCons (eVar 1) aNil))))
  (sRet (eN (gF 2 (liftR (fR F_shortcuts_in))) (aCons (eVar 0) (aCons (eVar 1) aNil)))))
def F_shortcuts : List Dt → Sto → Option (Dt × Sto) := bodyF g_shortcuts 2
theorem ok_shortcuts {T : List (Addr × Str)} {P : Program} {w : World} {K : PySem.W.Frag} {mg : Str → Option Value} {base : Heap} {f : Addr} {fd : FuncData} (F : FnP K "shortcuts" s_shortcuts f fd) (cV_check_search : GP P w K mg base 5 "check_search" ["words", "table"] (SpF T 2 (liftV (fV F_check_search)))) (cR_shortcuts_in : GP P w K mg base 5 "shortcuts_in" ["words", "table"] (SpF T 2 (liftR (fR F_shortcuts_in)))) :
    GFn P w K mg base 6 f fd ["words", "table"] (SpF T 2 F_shortcuts) := by
  refine gfnJ (k := 5) (N := N_shortcuts) (ps := ["words", "table"]) F sc_shortcuts fun A outer s H hr hg => ?_
  have sc := sc_shortcuts
  have hu := hr.units
  have hu1 := hu_of hr
  exact (jsCons (jsEx (jCallP (k := 5) (x := "check_search") (ps := ["words", "table"]) (F := (liftV (fV F_check_search))) (by exact cV_check_search) (by exact hr.mono (by decide)) (by exact hg) (by rfl) (jCons (jv 0) (jCons (jv 1) jNil))))
    (jsOne (jsRet (jCallP (k := 5) (x := "shortcuts_in") (ps := ["words", "table"]) (F := (liftR (fR F_shortcuts_in))) (by exact cR_shortcuts_in) (by exact hr.mono (by decide)) (by exact hg) (by rfl) (jCons (jv 0) (jCons (jv 1) jNil))))))
def g__law_draws : SS :=
  (sRet (toR (small (aCons (eOp2 gMod (eN gInt (aCons (eVar 0) aNil)) (eOp2 gPow (eOp2 gPow (eOp2 gPow (eC (.int 10)) (eC (.int 60))) (eC (.int 60))) (eC (.int 4)))) (aCons (eC (.int 0)) (aCons (eOp2 gGe (eVar 0) (eOp2 gPow (eC (.int 10)) (eC (.int 18)))) aNil))))))
def F__law_draws : List Dt → Sto → Option (Dt × Sto) := bodyF g__law_draws 1
theorem ok__law_draws {T : List (Addr × Str)} {P : Program} {w : World} {K : PySem.W.Frag} {mg : Str → Option Value} {base : Heap} {f : Addr} {fd : FuncData} (F : FnP K "_law_draws" s__law_draws f fd) (n_int : mg "int" = none) :
    GFn P w K mg base 1 f fd ["_law_cell"] (SpF T 1 F__law_draws) := by
  refine gfnJ (k := 0) (N := N__law_draws) (ps := ["_law_cell"]) F sc__law_draws fun A outer s H hr hg => ?_
  have sc := sc__law_draws
  have hu := hr.units
  have hu1 := hu_of hr
  exact (jsOne (jsRet (jLstR (jCons (jMod (jTy call_int1 vo_int (by rfl) n_int boot_int (jCons (jv 0) jNil)) (jPow (jPow (jPow jInt jInt) jInt) jInt)) (jCons jInt (jCons (jCmp op_ge vGe (jv 0) (jPow jInt jInt)) jNil))))))
def g__law_next : SS :=
  (sSeq (sLP (eVar 0) (eC (.int 1)) (eOp2 gAdd (eOp2 gIx (eVar 0) (eC (.int 1))) (eC (.int 1))))
  (sSeq (sSet 1 (eOp2 gIx (eVar 0) (eC (.int 1))))
  (sSeq (sIf (cB (eOp2 gIx (eVar 0) (eC (.int 2))))
  (sSeq (sSet 2 (eOp2 gMod (eN gInt (aCons (eOp2 gIx (eVar 0) (eC (.int 0))) aNil)) (eOp2 gPow (eC (.int 10)) (eC (.int 6)))))
  (sSeq (sLP (eVar 0) (eC (.int 0)) (eOp2 gDiv (eOp2 gIx (eVar 0) (eC (.int 0))) (eOp2 gPow (eC (.int 10)) (eC (.int 6)))))
  (sRet (eVar 2))))
  sNx)
  (sSeq (sSet 2 (eOp2 gMod (eN gInt (aCons (eOp2 gMulA (eOp2 gAdd (eOp2 gAdd (eOp2 gMod (eN gInt (aCons (eOp2 gIx (eVar 0) (eC (.int 0))) aNil)) (eC (.int 1000003))) (eOp2 gMulA (eOp2 gMulA (eVar 1) (eVar 1)) (eC (.int 7919)))) (eVar 1)) (eC (.int 48271))) aNil)) (eC (.int 2147483629))))
  (sSeq (sSet 2 (eOp2 gMod (eN gInt (aCons (eOp2 gMulA (eVar 2) (eVar 2)) aNil)) (eC (.int 2147483587))))
  (sRet (eOp2 gDiv (eOp2 gMod (eN gInt (aCons (eOp2 gMulA (eVar 2) (eOp2 gAdd (eVar 2) (eC (.int 2)))) aNil)) (eC (.int 2147483579))) (eC (.int 7)))))))))
def F__law_next : List Dt → Sto → Option (Dt × Sto) := bodyF g__law_next 3
theorem ok__law_next {T : List (Addr × Str)} {P : Program} {w : World} {K : PySem.W.Frag} {mg : Str → Option Value} {base : Heap} {f : Addr} {fd : FuncData} (F : FnP K "_law_next" s__law_next f fd) (n_int : mg "int" = none) :
    GFn P w K mg base 1 f fd ["_law_draws_here"] (SpF T 1 F__law_next) := by
  refine gfnJ (k := 0) (N := N__law_next) (ps := ["_law_draws_here"]) F sc__law_next fun A outer s H hr hg => ?_
  have sc := sc__law_next
  have hu := hr.units
  have hu1 := hu_of hr
  exact (jsCons (jsLP (jv 0) jInt (jAdd (jIx (by exact hu) (jv 0) jInt) jInt))
    (jsCons (jsSet (i := 1) sc.nd (jIx (by exact hu) (jv 0) jInt))
    (jsCons (jsIf (jtVal (jIx (by exact hu) (jv 0) jInt))
    (jsCons (jsSet (i := 2) sc.nd (jMod (jTy call_int1 vo_int (by rfl) n_int boot_int (jCons (jIx (by exact hu) (jv 0) jInt) jNil)) (jPow jInt jInt)))
    (jsCons (jsLP (jv 0) jInt (jDiv (jIx (by exact hu) (jv 0) jInt) (jPow jInt jInt)))
    (jsOne (jsRet (jv 2)))))
    jsNil)
    (jsCons (jsSet (i := 2) sc.nd (jMod (jTy call_int1 vo_int (by rfl) n_int boot_int (jCons (jMulA (jAdd (jAdd (jMod (jTy call_int1 vo_int (by rfl) n_int boot_int (jCons (jIx (by exact hu) (jv 0) jInt) jNil)) jInt) (jMulA (jMulA (jv 1) (jv 1)) jInt)) (jv 1)) jInt) jNil)) jInt))
    (jsCons (jsSet (i := 2) sc.nd (jMod (jTy call_int1 vo_int (by rfl) n_int boot_int (jCons (jMulA (jv 2) (jv 2)) jNil)) jInt))
    (jsOne (jsRet (jDiv (jMod (jTy call_int1 vo_int (by rfl) n_int boot_int (jCons (jMulA (jv 2) (jAdd (jv 2) jInt)) jNil)) jInt) jInt))))))))
def e1__law_words : SE :=
  (eOp2 gIx (eVar 2) (eOp2 gMod (eN gInt (aCons (eN (gF 1 (liftE (fE F__law_next))) (aCons (eVar 0) aNil)) aNil)) (eN gLen (aCons (eVar 2) aNil))))
def b2__law_words : SS :=
  (sSeq (sSet 6 (eM1 gJoin (eC (.str "")) (toV (lc (iR rg1 (aCons (eVar 3) aNil)) [7] (kName 7) cYes e1__law_words))))
  (sIf (cB (eOp2 (gIn true) (eVar 6) (eVar 4)))
  (sEx (eM isL gApp (eVar 4) (aCons (eVar 6) aNil)))
  sNx))
def g__law_words : SS :=
  (sSeq (sSet 2 (eOp2 gIx (toV (small (aCons (eC (.str "ab")) (aCons (eC (.str "ab")) (aCons (eC (.str "abc")) (aCons (eC (.str "!~z")) aNil)))))) (eOp2 gMod (eN gInt (aCons (eN (gF 1 (liftE (fE F__law_next))) (aCons (eVar 0) aNil)) aNil)) (eC (.int 4)))))
  (sSeq (sSet 3 (eOp2 gAdd (eC (.int 1)) (eOp2 gMod (eN gInt (aCons (eN (gF 1 (liftE (fE F__law_next))) (aCons (eVar 0) aNil)) aNil)) (eVar 1))))
  (sSeq (sSet 4 (toR (small aNil)))
  (sSeq (sFor (iR rg1 (aCons (eOp2 gAdd (eC (.int 1)) (eOp2 gMod (eN gInt (aCons (eN (gF 1 (liftE (fE F__law_next))) (aCons (eVar 0) aNil)) aNil)) (eC (.int 5)))) aNil)) (kName 5)
  b2__law_words)
  (sRet (eVar 4))))))
def F__law_words : List Dt → Sto → Option (Dt × Sto) := bodyF g__law_words 8
theorem ok__law_words {T : List (Addr × Str)} {P : Program} {w : World} {K : PySem.W.Frag} {mg : Str → Option Value} {base : Heap} {f : Addr} {fd : FuncData} (F : FnP K "_law_words" s__law_words f fd) (cE__law_next : GP P w K mg base 1 "_law_next" ["_law_draws_here"] (SpF T 1 (liftE (fE F__law_next)))) (n_int : mg "int" = none) (n_len : mg "len" = none) (n_range : mg "range" = none) :
    GFn P w K mg base 2 f fd ["_law_draws_here", "_law_most"] (SpF T 2 F__law_words) := by
  refine gfnJ (k := 1) (N := N__law_words) (ps := ["_law_draws_here", "_law_most"]) F sc__law_words fun A outer s H hr hg => ?_
  have sc := sc__law_words
  have hu := hr.units
  have hu1 := hu_of hr
  exact (jsCons (jsSet (i := 2) sc.nd (jIx (by exact hu) (jLstV (jCons jStr (jCons jStr (jCons jStr (jCons jStr jNil))))) (jMod (jTy call_int1 vo_int (by rfl) n_int boot_int (jCons (jCallP (k := 1) (x := "_law_next") (ps := ["_law_draws_here"]) (F := (liftE (fE F__law_next))) (by exact cE__law_next) (by exact hr.mono (by decide)) (by exact hg) (by rfl) (jCons (jv 0) jNil)) jNil)) jInt)))
    (jsCons (jsSet (i := 3) sc.nd (jAdd jInt (jMod (jTy call_int1 vo_int (by rfl) n_int boot_int (jCons (jCallP (k := 1) (x := "_law_next") (ps := ["_law_draws_here"]) (F := (liftE (fE F__law_next))) (by exact cE__law_next) (by exact hr.mono (by decide)) (by exact hg) (by rfl) (jCons (jv 0) jNil)) jNil)) (jv 1))))
    (jsCons (jsSet (i := 4) sc.nd (jLstR jNil))
    (jsCons (jsFor PassesOwn.never rfl sim_gname (jiR1 (by rfl) n_range (jCons (jAdd jInt (jMod (jTy call_int1 vo_int (by rfl) n_int boot_int (jCons (jCallP (k := 1) (x := "_law_next") (ps := ["_law_draws_here"]) (F := (liftE (fE F__law_next))) (by exact cE__law_next) (by exact hr.mono (by decide)) (by exact hg) (by rfl) (jCons (jv 0) jNil)) jNil)) jInt)) jNil)) (jg 5 sc.nd)
    (jsCons (jsSet (i := 6) sc.nd (jJoin jStr (jLcV (own := [("_law_at", 7)]) rfl sc.nd sim_gname (jiR1 (by rfl) n_range (jCons (jv 3) jNil)) (blkOk_by (by rfl)) (fun _ _ _ _ _ => (jg 7 sc.nd)) (fun _ _ _ _ _ => jtNil) (fun _ _ _ _ _ => (jIx (by exact hu) (jv 2) (jMod (jTy call_int1 vo_int (by rfl) n_int boot_int (jCons (jCallP (k := 1) (x := "_law_next") (ps := ["_law_draws_here"]) (F := (liftE (fE F__law_next))) (by exact cE__law_next) (by exact hr.mono (by decide)) (by exact hg) (by rfl) (jCons (jv 0) jNil)) jNil)) (jB call_lenA vo_len (by rfl) n_len boot_len (jCons (jv 2) jNil))))) (by decide))))
    (jsOne (jsIf (jtCmp (op_NotInA (by exact hu1)) vo_In (jv 6) (jv 4))
    (jsOne (jsEx (jApp (jv 4) (jCons (jv 6) jNil))))
    jsNil))))
    (jsOne (jsRet (jv 4)))))))
def e1__law_states : SE :=
  (eSl (eVar 3) oNo (oE (eVar 2)))
def b2__law_states : SS :=
  (sSet 1 (eOp2 gAdd (eVar 1) (eN gSS (aCons (toV (lc (iE itL (eVar 0)) [3] (kName 3) cYes e1__law_states)) aNil))))
def g__law_states : SS :=
  (sSeq (sSet 1 (toV (small aNil)))
  (sSeq (sFor (iR rg1 (aCons (eOp2 gAdd (eN gLen (aCons (eOp2 gIx (eVar 0) (eC (.int 0))) aNil)) (eC (.int 1))) aNil)) (kName 2)
  b2__law_states)
  (sRet (eVar 1))))
def F__law_states : List Dt → Sto → Option (Dt × Sto) := bodyF g__law_states 4
theorem ok__law_states {T : List (Addr × Str)} {P : Program} {w : World} {K : PySem.W.Frag} {mg : Str → Option Value} {base : Heap} {f : Addr} {fd : FuncData} (F : FnP K "_law_states" s__law_states f fd) (n_len : mg "len" = none) (n_range : mg "range" = none) (n_set : mg "set" = none) (n_sorted : mg "sorted" = none) :
    GFn P w K mg base 1 f fd ["_law_some"] (SpF T 1 F__law_states) := by
  refine gfnJ (k := 0) (N := N__law_states) (ps := ["_law_some"]) F sc__law_states fun A outer s H hr hg => ?_
  have sc := sc__law_states
  have hu := hr.units
  have hu1 := hu_of hr
  exact (jsCons (jsSet (i := 1) sc.nd (jLstV jNil))
    (jsCons (jsFor PassesOwn.never rfl sim_gname (jiR1 (by rfl) n_range (jCons (jAdd (jB call_lenA vo_len (by rfl) n_len boot_len (jCons (jIx (by exact hu) (jv 0) jInt) jNil)) jInt) jNil)) (jg 2 sc.nd)
    (jsOne (jsSet (i := 1) sc.nd (jAdd (jv 1) (jSS (by rfl) (by exact hu) (by rfl) n_sorted (by rfl) n_set (jLcV (own := [("_law_word", 3)]) rfl sc.nd sim_gname (jiL (jv 0)) (blkOk_by (by rfl)) (fun _ _ _ _ _ => (jg 3 sc.nd)) (fun _ _ _ _ _ => jtNil) (fun _ _ _ _ _ => (jSl (jv 3) joNone (joSome (jv 2)))) (by decide)))))))
    (jsOne (jsRet (jv 1)))))
def e1__law_behind : SE :=
  (eSl (eVar 4) oNo (oE (eOp2 gAdd (eN gLen (aCons (eVar 1) aNil)) (eC (.int 1)))))
def c1__law_behind : ST :=
  (cAnd (cB (eOp2 gEqB (eSl (eVar 4) oNo (oE (eN gLen (aCons (eVar 1) aNil)))) (eVar 1))) (cB (eOp2 gGt (eN gLen (aCons (eVar 4) aNil)) (eN gLen (aCons (eVar 1) aNil)))))
def e2__law_behind : SE :=
  (eOp2 gIx (eVar 3) (eNeg (eC (.int 1))))
def g__law_behind : SS :=
  (sSeq (sSet 2 (eN gSS (aCons (toV (lc (iE itL (eVar 0)) [4] (kName 4) c1__law_behind e1__law_behind)) aNil)))
  (sRet (toR (lc (iE itL (eVar 2)) [3] (kName 3) cYes e2__law_behind))))
def F__law_behind : List Dt → Sto → Option (Dt × Sto) := bodyF g__law_behind 5
theorem ok__law_behind {T : List (Addr × Str)} {P : Program} {w : World} {K : PySem.W.Frag} {mg : Str → Option Value} {base : Heap} {f : Addr} {fd : FuncData} (F : FnP K "_law_behind" s__law_behind f fd) (n_len : mg "len" = none) (n_set : mg "set" = none) (n_sorted : mg "sorted" = none) :
    GFn P w K mg base 1 f fd ["_law_some", "_law_here"] (SpF T 2 F__law_behind) := by
  refine gfnJ (k := 0) (N := N__law_behind) (ps := ["_law_some", "_law_here"]) F sc__law_behind fun A outer s H hr hg => ?_
  have sc := sc__law_behind
  have hu := hr.units
  have hu1 := hu_of hr
  exact (jsCons (jsSet (i := 2) sc.nd (jSS (by rfl) (by exact hu) (by rfl) n_sorted (by rfl) n_set (jLcV (own := [("_law_word", 4)]) rfl sc.nd sim_gname (jiL (jv 0)) (blkOk_by (by rfl)) (fun _ _ _ _ _ => (jg 4 sc.nd)) (fun _ _ _ _ _ => (jtOne (PW.pt (jwAnd (jtCmp (op_EqZ (by exact hr)) vo_EqZ (jSl (jv 4) joNone (joSome (jB call_lenA vo_len (by rfl) n_len boot_len (jCons (jv 1) jNil)))) (jv 1)) (jwAnd1 (jtCmp op_gt vGt (jB call_lenA vo_len (by rfl) n_len boot_len (jCons (jv 4) jNil)) (jB call_lenA vo_len (by rfl) n_len boot_len (jCons (jv 1) jNil)))))))) (fun _ _ _ _ _ => (jSl (jv 4) joNone (joSome (jAdd (jB call_lenA vo_len (by rfl) n_len boot_len (jCons (jv 1) jNil)) jInt)))) (by decide))))
    (jsOne (jsRet (jLcR (own := [("_law_other", 3)]) rfl sc.nd sim_gname (jiL (jv 2)) (blkOk_by (by rfl)) (fun _ _ _ _ _ => (jg 3 sc.nd)) (fun _ _ _ _ _ => jtNil) (fun _ _ _ _ _ => (jIx (by exact hu) (jv 3) (jNeg jInt))) (by decide)))))
def e1__law_table : SE :=
  (eVar 11)
def c1__law_table : ST :=
  (cB (eOp2 gLt (eN gLen (aCons (eVar 11) aNil)) (eN gLen (aCons (eVar 5) aNil))))
def e2__law_table : SE :=
  (eVar 11)
def c2__law_table : ST :=
  (cB (eOp2 gEqB (eSl (eVar 5) (oE (eOp2 gMin (eN gLen (aCons (eVar 5) aNil)) (eN gLen (aCons (eVar 11) aNil)))) oNo) (eVar 11)))
def e3__law_table : SE :=
  (eVar 11)
def c3__law_table : ST :=
  (cB (eOp2 gEqB (eN gLen (aCons (eVar 11) aNil)) (eOp2 gMin (eN gLen (aCons (eVar 5) aNil)) (eC (.int 1)))))
def b4__law_table : SS :=
  (sSeq (sSet 6 (toV (lc (iE itL (eVar 3)) [11] (kName 11) c1__law_table e1__law_table)))
  (sSeq (sSet 7 (eN gInt (aCons (eN (gF 1 (liftE (fE F__law_next))) (aCons (eVar 0) aNil)) aNil)))
  (sSeq (sSet 8 (toV (lc (iE itL (eVar 6)) [11] (kName 11) c2__law_table e2__law_table)))
  (sSeq (sSet 9 (toV (lc (iE itL (eVar 6)) [11] (kName 11) c3__law_table e3__law_table)))
  (sSeq (sSet 10 (toV (small (aCons (eOp2 gIx (eVar 6) (eOp2 gMod (eOp2 gDiv (eVar 7) (eC (.int 8))) (eN gLen (aCons (eVar 6) aNil)))) (aCons (eOp2 gIx (eVar 8) (eNeg (eC (.int 1)))) (aCons (eOp2 gIx (eVar 8) (eOp2 gMod (eOp2 gDiv (eVar 7) (eC (.int 8))) (eN gLen (aCons (eVar 8) aNil)))) (aCons (eOp2 gIx (eVar 9) (eOp2 gMod (eOp2 gDiv (eVar 7) (eC (.int 8))) (eN gLen (aCons (eVar 9) aNil)))) aNil)))))))
  (sSeq (sDP (eVar 4) (eVar 5) (eOp2 gIx (eVar 10) (eVar 2)))
  (sIf (cB (eOp2 gEqB (eOp2 gMod (eVar 7) (eC (.int 8))) (eC (.int 0))))
  (sDP (eVar 4) (eVar 5) (eOp2 gIx (eVar 6) (eOp2 gMod (eOp2 gDiv (eVar 7) (eC (.int 8))) (eN gLen (aCons (eVar 6) aNil)))))
  sNx)))))))
def g__law_table : SS :=
  (sSeq (sSet 2 (eOp2 gMod (eN gInt (aCons (eN (gF 1 (liftE (fE F__law_next))) (aCons (eVar 0) aNil)) aNil)) (eC (.int 4))))
  (sSeq (sSet 3 (eN (gF 1 (liftV (fV F__law_states))) (aCons (eVar 1) aNil)))
  (sSeq (sSet 4 eDR)
  (sSeq (sFor (iE itL (eSl (eVar 3) (oE (eC (.int 1))) oNo)) (kName 5)
  b4__law_table)
  (sRet (eVar 4))))))
def F__law_table : List Dt → Sto → Option (Dt × Sto) := bodyF g__law_table 12
theorem ok__law_table {T : List (Addr × Str)} {P : Program} {w : World} {K : PySem.W.Frag} {mg : Str → Option Value} {base : Heap} {f : Addr} {fd : FuncData} (F : FnP K "_law_table" s__law_table f fd) (cE__law_next : GP P w K mg base 1 "_law_next" ["_law_draws_here"] (SpF T 1 (liftE (fE F__law_next)))) (cV__law_states : GP P w K mg base 1 "_law_states" ["_law_some"] (SpF T 1 (liftV (fV F__law_states)))) (n_int : mg "int" = none) (n_len : mg "len" = none) :
    GFn P w K mg base 2 f fd ["_law_draws_here", "_law_some"] (SpF T 2 F__law_table) := by
  refine gfnJ (k := 1) (N := N__law_table) (ps := ["_law_draws_here", "_law_some"]) F sc__law_table fun A outer s H hr hg => ?_
  have sc := sc__law_table
  have hu := hr.units
  have hu1 := hu_of hr
  exact (jsCons (jsSet (i := 2) sc.nd (jMod (jTy call_int1 vo_int (by rfl) n_int boot_int (jCons (jCallP (k := 1) (x := "_law_next") (ps := ["_law_draws_here"]) (F := (liftE (fE F__law_next))) (by exact cE__law_next) (by exact hr.mono (by decide)) (by exact hg) (by rfl) (jCons (jv 0) jNil)) jNil)) jInt))
    (jsCons (jsSet (i := 3) sc.nd (jCallP (k := 1) (x := "_law_states") (ps := ["_law_some"]) (F := (liftV (fV F__law_states))) (by exact cV__law_states) (by exact hr.mono (by decide)) (by exact hg) (by rfl) (jCons (jv 1) jNil)))
    (jsCons (jsSet (i := 4) sc.nd jDR)
    (jsCons (jsFor PassesOwn.never rfl sim_gname (jiL (jSl (jv 3) (joSome jInt) joNone)) (jg 5 sc.nd)
    (jsCons (jsSetLc (i := 6) (own := [("_law_other", 11)]) rfl sc.nd sim_gname (sw_true rfl rfl rfl rfl) (jiL (jv 3)) (blkOk_by (by rfl)) (fun _ _ _ _ _ => (jg 11 sc.nd)) (fun _ _ _ _ _ => (jtOne (jtCmp op_lt vLt (jB call_lenA vo_len (by rfl) n_len boot_len (jCons (jv 11) jNil)) (jB call_lenA vo_len (by rfl) n_len boot_len (jCons (jv 5) jNil))))) (fun _ _ _ _ _ => (jv 11)) (by decide))
    (jsCons (jsSet (i := 7) sc.nd (jTy call_int1 vo_int (by rfl) n_int boot_int (jCons (jCallP (k := 1) (x := "_law_next") (ps := ["_law_draws_here"]) (F := (liftE (fE F__law_next))) (by exact cE__law_next) (by exact hr.mono (by decide)) (by exact hg) (by rfl) (jCons (jv 0) jNil)) jNil)))
    (jsCons (jsSetLc (i := 8) (own := [("_law_other", 11)]) rfl sc.nd sim_gname (sw_true rfl rfl rfl rfl) (jiL (jv 6)) (blkOk_by (by rfl)) (fun _ _ _ _ _ => (jg 11 sc.nd)) (fun _ _ _ _ _ => (jtOne (jtCmp (op_EqZ (by exact hr)) vo_EqZ (jSl (jv 5) (joSome (jMin (jB call_lenA vo_len (by rfl) n_len boot_len (jCons (jv 5) jNil)) (jB call_lenA vo_len (by rfl) n_len boot_len (jCons (jv 11) jNil)))) joNone) (jv 11)))) (fun _ _ _ _ _ => (jv 11)) (by decide))
    (jsCons (jsSetLc (i := 9) (own := [("_law_other", 11)]) rfl sc.nd sim_gname (sw_true rfl rfl rfl rfl) (jiL (jv 6)) (blkOk_by (by rfl)) (fun _ _ _ _ _ => (jg 11 sc.nd)) (fun _ _ _ _ _ => (jtOne (jtCmp (op_EqZ (by exact hr)) vo_EqZ (jB call_lenA vo_len (by rfl) n_len boot_len (jCons (jv 11) jNil)) (jMin (jB call_lenA vo_len (by rfl) n_len boot_len (jCons (jv 5) jNil)) jInt)))) (fun _ _ _ _ _ => (jv 11)) (by decide))
    (jsCons (jsSet (i := 10) sc.nd (jLstV (jCons (jIx (by exact hu) (jv 6) (jMod (jDiv (jv 7) jInt) (jB call_lenA vo_len (by rfl) n_len boot_len (jCons (jv 6) jNil)))) (jCons (jIx (by exact hu) (jv 8) (jNeg jInt)) (jCons (jIx (by exact hu) (jv 8) (jMod (jDiv (jv 7) jInt) (jB call_lenA vo_len (by rfl) n_len boot_len (jCons (jv 8) jNil)))) (jCons (jIx (by exact hu) (jv 9) (jMod (jDiv (jv 7) jInt) (jB call_lenA vo_len (by rfl) n_len boot_len (jCons (jv 9) jNil)))) jNil))))))
    (jsCons (jsDP (by exact hu) (jv 4) (jv 5) (jIx (by exact hu) (jv 10) (jv 2)))
    (jsOne (jsIf (jtCmp (op_EqZ (by exact hr)) vo_EqZ (jMod (jv 7) jInt) jInt)
    (jsOne (jsDP (by exact hu) (jv 4) (jv 5) (jIx (by exact hu) (jv 6) (jMod (jDiv (jv 7) jInt) (jB call_lenA vo_len (by rfl) n_len boot_len (jCons (jv 6) jNil))))))
    jsNil)))))))))
    (jsOne (jsRet (jv 4)))))))
def b1__law_chain : SS :=
  (sSeq (sSet 1 (eOp2 gIx (eVar 0) (eVar 1)))
  (sEx (eM isL gApp (eVar 2) (aCons (eVar 1) aNil))))
def w1__law_chain : ST :=
  (cB (eOp2 gNeB (eVar 1) (eC (.str ""))))
def g__law_chain : SS :=
  (sSeq (sSet 2 (toR (small aNil)))
  (sSeq (sWh w1__law_chain b1__law_chain 1000)
  (sRet (eVar 2))))
def F__law_chain : List Dt → Sto → Option (Dt × Sto) := bodyF g__law_chain 3
theorem ok__law_chain {T : List (Addr × Str)} {P : Program} {w : World} {K : PySem.W.Frag} {mg : Str → Option Value} {base : Heap} {f : Addr} {fd : FuncData} (F : FnP K "_law_chain" s__law_chain f fd)  :
    GFn P w K mg base 1 f fd ["_law_rows", "_law_here"] (SpF T 2 F__law_chain) := by
  refine gfnJ (k := 0) (N := N__law_chain) (ps := ["_law_rows", "_law_here"]) F sc__law_chain fun A outer s H hr hg => ?_
  have sc := sc__law_chain
  have hu := hr.units
  have hu1 := hu_of hr
  exact (jsCons (jsSet (i := 2) sc.nd (jLstR jNil))
    (jsCons (jsWh 1000 (jtCmp (op_NeZ (by exact hr)) vo_NeZ (jv 1) jStr)
    (jsCons (jsSet (i := 1) sc.nd (jIx (by exact hu) (jv 0) (jv 1)))
    (jsOne (jsEx (jApp (jv 2) (jCons (jv 1) jNil))))))
    (jsOne (jsRet (jv 2)))))
def e1__law_shortcut : SE :=
  (eVar 5)
def c1__law_shortcut : ST :=
  (cB (eOp2 (gIn true) (eVar 5) (eVar 3)))
def b2__law_shortcut : SS :=
  (sIf (cB (eOp2 gNeB (toV (lc (iE itL (eN (gF 2 (liftV (fV F__law_behind))) (aCons (eVar 0) (aCons (eVar 4) aNil)))) [5] (kName 5) c1__law_shortcut e1__law_shortcut)) (toV (small aNil))))
  (sRet (eVar 4))
  sNx)
def g__law_shortcut : SS :=
  (sSeq (sSet 3 (eN (gF 2 (liftV (fV F__law_behind))) (aCons (eVar 0) (aCons (eVar 2) aNil))))
  (sSeq (sFor (iE itL (eN (gF 2 (liftV (fV F__law_chain))) (aCons (eVar 1) (aCons (eVar 2) aNil)))) (kName 4)
  b2__law_shortcut)
  (sRet (eC .non))))
def F__law_shortcut : List Dt → Sto → Option (Dt × Sto) := bodyF g__law_shortcut 6
theorem ok__law_shortcut {T : List (Addr × Str)} {P : Program} {w : World} {K : PySem.W.Frag} {mg : Str → Option Value} {base : Heap} {f : Addr} {fd : FuncData} (F : FnP K "_law_shortcut" s__law_shortcut f fd) (cV__law_behind : GP P w K mg base 1 "_law_behind" ["_law_some", "_law_here"] (SpF T 2 (liftV (fV F__law_behind)))) (cV__law_chain : GP P w K mg base 1 "_law_chain" ["_law_rows", "_law_here"] (SpF T 2 (liftV (fV F__law_chain)))) :
    GFn P w K mg base 2 f fd ["_law_some", "_law_rows", "_law_here"] (SpF T 3 F__law_shortcut) := by
  refine gfnJ (k := 1) (N := N__law_shortcut) (ps := ["_law_some", "_law_rows", "_law_here"]) F sc__law_shortcut fun A outer s H hr hg => ?_
  have sc := sc__law_shortcut
  have hu := hr.units
  have hu1 := hu_of hr
  exact (jsCons (jsSet (i := 3) sc.nd (jCallP (k := 1) (x := "_law_behind") (ps := ["_law_some", "_law_here"]) (F := (liftV (fV F__law_behind))) (by exact cV__law_behind) (by exact hr.mono (by decide)) (by exact hg) (by rfl) (jCons (jv 0) (jCons (jv 2) jNil))))
    (jsCons (jsFor PassesOwn.never rfl sim_gname (jiL (jCallP (k := 1) (x := "_law_chain") (ps := ["_law_rows", "_law_here"]) (F := (liftV (fV F__law_chain))) (by exact cV__law_chain) (by exact hr.mono (by decide)) (by exact hg) (by rfl) (jCons (jv 1) (jCons (jv 2) jNil)))) (jg 4 sc.nd)
    (jsOne (jsIf (jtCmp (op_NeZ (by exact hr)) vo_NeZ (jLcV (own := [("_law_sign", 5)]) rfl sc.nd sim_gname (jiL (jCallP (k := 1) (x := "_law_behind") (ps := ["_law_some", "_law_here"]) (F := (liftV (fV F__law_behind))) (by exact cV__law_behind) (by exact hr.mono (by decide)) (by exact hg) (by rfl) (jCons (jv 0) (jCons (jv 4) jNil)))) (blkOk_by (by rfl)) (fun _ _ _ _ _ => (jg 5 sc.nd)) (fun _ _ _ _ _ => (jtOne (jtCmp (op_NotInA (by exact hu1)) vo_In (jv 5) (jv 3)))) (fun _ _ _ _ _ => (jv 5)) (by decide)) (jLstV jNil))
    (jsOne (jsRet (jv 4)))
    jsNil)))
    (jsOne (jsRet jNon))))
def e1__law_plain_right : SE :=
  (eVar 8)
def c1__law_plain_right : ST :=
  (cAnd (cB (eOp2 gLt (eN gLen (aCons (eVar 8) aNil)) (eN gLen (aCons (eVar 4) aNil)))) (cB (eOp2 gEqB (eSl (eVar 4) (oE (eOp2 gMin (eN gLen (aCons (eVar 4) aNil)) (eN gLen (aCons (eVar 8) aNil)))) oNo) (eVar 8))))
def b2__law_plain_right : SS :=
  (sDP (eVar 3) (eVar 4) (eOp2 gIx (toV (lc (iE itL (eVar 1)) [8] (kName 8) c1__law_plain_right e1__law_plain_right)) (eNeg (eC (.int 1)))))
def e3__law_plain_right : SE :=
  (toT (aCons (eVar 4) (aCons (eC (.str "")) aNil)))
def e4__law_plain_right : SE :=
  (eVar 9)
def c4__law_plain_right : ST :=
  (cNot (cB (eN (gIs "dict") (aCons (eVar 9) aNil))))
def e5__law_plain_right : SE :=
  (eN gListD (aCons (eVar 7) aNil))
def g__law_plain_right : SS :=
  (sSeq (sSet 1 (eN (gF 1 (liftV (fV F__law_states))) (aCons (eVar 0) aNil)))
  (sSeq (sSet 2 (eN gRep (aCons (eVar 0) aNil)))
  (sSeq (sSet 3 eDR)
  (sSeq (sFor (iE itL (eSl (eVar 1) (oE (eC (.int 1))) oNo)) (kName 4)
  b2__law_plain_right)
  (sSeq (sSet 5 (eN gDictP (aCons (toV (lc (iE itL (eSl (eVar 1) (oE (eC (.int 1))) oNo)) [4] (kName 4) cYes e3__law_plain_right)) aNil)))
  (sSeq (sSet 6 (toV (small (aCons (eN (gF 1 (liftR (fR F_true_table))) (aCons (eVar 0) aNil)) (aCons (eN (gFk 1 [0] (liftR (fR F_true_table))) (aCons (eVar 0) aNil)) (aCons (eN (gF 1 (liftR (fR F_new_table))) (aCons (eVar 0) aNil)) (aCons (eN (gFk 1 [0] (liftR (fR F_new_table))) (aCons (eVar 0) aNil)) aNil)))))))
  (sSeq (sIf (cOr (cB (eOp2 gNeB (eVar 6) (toV (small (aCons (eVar 3) (aCons (eVar 3) (aCons (eVar 5) (aCons (eVar 5) aNil)))))))) (cB (eOp2 gNeB (toV (lc (iE itL (eVar 6)) [9] (kName 9) c4__law_plain_right e4__law_plain_right)) (toV (small aNil)))))
  (sRet (eC (.bl false)))
  sNx)
  (sSeq (sIf (cB (eOp2 gNeB (toV (lc (iE itL (eVar 6)) [7] (kName 7) cYes e5__law_plain_right)) (eOp2 gMulA (toV (small (aCons (eSl (eVar 1) (oE (eC (.int 1))) oNo) aNil))) (eC (.int 4)))))
  (sRet (eC (.bl false)))
  sNx)
  (sSeq (sDP (eOp2 gIx (eVar 6) (eC (.int 0))) (eC (.str "x")) (eC .non))
  (sSeq (sEx (eClr (eOp2 gIx (eVar 6) (eC (.int 2)))))
  (sRet (eAndV (eOp2 gEqB (toV (small (aCons (eN (gF 1 (liftV (fV F_true_table))) (aCons (eVar 0) aNil)) (aCons (eN (gF 1 (liftV (fV F_new_table))) (aCons (eVar 0) aNil)) aNil)))) (toV (small (aCons (eVar 3) (aCons (eVar 5) aNil))))) (eOp2 gEqB (eN gRep (aCons (eVar 0) aNil)) (eVar 2))))))))))))))
def F__law_plain_right : List Dt → Sto → Option (Dt × Sto) := bodyF g__law_plain_right 10
theorem ok__law_plain_right {T : List (Addr × Str)} {P : Program} {w : World} {K : PySem.W.Frag} {mg : Str → Option Value} {base : Heap} {f : Addr} {fd : FuncData} (F : FnP K "_law_plain_right" s__law_plain_right f fd) (cV__law_states : GP P w K mg base 1 "_law_states" ["_law_some"] (SpF T 1 (liftV (fV F__law_states)))) (cR_true_table : GP P w K mg base 6 "true_table" ["words"] (SpF T 1 (liftR (fR F_true_table)))) (cR_new_table : GP P w K mg base 4 "new_table" ["words"] (SpF T 1 (liftR (fR F_new_table)))) (cV_true_table : GP P w K mg base 6 "true_table" ["words"] (SpF T 1 (liftV (fV F_true_table)))) (cV_new_table : GP P w K mg base 4 "new_table" ["words"] (SpF T 1 (liftV (fV F_new_table)))) (qR0_true_table : GCq P w K mg base 6 "true_table" ["words"] [0] (SpF T 1 (liftR (fR F_true_table)))) (qR0_new_table : GCq P w K mg base 4 "new_table" ["words"] [0] (SpF T 1 (liftR (fR F_new_table)))) (n_dict : mg "dict" = none) (n_isinstance : mg "isinstance" = none) (n_len : mg "len" = none) (n_list : mg "list" = none) (n_repr : mg "repr" = none) :
    GFn P w K mg base 7 f fd ["_law_some"] (SpF T 1 F__law_plain_right) := by
  refine gfnJ (k := 6) (N := N__law_plain_right) (ps := ["_law_some"]) F sc__law_plain_right fun A outer s H hr hg => ?_
  have sc := sc__law_plain_right
  have hu := hr.units
  have hu1 := hu_of hr
  exact (jsCons (jsSet (i := 1) sc.nd (jCallP (k := 1) (x := "_law_states") (ps := ["_law_some"]) (F := (liftV (fV F__law_states))) (by exact cV__law_states) (by exact hr.mono (by decide)) (by exact hg) (by rfl) (jCons (jv 0) jNil)))
    (jsCons (jsSet (i := 2) sc.nd (jB (call_rep (by exact hg) (by exact hu)) vo_rep (by rfl) n_repr boot_repr (jCons (jv 0) jNil)))
    (jsCons (jsSet (i := 3) sc.nd jDR)
    (jsCons (jsFor PassesOwn.never rfl sim_gname (jiL (jSl (jv 1) (joSome jInt) joNone)) (jg 4 sc.nd)
    (jsOne (jsDP (by exact hu) (jv 3) (jv 4) (jIx (by exact hu) (jLcV (own := [("_law_other", 8)]) rfl sc.nd sim_gname (jiL (jv 1)) (blkOk_by (by rfl)) (fun _ _ _ _ _ => (jg 8 sc.nd)) (fun _ _ _ _ _ => (jtOne (PW.pt (jwAnd (jtCmp op_lt vLt (jB call_lenA vo_len (by rfl) n_len boot_len (jCons (jv 8) jNil)) (jB call_lenA vo_len (by rfl) n_len boot_len (jCons (jv 4) jNil))) (jwAnd1 (jtCmp (op_EqZ (by exact hr)) vo_EqZ (jSl (jv 4) (joSome (jMin (jB call_lenA vo_len (by rfl) n_len boot_len (jCons (jv 4) jNil)) (jB call_lenA vo_len (by rfl) n_len boot_len (jCons (jv 8) jNil)))) joNone) (jv 8))))))) (fun _ _ _ _ _ => (jv 8)) (by decide)) (jNeg jInt)))))
    (jsCons (jsSet (i := 5) sc.nd (jTy (call_dictQ rfl) vo_dictP (by rfl) n_dict boot_dict (jCons (jLcV (own := [("_law_here", 4)]) rfl sc.nd sim_gname (jiL (jSl (jv 1) (joSome jInt) joNone)) (blkOk_by (by rfl)) (fun _ _ _ _ _ => (jg 4 sc.nd)) (fun _ _ _ _ _ => jtNil) (fun _ _ _ _ _ => (jTup (jCons (jv 4) (jCons jStr jNil)))) (by decide)) jNil)))
    (jsCons (jsSet (i := 6) sc.nd (jLstV (jCons (jCallP (k := 6) (x := "true_table") (ps := ["words"]) (F := (liftR (fR F_true_table))) (by exact cR_true_table) (by exact hr.mono (by decide)) (by exact hg) (by rfl) (jCons (jv 0) jNil)) (jCons (jCallQ (q := [0]) (k := 6) (x := "true_table") (ps := ["words"]) (F := (liftR (fR F_true_table))) (by exact qR0_true_table) (by exact hr.mono (by decide)) (by exact hg) (by rfl) (jkCons (jv 0) jkNil) (by decide)) (jCons (jCallP (k := 4) (x := "new_table") (ps := ["words"]) (F := (liftR (fR F_new_table))) (by exact cR_new_table) (by exact hr.mono (by decide)) (by exact hg) (by rfl) (jCons (jv 0) jNil)) (jCons (jCallQ (q := [0]) (k := 4) (x := "new_table") (ps := ["words"]) (F := (liftR (fR F_new_table))) (by exact qR0_new_table) (by exact hr.mono (by decide)) (by exact hg) (by rfl) (jkCons (jv 0) jkNil) (by decide)) jNil))))))
    (jsCons (jsIf (PW.pt (jwOr (jtCmp (op_NeZ (by exact hr)) vo_NeZ (jv 6) (jLstV (jCons (jv 3) (jCons (jv 3) (jCons (jv 5) (jCons (jv 5) jNil)))))) (jwOr1 (jtCmp (op_NeZ (by exact hr)) vo_NeZ (jLcV (own := [("_law_type_name", 9)]) rfl sc.nd sim_gname (jiL (jv 6)) (blkOk_by (by rfl)) (fun _ _ _ _ _ => (jg 9 sc.nd)) (fun _ _ _ _ _ => (jtOne (jtNot (jtVal (jIsi (by rfl) n_isinstance (by rfl) n_dict boot_dict (jv 9)))))) (fun _ _ _ _ _ => (jv 9)) (by decide)) (jLstV jNil)))))
    (jsOne (jsRet jBl))
    jsNil)
    (jsCons (jsIf (jtCmp (op_NeZ (by exact hr)) vo_NeZ (jLcV (own := [("_law_rows", 7)]) rfl sc.nd sim_gname (jiL (jv 6)) (blkOk_by (by rfl)) (fun _ _ _ _ _ => (jg 7 sc.nd)) (fun _ _ _ _ _ => jtNil) (fun _ _ _ _ _ => (jTy (call_listA rfl) vo_listD (by rfl) n_list boot_list (jCons (jv 7) jNil))) (by decide)) (jMulA (jLstV (jCons (jSl (jv 1) (joSome jInt) joNone) jNil)) jInt))
    (jsOne (jsRet jBl))
    jsNil)
    (jsCons (jsDP (by exact hu) (jIx (by exact hu) (jv 6) jInt) jStr jNon)
    (jsCons (jsEx (jClr (jIx (by exact hu) (jv 6) jInt)))
    (jsOne (jsRet (jAnd (jCmp (op_EqZ (by exact hr)) vo_EqZ (jLstV (jCons (jCallP (k := 6) (x := "true_table") (ps := ["words"]) (F := (liftV (fV F_true_table))) (by exact cV_true_table) (by exact hr.mono (by decide)) (by exact hg) (by rfl) (jCons (jv 0) jNil)) (jCons (jCallP (k := 4) (x := "new_table") (ps := ["words"]) (F := (liftV (fV F_new_table))) (by exact cV_new_table) (by exact hr.mono (by decide)) (by exact hg) (by rfl) (jCons (jv 0) jNil)) jNil))) (jLstV (jCons (jv 3) (jCons (jv 5) jNil)))) (jOne (jCmp (op_EqZ (by exact hr)) vo_EqZ (jB (call_rep (by exact hg) (by exact hu)) vo_rep (by rfl) n_repr boot_repr (jCons (jv 0) jNil)) (jv 2))))))))))))))))
def b1__law_right : SS :=
  (sSeq (sSet 6 (eN (gF 2 (liftV (fV F__law_chain))) (aCons (eVar 1) (aCons (eVar 5) aNil))))
  (sSeq (sSet 7 (toV (small (aCons (eN (gF 3 (liftR (fR F_chain))) (aCons (eVar 0) (aCons (eVar 1) (aCons (eVar 5) aNil)))) (aCons (eN (gFk 3 [2, 1, 0] (liftR (fR F_chain))) (aCons (eVar 5) (aCons (eVar 3) (aCons (eVar 0) aNil)))) aNil)))))
  (sSeq (sIf (cB (eOp2 gNeB (eN gRep (aCons (eVar 7) aNil)) (eN gRep (aCons (toV (small (aCons (eVar 6) (aCons (eVar 6) aNil)))) aNil))))
  (sRet (eC (.bl false)))
  sNx)
  (sSeq (sEx (eM isL gApp (eOp2 gIx (eVar 7) (eC (.int 0))) (aCons (eC .non) aNil)))
  (sIf (cB (eOp2 gNeB (eN gRep (aCons (eN (gF 3 (liftV (fV F_chain))) (aCons (eVar 0) (aCons (eVar 1) (aCons (eVar 5) aNil)))) aNil)) (eN gRep (aCons (eVar 6) aNil))))
  (sRet (eC (.bl false)))
  sNx)))))
def e2__law_right : SE :=
  (toT (aCons (eVar 5) (aCons (eN (gF 3 (liftV (fV F__law_shortcut))) (aCons (eVar 0) (aCons (eVar 1) (aCons (eVar 5) aNil)))) aNil)))
def e3__law_right : SE :=
  (eVar 8)
def c3__law_right : ST :=
  (cB (eOp2 gNeB (eOp2 gIx (eOp2 gIx (eVar 7) (eC (.int 0))) (eVar 8)) (eOp2 gIx (eVar 1) (eVar 8))))
def g__law_right : SS :=
  (sSeq (sSet 2 (eN gRep (aCons (toV (small (aCons (eVar 0) (aCons (eVar 1) aNil)))) aNil)))
  (sSeq (sSet 3 (eN gDictP (aCons (eRev (eItems (eVar 1))) aNil)))
  (sSeq (sSet 4 (eN (gF 1 (liftV (fV F__law_states))) (aCons (eVar 0) aNil)))
  (sSeq (sFor (iE itL (eVar 4)) (kName 5)
  b1__law_right)
  (sSeq (sSet 6 (eN gDictP (aCons (toV (lc (iE itL (eSl (eVar 4) (oE (eC (.int 1))) oNo)) [5] (kName 5) cYes e2__law_right)) aNil)))
  (sSeq (sSet 7 (toV (small (aCons (eN (gF 2 (liftR (fR F_shortcuts))) (aCons (eVar 0) (aCons (eVar 1) aNil))) (aCons (eN (gFk 2 [1, 0] (liftR (fR F_shortcuts))) (aCons (eVar 3) (aCons (eVar 0) aNil))) aNil)))))
  (sSeq (sIf (cOr (cB (eOp2 gNeB (eVar 7) (toV (small (aCons (eVar 6) (aCons (eVar 6) aNil)))))) (cB (eOp2 gNeB (toV (lc (iE itL (eVar 0)) [8] (kName 8) c3__law_right e3__law_right)) (toV (small aNil)))))
  (sRet (eC (.bl false)))
  sNx)
  (sSeq (sIf (cB (eOp2 gNeB (toV (small (aCons (eN gListD (aCons (eOp2 gIx (eVar 7) (eC (.int 0))) aNil)) (aCons (eN gListD (aCons (eOp2 gIx (eVar 7) (eC (.int 1))) aNil)) aNil)))) (eOp2 gMulA (toV (small (aCons (eSl (eVar 4) (oE (eC (.int 1))) oNo) aNil))) (eC (.int 2)))))
  (sRet (eC (.bl false)))
  sNx)
  (sSeq (sEx (eClr (eOp2 gIx (eVar 7) (eC (.int 0)))))
  (sRet (eAndV (eOp2 gEqB (eN (gF 2 (liftV (fV F_shortcuts))) (aCons (eVar 0) (aCons (eVar 1) aNil))) (eVar 6)) (eOp2 gEqB (eN gRep (aCons (toV (small (aCons (eVar 0) (aCons (eVar 1) aNil)))) aNil)) (eVar 2)))))))))))))
def F__law_right : List Dt → Sto → Option (Dt × Sto) := bodyF g__law_right 9
theorem ok__law_right {T : List (Addr × Str)} {P : Program} {w : World} {K : PySem.W.Frag} {mg : Str → Option Value} {base : Heap} {f : Addr} {fd : FuncData} (F : FnP K "_law_right" s__law_right f fd) (cV__law_states : GP P w K mg base 1 "_law_states" ["_law_some"] (SpF T 1 (liftV (fV F__law_states)))) (cV__law_chain : GP P w K mg base 1 "_law_chain" ["_law_rows", "_law_here"] (SpF T 2 (liftV (fV F__law_chain)))) (cR_chain : GP P w K mg base 6 "chain" ["words", "table", "state"] (SpF T 3 (liftR (fR F_chain)))) (cV_chain : GP P w K mg base 6 "chain" ["words", "table", "state"] (SpF T 3 (liftV (fV F_chain)))) (cV__law_shortcut : GP P w K mg base 2 "_law_shortcut" ["_law_some", "_law_rows", "_law_here"] (SpF T 3 (liftV (fV F__law_shortcut)))) (cR_shortcuts : GP P w K mg base 6 "shortcuts" ["words", "table"] (SpF T 2 (liftR (fR F_shortcuts)))) (cV_shortcuts : GP P w K mg base 6 "shortcuts" ["words", "table"] (SpF T 2 (liftV (fV F_shortcuts)))) (qR210_chain : GCq P w K mg base 6 "chain" ["words", "table", "state"] [2, 1, 0] (SpF T 3 (liftR (fR F_chain)))) (qR10_shortcuts : GCq P w K mg base 6 "shortcuts" ["words", "table"] [1, 0] (SpF T 2 (liftR (fR F_shortcuts)))) (n_dict : mg "dict" = none) (n_list : mg "list" = none) (n_repr : mg "repr" = none) :
    GFn P w K mg base 7 f fd ["_law_some", "_law_rows"] (SpF T 2 F__law_right) := by
  refine gfnJ (k := 6) (N := N__law_right) (ps := ["_law_some", "_law_rows"]) F sc__law_right fun A outer s H hr hg => ?_
  have sc := sc__law_right
  have hu := hr.units
  have hu1 := hu_of hr
  exact (jsCons (jsSet (i := 2) sc.nd (jB (call_rep (by exact hg) (by exact hu)) vo_rep (by rfl) n_repr boot_repr (jCons (jLstV (jCons (jv 0) (jCons (jv 1) jNil))) jNil)))
    (jsCons (jsSet (i := 3) sc.nd (jTy (call_dictQ rfl) vo_dictP (by rfl) n_dict boot_dict (jCons (jRev (jItems rfl (by rfl) n_list (jv 1))) jNil)))
    (jsCons (jsSet (i := 4) sc.nd (jCallP (k := 1) (x := "_law_states") (ps := ["_law_some"]) (F := (liftV (fV F__law_states))) (by exact cV__law_states) (by exact hr.mono (by decide)) (by exact hg) (by rfl) (jCons (jv 0) jNil)))
    (jsCons (jsFor PassesOwn.never rfl sim_gname (jiL (jv 4)) (jg 5 sc.nd)
    (jsCons (jsSet (i := 6) sc.nd (jCallP (k := 1) (x := "_law_chain") (ps := ["_law_rows", "_law_here"]) (F := (liftV (fV F__law_chain))) (by exact cV__law_chain) (by exact hr.mono (by decide)) (by exact hg) (by rfl) (jCons (jv 1) (jCons (jv 5) jNil))))
    (jsCons (jsSet (i := 7) sc.nd (jLstV (jCons (jCallP (k := 6) (x := "chain") (ps := ["words", "table", "state"]) (F := (liftR (fR F_chain))) (by exact cR_chain) (by exact hr.mono (by decide)) (by exact hg) (by rfl) (jCons (jv 0) (jCons (jv 1) (jCons (jv 5) jNil)))) (jCons (jCallQ (q := [2, 1, 0]) (k := 6) (x := "chain") (ps := ["words", "table", "state"]) (F := (liftR (fR F_chain))) (by exact qR210_chain) (by exact hr.mono (by decide)) (by exact hg) (by rfl) (jkCons (jv 5) (jkCons (jv 3) (jkCons (jv 0) jkNil))) (by decide)) jNil))))
    (jsCons (jsIf (jtCmp (op_NeZ (by exact hr)) vo_NeZ (jB (call_rep (by exact hg) (by exact hu)) vo_rep (by rfl) n_repr boot_repr (jCons (jv 7) jNil)) (jB (call_rep (by exact hg) (by exact hu)) vo_rep (by rfl) n_repr boot_repr (jCons (jLstV (jCons (jv 6) (jCons (jv 6) jNil))) jNil)))
    (jsOne (jsRet jBl))
    jsNil)
    (jsCons (jsEx (jApp (jIx (by exact hu) (jv 7) jInt) (jCons jNon jNil)))
    (jsOne (jsIf (jtCmp (op_NeZ (by exact hr)) vo_NeZ (jB (call_rep (by exact hg) (by exact hu)) vo_rep (by rfl) n_repr boot_repr (jCons (jCallP (k := 6) (x := "chain") (ps := ["words", "table", "state"]) (F := (liftV (fV F_chain))) (by exact cV_chain) (by exact hr.mono (by decide)) (by exact hg) (by rfl) (jCons (jv 0) (jCons (jv 1) (jCons (jv 5) jNil)))) jNil)) (jB (call_rep (by exact hg) (by exact hu)) vo_rep (by rfl) n_repr boot_repr (jCons (jv 6) jNil)))
    (jsOne (jsRet jBl))
    jsNil)))))))
    (jsCons (jsSet (i := 6) sc.nd (jTy (call_dictQ rfl) vo_dictP (by rfl) n_dict boot_dict (jCons (jLcV (own := [("_law_here", 5)]) rfl sc.nd sim_gname (jiL (jSl (jv 4) (joSome jInt) joNone)) (blkOk_by (by rfl)) (fun _ _ _ _ _ => (jg 5 sc.nd)) (fun _ _ _ _ _ => jtNil) (fun _ _ _ _ _ => (jTup (jCons (jv 5) (jCons (jCallP (k := 2) (x := "_law_shortcut") (ps := ["_law_some", "_law_rows", "_law_here"]) (F := (liftV (fV F__law_shortcut))) (by exact cV__law_shortcut) (by exact hr.mono (by decide)) (by exact hg) (by rfl) (jCons (jv 0) (jCons (jv 1) (jCons (jv 5) jNil)))) jNil)))) (by decide)) jNil)))
    (jsCons (jsSet (i := 7) sc.nd (jLstV (jCons (jCallP (k := 6) (x := "shortcuts") (ps := ["words", "table"]) (F := (liftR (fR F_shortcuts))) (by exact cR_shortcuts) (by exact hr.mono (by decide)) (by exact hg) (by rfl) (jCons (jv 0) (jCons (jv 1) jNil))) (jCons (jCallQ (q := [1, 0]) (k := 6) (x := "shortcuts") (ps := ["words", "table"]) (F := (liftR (fR F_shortcuts))) (by exact qR10_shortcuts) (by exact hr.mono (by decide)) (by exact hg) (by rfl) (jkCons (jv 3) (jkCons (jv 0) jkNil)) (by decide)) jNil))))
    (jsCons (jsIf (PW.pt (jwOr (jtCmp (op_NeZ (by exact hr)) vo_NeZ (jv 7) (jLstV (jCons (jv 6) (jCons (jv 6) jNil)))) (jwOr1 (jtCmp (op_NeZ (by exact hr)) vo_NeZ (jLcV (own := [("_law_word", 8)]) rfl sc.nd sim_gname (jiL (jv 0)) (blkOk_by (by rfl)) (fun _ _ _ _ _ => (jg 8 sc.nd)) (fun _ _ _ _ _ => (jtOne (jtCmp (op_NeZ (by exact hr)) vo_NeZ (jIx (by exact hu) (jIx (by exact hu) (jv 7) jInt) (jv 8)) (jIx (by exact hu) (jv 1) (jv 8))))) (fun _ _ _ _ _ => (jv 8)) (by decide)) (jLstV jNil)))))
    (jsOne (jsRet jBl))
    jsNil)
    (jsCons (jsIf (jtCmp (op_NeZ (by exact hr)) vo_NeZ (jLstV (jCons (jTy (call_listA rfl) vo_listD (by rfl) n_list boot_list (jCons (jIx (by exact hu) (jv 7) jInt) jNil)) (jCons (jTy (call_listA rfl) vo_listD (by rfl) n_list boot_list (jCons (jIx (by exact hu) (jv 7) jInt) jNil)) jNil))) (jMulA (jLstV (jCons (jSl (jv 4) (joSome jInt) joNone) jNil)) jInt))
    (jsOne (jsRet jBl))
    jsNil)
    (jsCons (jsEx (jClr (jIx (by exact hu) (jv 7) jInt)))
    (jsOne (jsRet (jAnd (jCmp (op_EqZ (by exact hr)) vo_EqZ (jCallP (k := 6) (x := "shortcuts") (ps := ["words", "table"]) (F := (liftV (fV F_shortcuts))) (by exact cV_shortcuts) (by exact hr.mono (by decide)) (by exact hg) (by rfl) (jCons (jv 0) (jCons (jv 1) jNil))) (jv 6)) (jOne (jCmp (op_EqZ (by exact hr)) vo_EqZ (jB (call_rep (by exact hg) (by exact hu)) vo_rep (by rfl) n_repr boot_repr (jCons (jLstV (jCons (jv 0) (jCons (jv 1) jNil))) jNil)) (jv 2)))))))))))))))
def fz_law : SE := (toV (small (aCons (eC (.int 0)) aNil)))
def fd_law : SE := (eN (gF 1 (liftR (fR F__law_draws))) (aCons (eVar 4) aNil))
def gb_law : SS :=
  (sSeq (sSet 3 (eN (gF 2 (liftE (fE F__law_words))) (aCons (eVar 1) (aCons (eC (.int 7)) aNil))))
  (sSeq (sIf (cOr (cNot (cB (eN (gF 1 (liftV (fV F__law_plain_right))) (aCons (eVar 3) aNil)))) (cNot (cB (eN (gF 2 (liftV (fV F__law_right))) (aCons (eVar 3) (aCons (eN (gF 1 (liftV (fV F_true_table))) (aCons (eVar 3) aNil)) aNil))))))
  (sRet (eC (.bl false)))
  sNx)
  (sIf (cOr (cNot (cB (eN (gF 2 (liftV (fV F__law_right))) (aCons (eVar 3) (aCons (eN (gF 2 (liftE (fE F__law_table))) (aCons (eVar 1) (aCons (eVar 3) aNil))) aNil))))) (cNot (cB (eN (gF 2 (liftV (fV F__law_right))) (aCons (eVar 3) (aCons (eN (gF 2 (liftE (fE F__law_table))) (aCons (eVar 1) (aCons (eVar 3) aNil))) aNil))))))
  (sRet (eC (.bl false)))
  sNx)))
def gr_law : SS :=
  (sSeq (sSet 2 (dToV (eDisp [((eC (.str "a")), (eC .non)), ((eC (.str "aa")), (eC (.str "a"))), ((eC (.str "ab")), (eC .non)), ((eC (.str "aab")), (eC (.str "ab"))), ((eC (.str "aba")), (eC (.str "a")))])))
  (sRet (eOp2 gEqB (eN (gF 2 (liftV (fV F_shortcuts))) (aCons (toV (small (aCons (eC (.str "aab")) (aCons (eC (.str "aba")) aNil)))) (aCons (eN (gF 1 (liftV (fV F_true_table))) (aCons (toV (small (aCons (eC (.str "aab")) (aCons (eC (.str "aba")) aNil)))) aNil)) aNil))) (eVar 2))))
theorem ok_law {T : List (Addr × Str)} {P : Program} {w : World} {K : PySem.W.Frag} {mg : Str → Option Value} {base : Heap} {f : Addr} {fd : FuncData} (F : FnP K "law" s_law f fd) (cR__law_draws : GP P w K mg base 1 "_law_draws" ["_law_cell"] (SpF T 1 (liftR (fR F__law_draws)))) (cE__law_words : GP P w K mg base 2 "_law_words" ["_law_draws_here", "_law_most"] (SpF T 2 (liftE (fE F__law_words)))) (cV__law_right : GP P w K mg base 7 "_law_right" ["_law_some", "_law_rows"] (SpF T 2 (liftV (fV F__law_right)))) (cV_true_table : GP P w K mg base 6 "true_table" ["words"] (SpF T 1 (liftV (fV F_true_table)))) (cV__law_plain_right : GP P w K mg base 7 "_law_plain_right" ["_law_some"] (SpF T 1 (liftV (fV F__law_plain_right)))) (cE__law_table : GP P w K mg base 2 "_law_table" ["_law_draws_here", "_law_some"] (SpF T 2 (liftE (fE F__law_table)))) (cV_shortcuts : GP P w K mg base 6 "shortcuts" ["words", "table"] (SpF T 2 (liftV (fV F_shortcuts)))) {ok : List Int → Prop}
    (hok : ∀ ns, ok ns → ∃ st', gLaw 1 4 6 fz_law fd_law gb_law gr_law ns (List.replicate 5 none) [] = some (.rt (.bl true) st')) :
    GFn P w K mg base 8 f fd ["_law_script"] (SpL T K ok) := by
  refine gfnL (k := 7) (n := 6) (t := tLaw T K 1 4 fz_law fd_law gb_law gr_law) F sc_law (fun A outer s H hr hg => ?_) law_first hok
  have sc := sc_law
  have hu := hr.units
  have hu1 := hu_of hr
  refine pss_cons (ps_for PassesOwn.never rfl (pi_list (pe_lc (own := [("_law_cell", 4)]) rfl sc.nd (pi_list (pe_op op_Add (pe_slice sl_any (pv 0) po_none (po_some pe_int)) ?_)) (blkOk_by (by rfl)) (fun _ _ _ _ _ => jg 4 sc.nd) (fun _ _ _ _ _ => pts_nil) (fun _ _ _ _ _ => ?_))) (jg 1 sc.nd) ?_) ?_
  · exact (jLstV (jCons jInt jNil))
  · exact (jCallP (k := 1) (x := "_law_draws") (ps := ["_law_cell"]) (F := (liftR (fR F__law_draws))) (by exact cR__law_draws) (by exact hr.mono (by decide)) (by exact hg) (by rfl) (jCons (jv 4) jNil))
  · exact (jsCons (jsSet (i := 3) sc.nd (jCallP (k := 2) (x := "_law_words") (ps := ["_law_draws_here", "_law_most"]) (F := (liftE (fE F__law_words))) (by exact cE__law_words) (by exact hr.mono (by decide)) (by exact hg) (by rfl) (jCons (jv 1) (jCons jInt jNil))))
    (jsCons (jsIf (PW.pt (jwOr (jtNot (jtVal (jCallP (k := 7) (x := "_law_plain_right") (ps := ["_law_some"]) (F := (liftV (fV F__law_plain_right))) (by exact cV__law_plain_right) (by exact hr.mono (by decide)) (by exact hg) (by rfl) (jCons (jv 3) jNil)))) (jwOr1 (jtNot (jtVal (jCallP (k := 7) (x := "_law_right") (ps := ["_law_some", "_law_rows"]) (F := (liftV (fV F__law_right))) (by exact cV__law_right) (by exact hr.mono (by decide)) (by exact hg) (by rfl) (jCons (jv 3) (jCons (jCallP (k := 6) (x := "true_table") (ps := ["words"]) (F := (liftV (fV F_true_table))) (by exact cV_true_table) (by exact hr.mono (by decide)) (by exact hg) (by rfl) (jCons (jv 3) jNil)) jNil))))))))
    (jsOne (jsRet jBl))
    jsNil)
    (jsOne (jsIf (PW.pt (jwOr (jtNot (jtVal (jCallP (k := 7) (x := "_law_right") (ps := ["_law_some", "_law_rows"]) (F := (liftV (fV F__law_right))) (by exact cV__law_right) (by exact hr.mono (by decide)) (by exact hg) (by rfl) (jCons (jv 3) (jCons (jCallP (k := 2) (x := "_law_table") (ps := ["_law_draws_here", "_law_some"]) (F := (liftE (fE F__law_table))) (by exact cE__law_table) (by exact hr.mono (by decide)) (by exact hg) (by rfl) (jCons (jv 1) (jCons (jv 3) jNil))) jNil))))) (jwOr1 (jtNot (jtVal (jCallP (k := 7) (x := "_law_right") (ps := ["_law_some", "_law_rows"]) (F := (liftV (fV F__law_right))) (by exact cV__law_right) (by exact hr.mono (by decide)) (by exact hg) (by rfl) (jCons (jv 3) (jCons (jCallP (k := 2) (x := "_law_table") (ps := ["_law_draws_here", "_law_some"]) (F := (liftE (fE F__law_table))) (by exact cE__law_table) (by exact hr.mono (by decide)) (by exact hg) (by rfl) (jCons (jv 1) (jCons (jv 3) jNil))) jNil))))))))
    (jsOne (jsRet jBl))
    jsNil))))
  · exact (jsCons (jsSet (i := 2) sc.nd (jDispV (ps := [((eC (.str "a")), (eC .non)), ((eC (.str "aa")), (eC (.str "a"))), ((eC (.str "ab")), (eC .non)), ((eC (.str "aab")), (eC (.str "ab"))), ((eC (.str "aba")), (eC (.str "a")))]) (jpCons jStr jNon (jpCons jStr jStr (jpCons jStr jNon (jpCons jStr jStr (jpCons jStr jStr jpNil)))))))
    (jsOne (jsRet (jCmp (op_EqZ (by exact hr)) vo_EqZ (jCallP (k := 6) (x := "shortcuts") (ps := ["words", "table"]) (F := (liftV (fV F_shortcuts))) (by exact cV_shortcuts) (by exact hr.mono (by decide)) (by exact hg) (by rfl) (jCons (jLstV (jCons jStr (jCons jStr jNil))) (jCons (jCallP (k := 6) (x := "true_table") (ps := ["words"]) (F := (liftV (fV F_true_table))) (by exact cV_true_table) (by exact hr.mono (by decide)) (by exact hg) (by rfl) (jCons (jLstV (jCons jStr (jCons jStr jNil))) jNil)) jNil))) (jv 2)))))
end K03

set_option Elab.async false
set_option linter.all false
set_option maxRecDepth 100000
set_option maxHeartbeats 1000000
namespace K03
open PySem PySem.Spec PyProof.Rows L2 HB
theorem run_letter (z : Str) : fV F_is_letter [.str z] = some (.bl (letB z)) := by
  have e : g_is_letter (startD 1 [.str z]) [] = some (.rt (.bl (letB z)) []) := by
    refine s_ret ?_
    unfold letB
    cases h1 : decide (z.cps.toList < ("!" : Str).cps.toList) with
    | true => exact v_chain0 rfl (v_var rfl) (by rw [v_leS, h1]; rfl)
    | false => exact v_chain rfl (v_var rfl) (by rw [v_leS, h1]; rfl) rfl rfl
  exact fV_of (b_rt e) (deref_no rfl)
theorem run_draws (c : Int) : fR F__law_draws [.int c] = some (drw0 c).dt := by
  have p1 : ∀ r st, eOp2 gPow (eC (.int 10)) (eC (.int 60)) r st = some (.int (10 ^ 60), st) := fun r st => v_op rfl rfl (v_gI (by decide +kernel))
  have p2 : ∀ r st, eOp2 gPow (eOp2 gPow (eC (.int 10)) (eC (.int 60))) (eC (.int 60)) r st = some (.int ((10 ^ 60) ^ 60), st) := fun r st => v_op (p1 r st) rfl (v_gI (by decide +kernel))
  have p3 : ∀ r st, eOp2 gPow (eOp2 gPow (eOp2 gPow (eC (.int 10)) (eC (.int 60))) (eC (.int 60))) (eC (.int 4)) r st = some (.int bigM, st) := fun r st => v_op (p2 r st) rfl (v_gI (by decide +kernel))
  have hM : 0 < bigM := by unfold bigM; decide +kernel
  have e : g__law_draws (startD 1 [.int c]) [] = some (.rt (.ref 0) [some (.lst [.int (c % bigM), .int 0, .bl (decide (10 ^ 18 ≤ c))])]) := by
    refine s_ret (v_toR0 (v_small (v_cons (v_op (v_N (v_one (v_var rfl)) rfl) (p3 _ _) (v_gI (decide_eq_true hM))) (v_cons rfl (v_one (v_op (v_var rfl) (v_op rfl rfl (v_gI (by decide +kernel))) rfl)))) (by show 3 ≤ sizeLine; decide)))
  exact fR_lst (b_rt e) rfl rfl
theorem run_next (x : Drw) (hk : x.k < 1000000) : fE F__law_next x.dt [] = some (.int (nextN x).1, (nextN x).2.dt) := by
  obtain ⟨a, k, b⟩ := x
  dsimp only at hk
  have s1 : ∀ {r : Evr} {st st1 st2 st3 : Sto} {fd fk fv : SE} {v : Dt} {i : Nat} {z : Int} {es : List Dt} {j : Nat}, fv r st = some (v, st1) → fd r st1 = some (.ref i, st2) → fk r st2 = some (.int z, st3) → st3[i]? = some (some (.lst es)) → ixN es.length z = some j → sLP fd fk fv r st = some (.nx r (st3.set i (some (.lst (es.set j v))))) := by
    intro r st st1 st2 st3 fd fk fv v i z es j h1 h2 h3 h4 h5
    unfold sLP
    rw [h1]
    show (fd r st1).bind _ = _
    rw [h2]
    show (fk r st2).bind _ = _
    rw [h3]
    show (match st3[i]? with
      | some (some (.lst ds)) => (ixN ds.length z).map fun j => Ou.nx r (st3.set i (some (.lst (ds.set j v))))
      | _ => none) = _
    rw [h4]
    show (ixN es.length z).map _ = _
    rw [h5]
    rfl
  cases b with
  | true =>
    have e : g__law_next (startD 3 [.ref 0]) [some (.lst [.int a, .int (k : Nat), .bl true])] = some (.rt (.int (a % 1000000)) [some (.lst [.int (a / 1000000), .int ((k : Nat) + 1), .bl true])]) := by
      refine s_seq (s1 (v_op (v_op (v_var rfl) rfl rfl) rfl rfl) (v_var rfl) rfl rfl rfl) ?_
      refine s_seq (s_set (v_op (v_var rfl) rfl rfl)) ?_
      refine s_seqRt (s_ifT (t_B (v_op (v_var rfl) rfl rfl)) ?_)
      refine s_seq (s_set (v_op (v_N (v_one (v_op (v_var rfl) rfl rfl)) rfl) (v_op rfl rfl (v_gI (by decide +kernel))) (v_gI (hMd _ _ (by decide +kernel))))) ?_
      refine s_seq (s1 (v_op (v_op (v_var rfl) rfl rfl) (v_op rfl rfl (v_gI (by decide +kernel))) (v_gI (hDv _ _ (by decide +kernel)))) (v_var rfl) rfl rfl rfl) ?_
      exact s_ret (v_var rfl)
    refine fE_of (c' := .lst [.int (a / 1000000), .int ((k : Nat) + 1), .bl true]) (x := .int (a % 1000000)) (b_rt0 e) rfl rfl (deref_no rfl)
  | false =>
    have hk1 : cMul ((k : Int) + 1) ((k : Int) + 1) = true := by unfold cMul; simp only [decide_eq_true_eq]; left; constructor <;> omega
    have hR : ∀ (i j : Int), (-(2 ^ 64) < j ∧ j < 2 ^ 64) → cMul i j = true := fun i j h => by unfold cMul; simp only [decide_eq_true_eq]; exact .inr h
    have n1 : ∀ z : Int, -(2 ^ 64) < z % 2147483629 ∧ z % 2147483629 < 2 ^ 64 := fun z => by
      have a1 := Int.emod_nonneg z (show (2147483629 : Int) ≠ 0 by decide)
      have a2 := Int.emod_lt_of_pos z (show (0 : Int) < 2147483629 by decide)
      omega
    have n2 : ∀ z : Int, -(2 ^ 64) < z % 2147483587 + 2 ∧ z % 2147483587 + 2 < 2 ^ 64 := fun z => by
      have a1 := Int.emod_nonneg z (show (2147483587 : Int) ≠ 0 by decide)
      have a2 := Int.emod_lt_of_pos z (show (0 : Int) < 2147483587 by decide)
      omega
    have e : g__law_next (startD 3 [.ref 0]) [some (.lst [.int a, .int (k : Nat), .bl false])] = some (.rt (.int (mixN a ((k : Nat) + 1))) [some (.lst [.int a, .int ((k : Nat) + 1), .bl false])]) := by
      refine s_seq (s1 (v_op (v_op (v_var rfl) rfl rfl) rfl rfl) (v_var rfl) rfl rfl rfl) ?_
      refine s_seq (s_set (v_op (v_var rfl) rfl rfl)) ?_
      refine s_seq (s_ifF (t_B (v_op (v_var rfl) rfl rfl)) rfl) ?_
      refine s_seq (s_set (v_op (v_N (v_one (v_op (v_op (v_op (v_op (v_N (v_one (v_op (v_var rfl) rfl rfl)) rfl) rfl (v_gI (hMd _ _ (by decide)))) (v_op (v_op (v_var rfl) (v_var rfl) (zMulI hk1)) rfl (zMulI (hR _ _ (by decide)))) rfl) (v_var rfl) rfl) rfl (zMulI (hR _ _ (by decide))))) rfl) rfl (v_gI (hMd _ _ (by decide))))) ?_
      refine s_seq (s_set (v_op (v_N (v_one (v_op (v_var rfl) (v_var rfl) (zMulI (hR _ _ (n1 _))))) rfl) rfl (v_gI (hMd _ _ (by decide))))) ?_
      exact s_ret (v_op (v_op (v_N (v_one (v_op (v_var rfl) (v_op (v_var rfl) rfl rfl) (zMulI (hR _ _ (n2 _))))) rfl) rfl (v_gI (hMd _ _ (by decide)))) rfl (v_gI (hDv _ _ (by decide))))
    refine fE_of (c' := .lst [.int a, .int ((k : Nat) + 1), .bl false]) (x := .int (mixN a ((k : Nat) + 1))) (b_rt0 e) rfl rfl (deref_no rfl)
section
variable {ws : List Str} {n : Nat}
theorem run_check_words (hg : Good ws n) : fV F_check_words [WL ws] = some .non := by
  have h1 := hg.l1
  have h5 := hg.l5
  have hn1 := hg.n1
  have hn7 := hg.n7
  obtain ⟨w0, ws', ew⟩ : ∃ w0 ws', ws = w0 :: ws' := by
    cases ws with
    | nil => simp at h1
    | cons x y => exact ⟨x, y, rfl⟩
  have hw0 : w0 ∈ ws := by rw [ew]; simp
  have hx0 : atI (ws.map Dt.str) 0 = some (.str w0) := by rw [ew]; exact atI_zero _ _
  have hl := (for_st (kt := kTup (ksCons (kName 1) (ksCons (kName 2) ksNil))) (g := b2_check_words) (fun p : Str × Nat => Dt.tup [.int p.2, .str p.1]) (fun s : Option Dt × Option Dt => [some (WL ws), s.1, s.2, none]) (fun _ => []) (fun _ p => (some (.int p.2), some (.str p.1))) (fun _ => True) ws.zipIdx (none, none) trivial ?_).1
  · have e : enumL (ws.map Dt.str) = ws.zipIdx.map fun p : Str × Nat => Dt.tup [.int p.2, .str p.1] := by
      unfold enumL
      rw [List.zipIdx_map, List.map_map]
      rfl
    have e2 : g_check_words (startD 4 [WL ws]) [] = some (.nx [some (WL ws), (ws.zipIdx.foldl (fun (_ : Option Dt × Option Dt) (p : Str × Nat) => (some (Dt.int p.2), some (.str p.1))) (none, none)).1, (ws.zipIdx.foldl (fun (_ : Option Dt × Option Dt) (p : Str × Nat) => (some (Dt.int p.2), some (.str p.1))) (none, none)).2, none] []) := by
      have c1 : (1 : Int) ≤ ws.length := by omega
      have c2 : (ws.length : Int) ≤ 5 := by omega
      simp [g_check_words, startD, c1, c2, en]
      rw [e]
      exact hl
    exact fV_of (b_nx e2) (deref_no rfl)
  · rintro ⟨s1, s2⟩ ⟨w, i⟩ hm _
    refine ⟨_, rfl, ?_, trivial⟩
    have hi := List.mem_zipIdx_iff_getElem?.mp hm
    dsimp only at hi
    have hw : w ∈ ws := List.mem_of_getElem? hi
    have hln := hg.len w hw
    have hz := good_len hg hw
    have hlc : lcGo (kName 3) cYes e1_check_words [some (WL ws), some (.int i), some (.str w), none] (w.cps.toList.map fun c => .str ⟨#[c]⟩) [] = some (((w.cps.toList.filter fun _ => true)).map fun c => .bl (letB ⟨#[c]⟩), []) :=
      lcGo_pure _ _ _ _ fun c hc => ⟨_, rfl, rfl, fun _ => by simp [e1_check_words, run_letter]⟩
    rw [List.filter_eq_self.mpr (by simp)] at hlc
    have hall := bools_all w.cps.toList (hg.let_ w hw)
    have hz' : w.cps.size ≤ sizeLine := hz
    have nin : w ∉ ws.take i := by
      intro z
      obtain ⟨j, hj, e⟩ := List.mem_take_iff_getElem.mp z
      have hj' : j < i := by omega
      have := (List.getElem?_inj (i := i) (j := j) (by have := (List.getElem?_eq_some_iff.mp hi).1; omega) hg.nd).mp (by rw [hi, List.getElem?_eq_getElem (by omega), e])
      omega
    have hin : gIn false [] (.str w) (.lst (cutL (ws.map Dt.str) none (some (i : Int)))) = some (.bl false, []) := v_inF (l := ws.take i) (by rw [cutL_map]; rfl) nin
    have k0 := zLenS (st := []) (good_len hg hw0)
    have k1 := zLenS (st := []) hz
    have c1 : (1 : Int) ≤ n := by omega
    have c2 : (n : Int) ≤ 7 := by omega
    simp [b2_check_words, k1, hln, c1, c2]
    rw [hlc]
    simp [hz', hall, hin]
    simp [zIx hx0, k1, k0, hln, hg.len w0 hw0, hall, hin]
theorem st_inner {W : Dt} {w : Str} (hw : w.length ≤ sizeLine) : ∀ (ks : List Nat) (l : List Str) (c : Option Dt), l.length + ks.length < sizeLine → ∃ c', sForGo (kName 3) b1_all_states (ks.map fun n => Dt.int (0 + (n : Nat))) [some W, some (.ref 0), some (.str w), c] [some (dS l)] =
    some (.nx [some W, some (.ref 0), some (.str w), c'] [some (dS ((ks.map (pre w)).foldl (fun l k => ins2 k l) l))])
  | [], l, c, _ => ⟨c, rfl⟩
  | n :: ks, l, c, h => by
    rw [List.length_cons] at h
    have := ins2_len (pre w n) l
    obtain ⟨c', ih⟩ := st_inner hw ks (ins2 (pre w n) l) (some (.int (0 + (n : Nat)))) (by omega)
    refine ⟨c', ?_⟩
    rw [List.map_cons]
    refine for_cons (r1 := [some W, some (.ref 0), some (.str w), some (.int (0 + (n : Nat)))]) (r2 := [some W, some (.ref 0), some (.str w), some (.int (0 + (n : Nat)))]) (st1 := [some (dS (ins2 (pre w n) l))]) rfl ?_ (by rw [List.map_cons, List.foldl_cons]; exact ih)
    have e := s_DP (r := [some W, some (.ref 0), some (.str w), some (.int (0 + (n : Nat)))]) (st := [some (dS l)]) (fd := eVar 1) (fk := eSl (eVar 2) oNo (oE (eVar 3))) (fv := eC (.bl true)) (kd := .str (pre w n)) (k := Sum.inr (pre w n)) (i := 0) (ks := l.map Sum.inr) (es := l.map fun _ => .bl true) rfl (v_var rfl)
      (v_sl (v_var rfl) rfl (v_oE (v_var rfl)) (by rw [v_slS hw, Int.zero_add, cutS_pre])) rfl (by rw [List.length_map]; omega) rfl
    unfold b1_all_states
    rw [e, put_dS]
    rfl
theorem st_outer {W : Dt} {m : Nat} : ∀ (ws : List Str) (l : List Str) (b c : Option Dt), (∀ w ∈ ws, w.length ≤ 7) → l.length + 8 * ws.length < 1000000 → ∃ b' c', sForGo (kName 2) b2_all_states (ws.map Dt.str) [some W, some (.ref 0), b, c] [some (dS l)] =
    some (.nx [some W, some (.ref 0), b', c'] [some (dS ((ws.flatMap preOf).foldl (fun l k => ins2 k l) l))])
  | [], l, b, c, _, _ => ⟨b, c, rfl⟩
  | w :: ws, l, b, c, hw, hl => by
    have h7 := hw w (by simp)
    have hz : w.length ≤ sizeLine := Nat.le_trans h7 (Nat.le_trans (by decide) line_ge)
    have hsl := line_ge
    rw [List.length_cons] at hl
    obtain ⟨c1, e1⟩ := st_inner (W := W) hz (List.range (w.length + 1)) l c (by rw [List.length_range]; omega)
    have hlen := fold_len ((List.range (w.length + 1)).map (pre w)) l
    rw [List.length_map, List.length_range] at hlen
    obtain ⟨b', c', e2⟩ := st_outer (W := W) (m := m) ws (((List.range (w.length + 1)).map (pre w)).foldl (fun l k => ins2 k l) l) (some (.str w)) c1 (fun v hv => hw v (by simp [hv])) (by omega)
    refine ⟨b', c', ?_⟩
    rw [List.map_cons]
    refine for_cons (r1 := [some W, some (.ref 0), some (.str w), c]) rfl (s_for (v_rg (n := w.length + 1) (v_one (v_op (v_N (v_one (v_var rfl)) (v_lenS hz)) rfl rfl)) (by omega)) e1) ?_
    rw [List.flatMap_cons, List.foldl_append]
    exact e2
theorem run_states {ws : List Str} {n : Nat} (hg : Good ws n) : F_all_states [WL ws] [] = some (.ref 1, [some (dS (keysOf ws)), some (WL (allSt ws))]) := by
  have h5 := hg.l5
  obtain ⟨b', c', e⟩ := st_outer (W := WL ws) (m := 0) ws [] none none (fun w hw => by rw [hg.len w hw]; exact hg.n7) (by simp; omega)
  refine b_rt ?_
  refine s_seq (r1 := [some (WL ws), some (.ref 0), none, none]) (st1 := [some (dS [])]) rfl (s_seq (s_for (xs := ws.map Dt.str) (st1 := [some (dS [])]) (by exact v_iE (v_var rfl) rfl) e) (s_ret ?_))
  unfold eSortK
  rw [v_var (d := .ref 0) rfl]
  rw [show List.foldl (fun l k => ins2 k l) [] (List.flatMap preOf ws) = keysOf ws from rfl]
  show (kStrs ((keysOf ws).map Sum.inr)).bind _ = _
  have hk : kStrs ((keysOf ws).map (Sum.inr : Str → Key)) = some (keysOf ws) := by
    generalize keysOf ws = l
    induction l with
    | nil => rfl
    | cons x l ih => rw [List.map_cons]; show (kStrs (l.map (Sum.inr : Str → Key))).map _ = _; rw [ih]; rfl
  rw [hk]
  show (if _ then _ else _) = _
  rw [if_pos]
  · rfl
  · rw [List.all_eq_true]
    intro x hx
    obtain ⟨w, hw, k, hk, rfl⟩ := mem_keys.mp hx
    have h7 := hg.n7
    have hl := hg.len w hw
    have hs := line_ge
    have hp := pre_len w k
    simp only [decide_eq_true_eq]
    omega

theorem run_all_states (hg : Good ws n) : fV F_all_states [WL ws] = some (WL (allSt ws)) := fV_lst (run_states hg) rfl (noRefs_str _)
theorem run_all_statesR (hg : Good ws n) : fR F_all_states [WL ws] = some (WL (allSt ws)) := fR_lst (run_states hg) rfl (noRefs_str _)
/-! letters_behind -/
theorem lc_few {l : List Str} {zs : List Dt} {st : Sto} (h : zs.length ≤ l.length) (hl : l.length ≤ 40) : zs.length ≤ sizeLine := by have := line_ge; omega
theorem run_behindV (hg : Good ws n) : F_letters_behind [WL ws] [] = some (.ref 0, [some (bD ws)]) := by
  have hf := all_few hg
  have hs := line_ge
  have inn : ∀ s, lcGo (kName 3) c1_letters_behind e1_letters_behind [some (WL ws), some (WL (allSt ws)), some (.str s), none] ((allSt ws).map Dt.str) [] = some (((allSt ws).filter fun (o : Str) => decide (o ≠ ("" : Str)) && decide (pre o (o.length - 1) = s)).map fun o => .str (lastS o), []) := fun s =>
    lcGo_pure _ _ _ _ fun o ho => ⟨_, rfl, by
      have k := zSlS (st := []) (lo := none) (hi := some (-1)) (all_line hg ho)
      rw [cutS_m1] at k
      by_cases h1 : o = ("" : Str)
      · simp [c1_letters_behind, h1]
      · simp [c1_letters_behind, h1, k], fun hp => by
      have ho' : o ≠ ("" : Str) := by
        simp only [Bool.and_eq_true, decide_eq_true_eq] at hp
        exact hp.1
      simp [e1_letters_behind, v_ixS (all_line hg ho) (at_m1 ho'), lastS]⟩
  have outer := dc_pure (st := []) (r := [some (WL ws), some (WL (allSt ws)), none, none]) (kt := kName 2) (fk := eVar 2) (fv := v2_letters_behind) Dt.str (fun s => s) (fun s => WL (after ws s)) (allSt ws) [] [] (fun s hs' => ⟨_, rfl, by simp, by
    simp [v2_letters_behind]
    rw [inn s]
    have hl : (((allSt ws).filter fun (o : Str) => decide (o ≠ ("" : Str)) && decide (pre o (o.length - 1) = s)).map fun o => Dt.str (lastS o)).length ≤ sizeLine := by
      rw [List.length_map]
      have := List.length_filter_le (fun (o : Str) => decide (o ≠ ("" : Str)) && decide (pre o (o.length - 1) = s)) (allSt ws)
      omega
    show ((if _ ≤ sizeLine then _ else none).bind _) = _
    rw [if_pos hl]
    simp [after, Function.comp_def]⟩) (by simpa using all_nodup ws) (by simp; omega)
  refine b_rt ?_
  simp [g_letters_behind, startD, run_all_states hg]
  simp at outer
  rw [outer]
  simp
theorem run_behind (hg : Good ws n) : fV F_letters_behind [WL ws] = some (bD ws) := fV_of (run_behindV hg) (deref_ref rfl (by simp [noRefs_map]))
/-! check_state, ends_in -/
theorem run_check_state (hg : Good ws n) {s : Str} (hs : s ∈ allSt ws) : fV F_check_state [.str s, WL ws] = some .non := by
  have e : g_check_state (startD 2 [.str s, WL ws]) [] = some (.nx [some (.str s), some (WL ws)] []) := by
    simp [g_check_state, startD, run_all_states hg, v_ninF (l := allSt ws) (st := []) (d := WL (allSt ws)) rfl hs]
  exact fV_of (b_nx e) (deref_no rfl)
theorem run_ends_in (hg : Good ws n) {s : Str} (hs : s ∈ allSt ws) : F_ends_in [WL ws, .str s] [] = some (.ref 0, [some (WL (below ws s))]) := by
  have hf := all_few hg
  have hsl := line_ge
  have k2 := zLenS (st := []) (all_line hg hs)
  have h := lcGo_pure (st := []) (r := [some (WL ws), some (.str s), none]) (kt := kName 2) (c := c1_ends_in) (f := e1_ends_in) Dt.str (fun o => decide (o.length < s.length) && Txt.endswith s o) Dt.str (allSt ws) fun o ho => ⟨_, rfl, by
    have k1 := zLenS (st := []) (all_line hg ho)
    by_cases hc : o.length < s.length
    · simp [c1_ends_in, k1, k2, hc, eM, isS, gEnds]
    · simp [c1_ends_in, k1, k2, hc], fun _ => by simp [e1_ends_in]⟩
  have hl : (((allSt ws).filter fun o => decide (o.length < s.length) && Txt.endswith s o).map Dt.str).length ≤ sizeLine := by
    rw [List.length_map]
    have := List.length_filter_le (fun o => decide (o.length < s.length) && Txt.endswith s o) (allSt ws)
    omega
  refine b_rt ?_
  simp [g_ends_in, startD, run_all_states hg]
  rw [h]
  show ((if _ ≤ sizeLine then _ else none).bind _).bind _ = _
  rw [if_pos hl]
  rfl
theorem run_ends (hg : Good ws n) {s : Str} (hs : s ∈ allSt ws) : fV F_ends_in [WL ws, .str s] = some (WL (below ws s)) := fV_lst (run_ends_in hg hs) rfl (noRefs_str _)
end
end K03

set_option Elab.async false
set_option linter.all false
set_option maxRecDepth 100000
set_option maxHeartbeats 1000000
namespace K03
open PySem PySem.Spec PyProof.Rows L2 HB
theorem ls_loop {ws : List Str} {n : Nat} (hn : Good ws n) : ∀ (is : List Nat) (l : List Str) (c : Option Dt), l.length + 5 * is.length ≤ 1000000 → ∃ c', sForGo (kName 2) b2__law_states (is.map fun i => Dt.int (0 + (i : Nat))) [some (WL ws), some (WL l), c, none] [] =
    some (.nx [some (WL ws), some (WL (l ++ is.flatMap (blk ws))), c', none] [])
  | [], l, c, _ => ⟨c, by rw [List.flatMap_nil, List.append_nil]; rfl⟩
  | i :: is, l, c, hl => by
    have hb := blk_few hn i
    rw [List.length_cons] at hl
    have hsz := line_ge
    obtain ⟨c', ih⟩ := ls_loop hn is (l ++ blk ws i) (some (.int (0 + (i : Nat)))) (by rw [List.length_append]; omega)
    refine ⟨c', ?_⟩
    rw [List.map_cons, List.flatMap_cons, ← List.append_assoc]
    refine for_cons (r1 := [some (WL ws), some (WL l), some (.int (0 + (i : Nat))), none]) (r2 := [some (WL ws), some (WL (l ++ blk ws i)), some (.int (0 + (i : Nat))), none]) (st1 := []) rfl ?_ ih
    have e : lc (iE itL (eVar 0)) [3] (kName 3) cYes e1__law_states [some (WL ws), some (WL l), some (.int (0 + (i : Nat))), none] [] = some ((ws.map fun w => pre w i).map Dt.str, []) := by
      rw [List.map_map]
      refine lc_map (D := Dt.str) (q := Dt.str ∘ fun w => pre w i) ws (v_iE (v_var rfl) rfl) (fun w hw => ⟨[some (WL ws), some (WL l), some (.int (0 + (i : Nat))), some (.str w)], rfl, ?_⟩) (Nat.le_trans hn.l5 (Nat.le_trans (by decide) line_ge))
      exact v_sl (v_var rfl) rfl (v_oE (v_var rfl)) (by rw [v_slS (good_len hn hw), Int.zero_add, cutS_pre]; rfl)
    have s := s_set (i := 1) (r := [some (WL ws), some (WL l), some (.int (0 + (i : Nat))), none]) (st := []) (st1 := []) (d := WL (l ++ blk ws i)) (fa := eOp2 gAdd (eVar 1) (eN gSS (aCons (toV (lc (iE itL (eVar 0)) [3] (kName 3) cYes e1__law_states)) aNil)))
      (v_op (v_var rfl) (c_ss (v_toV e) (by rw [List.length_map]; exact hn.l5)) (by
        show (if (l.map Dt.str).length + ((blk ws i).map Dt.str).length ≤ sizeLine then some (Dt.lst (l.map Dt.str ++ (blk ws i).map Dt.str), _) else none) = _
        rw [if_pos (by rw [List.length_map, List.length_map]; omega), ← List.map_append]))
    exact s
theorem run_law_states {ws : List Str} {n : Nat} (hn : Good ws n) : fV F__law_states [WL ws] = some (WL (allSt ws)) := by
  have h7 := hn.n7
  obtain ⟨w0, ws', ew⟩ : ∃ w0 ws', ws = w0 :: ws' := by
    have := hn.l1
    cases ws with
    | nil => simp at this
    | cons x y => exact ⟨x, y, rfl⟩
  have h0 := hn.len w0 (by rw [ew]; simp)
  obtain ⟨c', e⟩ := ls_loop hn (List.range (n + 1)) [] none (by rw [List.length_range, List.length_nil]; omega)
  have e2 : g__law_states (startD 4 [WL ws]) [] = some (.rt (WL (lawSt ws n)) []) := by
    unfold g__law_states
    rw [show startD 4 [WL ws] = [some (WL ws), none, none, none] from rfl]
    refine s_seq (r1 := [some (WL ws), some (WL []), none, none]) (st1 := []) rfl (s_seq (s_for (v_rg (n := n + 1) (v_one (v_op (v_N (v_one (v_op (v_var rfl) rfl (v_ixL (d := .str w0) (by rw [ew]; exact atI_zero _ _)))) (v_lenS (good_len hn (by rw [ew]; simp)))) rfl (by rw [h0]; rfl))) (by omega)) e) (s_ret (v_var rfl)))
  rw [law_st hn] at e2
  exact fV_of (b_rt e2) (deref_no (noRef_lstS _))

theorem run_law_behindV {ws : List Str} {s : Str} {n : Nat} (hn : Good ws n) (hs : s ∈ allSt ws) : F__law_behind [WL ws, .str s] [] = some (.ref 0, [some (WL (after ws s))]) := by
  have ls := all_line hn hs
  have hsz := line_ge
  have lw : ws.length ≤ sizeLine := Nat.le_trans hn.l5 (Nat.le_trans (by decide) line_ge)
  refine b_rt ?_
  rw [show startD 5 [WL ws, .str s] = [some (WL ws), some (.str s), none, none, none] from rfl]
  have e : lc (iE itL (eVar 0)) [4] (kName 4) c1__law_behind e1__law_behind [some (WL ws), some (.str s), none, none, none] [] =
      some (((ws.filter fun w => decide (pre w s.length = s) && decide (s.length < w.length)).map fun w => pre w (s.length + 1)).map Dt.str, []) := by
    rw [List.map_map]
    refine lc_pure (D := Dt.str) (p := fun w => decide (pre w s.length = s) && decide (s.length < w.length)) (q := Dt.str ∘ fun w => pre w (s.length + 1)) ws (v_iE (v_var rfl) rfl) (fun w hw => ⟨[some (WL ws), some (.str s), none, none, some (.str w)], rfl, ?_, fun _ => ?_⟩) lw
    · have n1 : eOp2 gEqB (eSl (eVar 4) oNo (oE (eN gLen (aCons (eVar 1) aNil)))) (eVar 1) [some (WL ws), some (.str s), none, none, some (.str w)] [] = some (.bl (decide (pre w s.length = s)), []) :=
        v_op (v_sl (v_var rfl) rfl (v_oE (v_N (v_one (v_var rfl)) (v_lenS ls))) (by rw [v_slS (good_len hn hw), cutS_pre])) (v_var rfl) zEqS
      have n2 : eOp2 gGt (eN gLen (aCons (eVar 4) aNil)) (eN gLen (aCons (eVar 1) aNil)) [some (WL ws), some (.str s), none, none, some (.str w)] [] = some (.bl (decide (s.length < w.length)), []) := by
        refine v_op (v_N (v_one (v_var rfl)) (v_lenS (good_len hn hw))) (v_N (v_one (v_var rfl)) (v_lenS ls)) ?_
        show some (Dt.bl (decide ((s.length : Int) < (w.length : Int))), _) = _
        simp
      cases hc : decide (pre w s.length = s) with
      | true => rw [hc] at n1; exact t_andT (t_B n1) (t_B n2)
      | false => rw [hc] at n1; exact t_andF (t_B n1)
    · exact v_sl (v_var rfl) rfl (v_oE (i := ((s.length + 1 : Nat) : Int)) (v_op (v_N (v_one (v_var rfl)) (v_lenS ls)) rfl rfl)) (by rw [v_slS (good_len hn hw), cutS_pre]; rfl)
  have hfew : (((ws.filter fun w => decide (pre w s.length = s) && decide (s.length < w.length)).map fun w => pre w (s.length + 1))).length ≤ 5 := by
    rw [List.length_map]
    exact Nat.le_trans (List.length_filter_le _ _) hn.l5
  refine s_seq (s_set (c_ss (v_toV e) hfew)) (s_ret (v_toR0 ?_))
  have e2 := lc_map (r := [some (WL ws), some (.str s), some (WL (lawT ws s)), none, none]) (st := []) (st1 := []) (fi := iE itL (eVar 2)) (own := [3]) (kt := kName 3) (f := e2__law_behind) (D := Dt.str) (q := fun o => .str (lastS o)) (lawT ws s) (v_iE (v_var rfl) rfl)
    (fun o ho => ⟨[some (WL ws), some (.str s), some (WL (lawT ws s)), some (.str o), none], rfl, v_op (v_var rfl) v_neg1 (v_ixS (by rw [lawT_len ho]; have := all_len7 hn hs; omega) (at_m1 (nonempty_iff.mpr (by rw [lawT_len ho]; omega))))⟩) (by
      rw [lawT_eq hn]
      exact Nat.le_trans (List.length_filter_le _ _) (Nat.le_trans (all_few hn) (Nat.le_trans (by decide) line_ge)))
  have e3 : (lawT ws s).map (fun o => Dt.str (lastS o)) = (after ws s).map Dt.str := by
    unfold after
    rw [lawT_eq hn, List.map_map]
    rfl
  rw [e3] at e2
  exact e2
theorem run_law_behind {ws : List Str} {s : Str} {n : Nat} (hn : Good ws n) (hs : s ∈ allSt ws) : fV F__law_behind [WL ws, .str s] = some (WL (after ws s)) := fV_lst (run_law_behindV hn hs) rfl (noRefs_str _)
theorem c_next {r : Evr} {st : Sto} {x : Drw} {k : Nat} (hr : r[0]? = some (some (.ref k))) (hx : st[k]? = some (some x.dt)) (hk : x.k < 1000000) : eN gInt (aCons (eN (gF 1 (liftE (fE F__law_next))) (aCons (eVar 0) aNil)) aNil) r st = some (.int (nextN x).1, st.set k (some (nextN x).2.dt)) :=
  v_N (v_one (v_N (v_one (v_var hr)) (v_gF rfl (v_Ee (ds := []) (c := x.dt) rfl hx rfl (run_next x hk))))) rfl
theorem word_lc {sg : Str} (hs : Sg sg) {m lg k w T : Option Dt} {t : Dt} : ∀ (xs : List Nat) (x : Drw), x.k + xs.length < 1000000 → lcGo (kName 7) cYes e1__law_words [some (.ref 0), m, some (.str sg), lg, T, k, w, none] (xs.map fun i => Dt.int (0 + (i : Nat))) [some x.dt, some t] =
    some ((wordOf sg xs.length x).1.map (fun c => Dt.str ⟨#[c]⟩), [some (wordOf sg xs.length x).2.dt, some t])
  | [], x, _ => rfl
  | i :: xs, x, h => by
    rw [List.length_cons] at h
    have hk : x.k < 1000000 := by omega
    have ih := word_lc hs (m := m) (lg := lg) (k := k) (w := w) (T := T) (t := t) xs (nextN x).2 (by rw [next_k]; omega)
    have hl := hs.l1
    have e : e1__law_words [some (.ref 0), m, some (.str sg), lg, T, k, w, some (.int (0 + (i : Nat)))] [some x.dt, some t] = some (.str ⟨#[sg.cps.toList.getD (((nextN x).1 % sg.length).toNat) 0]⟩, [some (nextN x).2.dt, some t]) :=
      v_op (v_var rfl) (v_op (c_next (x := x) rfl rfl hk) (v_N (v_one (v_var rfl)) (v_lenS (sg_line hs))) (v_gI (hMd _ _ (by omega)))) (v_ixS (sg_line hs) (at_mod sg.cps.toList (nextN x).1 sg.length (by rw [str_len]) (by omega) 0))
    rw [List.map_cons]
    exact lcGo_cons rfl rfl e ih
theorem words_loop {sg : Str} (hs : Sg sg) {lg : Nat} (hlg : lg ≤ 7) {m : Option Dt} : ∀ (xs : List Nat) (l : List Str) (x : Drw) (k w : Option Dt), x.k + 8 * xs.length < 1000000 → l.length + xs.length < 1000000 → ∃ k' w', sForGo (kName 5) b2__law_words (xs.map fun i => Dt.int (0 + (i : Nat))) [some (.ref 0), m, some (.str sg), some (.int (lg : Nat)), some (.ref 1), k, w, none] [some x.dt, some (WL l)] =
    some (.nx [some (.ref 0), m, some (.str sg), some (.int (lg : Nat)), some (.ref 1), k', w', none] [some (wordsOf sg lg xs.length l x).2.dt, some (WL (wordsOf sg lg xs.length l x).1)])
  | [], l, x, k, w, _, _ => ⟨k, w, rfl⟩
  | i :: xs, l, x, k, w, hk, hl => by
    rw [List.length_cons] at hk hl
    have hz := line_ge
    have hi := ins2_len (wd sg lg x) l
    obtain ⟨k', w', ih⟩ := words_loop hs hlg (m := m) xs (ins2 (wd sg lg x) l) (wordOf sg lg x).2 (some (.int (0 + (i : Nat)))) (some (.str (wd sg lg x))) (by rw [word_k]; omega) (by omega)
    refine ⟨k', w', ?_⟩
    rw [List.map_cons]
    let r1 : Evr := [some (.ref 0), m, some (.str sg), some (.int (lg : Nat)), some (.ref 1), some (.int (0 + (i : Nat))), w, none]
    let r2 : Evr := [some (.ref 0), m, some (.str sg), some (.int (lg : Nat)), some (.ref 1), some (.int (0 + (i : Nat))), some (.str (wd sg lg x)), none]
    have hword : toV (lc (iR rg1 (aCons (eVar 3) aNil)) [7] (kName 7) cYes e1__law_words) r1 [some x.dt, some (WL l)] = some (.lst ((wordOf sg lg x).1.map fun c => Dt.str ⟨#[c]⟩), [some (wordOf sg lg x).2.dt, some (WL l)]) := by
      refine v_toV ?_
      unfold lc
      rw [v_rg (n := lg) (v_one (v_var rfl)) (by omega)]
      have e := word_lc hs (m := m) (lg := some (.int (lg : Nat))) (k := some (.int (0 + (i : Nat)))) (w := w) (T := some (.ref 1)) (t := WL l) (List.range lg) x (by rw [List.length_range]; omega)
      rw [List.length_range] at e
      show ((lcGo (kName 7) cYes _ (wipeD r1 [7]) ((List.range lg).map fun i => Dt.int (0 + (i : Nat))) [some x.dt, some (WL l)]).bind fun z => if z.1.length ≤ sizeLine then some z else none) = _
      rw [show wipeD r1 [7] = r1 from rfl, e]
      refine if_pos ?_
      rw [List.length_map, word_len]
      omega
    have hj : eM1 gJoin (eC (.str "")) (toV (lc (iR rg1 (aCons (eVar 3) aNil)) [7] (kName 7) cYes e1__law_words)) r1 [some x.dt, some (WL l)] = some (.str (wd sg lg x), [some (wordOf sg lg x).2.dt, some (WL l)]) :=
      v_M1 rfl hword (v_join _ (by rw [word_len]; exact hlg) _)
    refine for_cons (r1 := r1) (r2 := r2) (st1 := [some (wordOf sg lg x).2.dt, some (WL (ins2 (wd sg lg x) l))]) rfl (s_seq (s_set hj) ?_) ih
    by_cases hm : wd sg lg x ∈ l
    · have : ins2 (wd sg lg x) l = l := by unfold ins2; rw [if_pos hm]
      rw [this]
      exact s_ifF (t_B (v_op (v_var rfl) (v_var rfl) (v_ninF rfl hm))) rfl
    · have : ins2 (wd sg lg x) l = l ++ [wd sg lg x] := by unfold ins2; rw [if_neg hm]
      rw [this]
      refine s_ifT (t_B (v_op (v_var rfl) (v_var rfl) (v_ninT rfl hm))) ?_
      refine s_ex (d := .non) ?_
      show gApp [some (wordOf sg lg x).2.dt, some (WL l)] (.ref 1) [.str (wd sg lg x)] = _
      show (if (l.map Dt.str).length < sizeLine then some (Dt.non, [some (wordOf sg lg x).2.dt, some (.lst (l.map Dt.str ++ [.str (wd sg lg x)]))]) else none) = _
      rw [if_pos (by rw [List.length_map]; omega)]
      show _ = some (Dt.non, [some (wordOf sg lg x).2.dt, some (.lst ((l ++ [wd sg lg x]).map Dt.str))])
      rw [List.map_append]
      rfl
theorem run_law_words (x : Drw) (hx0 : x.k = 0) : fE F__law_words x.dt [.int 7] = some (WL (lawWords 7 x).1, (lawWords 7 x).2.dt) := by
  have hk : x.k < 1000000 := by omega
  let y1 := nextN x
  let y2 := nextN y1.2
  let y3 := nextN y2.2
  have k1 : y1.2.k = 1 := by rw [next_k, hx0]
  have k2 : y2.2.k = 2 := by rw [next_k, k1]
  have k3 : y3.2.k = 3 := by rw [next_k, k2]
  have a1 := Int.emod_nonneg y1.1 (show (4 : Int) ≠ 0 by decide)
  have b1 := Int.emod_lt_of_pos y1.1 (show (0 : Int) < 4 by decide)
  have a2 := Int.emod_nonneg y2.1 (show (7 : Int) ≠ 0 by decide)
  have b2 := Int.emod_lt_of_pos y2.1 (show (0 : Int) < 7 by decide)
  have a3 := Int.emod_nonneg y3.1 (show (5 : Int) ≠ 0 by decide)
  have b3 := Int.emod_lt_of_pos y3.1 (show (0 : Int) < 5 by decide)
  let i1 : Nat := (y1.1 % 4).toNat
  let lg : Nat := (1 + y2.1 % 7).toNat
  let m : Nat := (1 + y3.1 % 5).toNat
  have hs : Sg (signsOf i1) := sg_of i1 (by show (y1.1 % 4).toNat < 4; omega)
  have hlg : lg ≤ 7 := by show (1 + y2.1 % 7).toNat ≤ 7; omega
  have hm : m ≤ 5 := by show (1 + y3.1 % 5).toNat ≤ 5; omega
  have elg : (1 + y2.1 % 7 : Int) = (lg : Nat) := by show _ = (((1 + y2.1 % 7).toNat : Nat) : Int); omega
  have em : (1 + y3.1 % 5 : Int) = (m : Nat) := by show _ = (((1 + y3.1 % 5).toNat : Nat) : Int); omega
  obtain ⟨k', w', e⟩ := words_loop hs hlg (m := some (.int 7)) (List.range m) [] y3.2 none none (by rw [k3, List.length_range]; omega) (by rw [List.length_range, List.length_nil]; omega)
  rw [List.length_range] at e
  have run : g__law_words (startD 8 [.ref 0, .int 7]) [some x.dt] = some (.rt (.ref 1) [some (wordsOf (signsOf i1) lg m [] y3.2).2.dt, some (WL (wordsOf (signsOf i1) lg m [] y3.2).1)]) := by
    rw [show startD 8 [.ref 0, .int 7] = [some (.ref 0), some (.int 7), none, none, none, none, none, none] from rfl]
    unfold g__law_words
    refine s_seq (s_set (d := .str (signsOf i1)) (st1 := [some y1.2.dt]) (v_op (v_toV (v_small (v_cons rfl (v_cons rfl (v_cons rfl (v_one rfl)))) (by show 4 ≤ sizeLine; decide))) (v_op (c_next (x := x) rfl rfl hk) rfl (v_gI (hMd _ _ (by decide)))) (v_ixL ?_))) ?_
    · rw [at_mod _ y1.1 4 rfl (by decide) (.str "")]
      have hi : i1 < 4 := by show (y1.1 % 4).toNat < 4; omega
      show some (([Dt.str "ab", Dt.str "ab", Dt.str "abc", Dt.str "!~z"] : List Dt).getD i1 (.str "")) = some (.str (signsOf i1))
      have : i1 = 0 ∨ i1 = 1 ∨ i1 = 2 ∨ i1 = 3 := by omega
      rcases this with q | q | q | q <;> rw [q] <;> rfl
    refine s_seq (s_set (d := .int (lg : Nat)) (st1 := [some y2.2.dt]) (v_op rfl (v_op (c_next (x := y1.2) rfl rfl (by omega)) (v_var rfl) (v_gI (hMd _ _ (by decide)))) (by rw [← elg]; rfl))) ?_
    refine s_seq (s_set (d := .ref 1) (st1 := [some y2.2.dt, some (WL [])]) rfl) ?_
    refine s_seq (s_for (xs := (List.range m).map fun i => Dt.int (0 + (i : Nat))) (st1 := [some y3.2.dt, some (WL [])]) (v_rg (n := m) (v_one (v_op rfl (v_op (c_next (x := y2.2) rfl rfl (by omega)) rfl (v_gI (hMd _ _ (by decide)))) (by rw [← em]; rfl))) (by omega)) e) ?_
    exact s_ret (v_var rfl)
  exact fE_of (b_rt0 run) rfl rfl (deref_ref rfl (noRef_lstS _))

end K03

set_option Elab.async false
set_option linter.all false
set_option maxRecDepth 100000
set_option maxHeartbeats 1000000
namespace K03
open PySem PySem.Spec PyProof.Rows L2 HB
section
variable {ws : List Str} {n : Nat} {ks : List Str} {tb : Str → Str}
theorem cut_tl (hg : Good ws n) : cutL ((allSt ws).map Dt.str) (some 1) none = (tl ws).map Dt.str := by rw [all_cons hg, cutL_one]
theorem run_check_table (hg : Good ws n) (hk : Keys ws ks) (ht : Tab ws tb) : fV F_check_table [tK ks tb, WL ws] = some .non := by
  have hf := tl_few hg
  have hs := line_ge
  have hl := tl_len hg
  have hkl := hk.len
  have e1 : lcGo (kName 3) cYes e1_check_table [some (tK ks tb), some (WL ws), some (WL (allSt ws)), none, none] ((tl ws).map Dt.str) [] = some ((tl ws).map fun _ => .bl true, []) :=
    lcGo_map _ _ _ fun s hs' => ⟨_, rfl, by simp [e1_check_table, in_tK ((hk.mem s).mpr hs')]⟩
  have e2 := bools_allT (tl ws) (fun _ => true) []
  have e3 : ((tl ws).all fun _ => true) = true := by simp
  have hlp := (for_st (kt := kName 3) (g := b2_check_table) Dt.str (fun s : Option Dt × Option Dt => [some (tK ks tb), some (WL ws), some (WL (allSt ws)), s.1, s.2]) (fun _ => []) (fun _ s => (some (.str s), some (.str (tb s)))) (fun _ => True) (tl ws) (none, none) trivial ?_).1
  · obtain ⟨r', e⟩ : ∃ r', g_check_table (startD 5 [tK ks tb, WL ws]) [] = some (.nx r' []) := ⟨_, by
      simp [g_check_table, startD, run_all_states hg, cut_tl hg, hl, hkl]
      rw [e1]
      have : (tl ws).length ≤ sizeLine := by omega
      simp [this, e2, e3, cut_tl hg]
      exact hlp⟩
    exact fV_of (b_nx e) (deref_no rfl)
  · rintro ⟨s1, s2⟩ s hs' _
    refine ⟨_, rfl, ?_, trivial⟩
    obtain ⟨a, b⟩ := ht s hs'
    have k1 := zLenS (st := []) (all_line hg a)
    have k2 := zLenS (st := []) (all_line hg ((mem_tl hg).mp hs').1)
    have k3 : gIn true [] (.str (tb s)) (WL (allSt ws)) = some (.bl false, []) := v_ninF (l := allSt ws) rfl a
    have k4 : ¬ (s.length : Int) ≤ ((tb s).length : Int) := by omega
    simp [b2_check_table, ix_tK ((hk.mem s).mpr hs'), k1, k2, k3]
    omega
theorem run_check_search (hg : Good ws n) (hk : Keys ws ks) (ht : Tab ws tb) : fV F_check_search [WL ws, tK ks tb] = some .non := by
  have e : g_check_search (startD 2 [WL ws, tK ks tb]) [] = some (.nx [some (WL ws), some (tK ks tb)] []) := by
    simp [g_check_search, startD, run_check_words hg, run_check_table hg hk ht]
  exact fV_of (b_nx e) (deref_no rfl)
theorem run_beyond (hg : Good ws n) {o s : Str} (ho : o ∈ allSt ws) (hs : s ∈ allSt ws) : fV F_goes_beyond [bD ws, .str o, .str s] = some (.bl (beyond ws o s)) := by
  have e1 : lcGo (kName 3) cYes e1_goes_beyond [some (bD ws), some (.str o), some (.str s), none] ((after ws o).map Dt.str) [] = some ((after ws o).map fun l => .bl (!decide (l ∈ after ws s)), []) :=
    lcGo_map _ _ _ fun l hl => ⟨_, rfl, by
      have k := v_inS (st := []) (x := l) (l := after ws s) (neg := true) (d := WL (after ws s)) rfl
      simp at k
      simp [e1_goes_beyond, ix_bD hs, k]⟩
  have hl : (after ws o).length ≤ sizeLine := by have := (fine_after hg o).few; have := line_ge; omega
  have e : g_goes_beyond (startD 4 [bD ws, .str o, .str s]) [] = some (.rt (.bl (beyond ws o s)) []) := by
    simp [g_goes_beyond, startD, ix_bD ho]
    rw [e1]
    have e2 := bools_any (after ws o) (fun l => !decide (l ∈ after ws s)) []
    simp [hl, e2, beyond]
  exact fV_of (b_rt e) (deref_no rfl)
theorem wh_chain (hg : Good ws n) (hk : Keys ws ks) (ht : Tab ws tb) : ∀ (m : Nat) (s : Str) (acc : List Str) (fuel : Nat), s ∈ allSt ws → s.length ≤ m → m < fuel → acc.length + m ≤ 1000 →
    sWh w1_chain_in b1_chain_in fuel [some (tK ks tb), some (.str s), some (.ref 0)] [some (WL acc)] = some (.nx [some (tK ks tb), some (.str ""), some (.ref 0)] [some (WL (acc ++ chain tb s))])
  | m, s, acc, 0, _, _, h, _ => by omega
  | m, s, acc, fuel + 1, hs, hm, hf, ha => by
    have hz := line_ge
    by_cases e : s = ("" : Str)
    · subst e
      rw [chain_nil]
      have := wh_stop (g := b1_chain_in) (n := fuel) (show w1_chain_in [some (tK ks tb), some (.str ""), some (.ref 0)] [some (WL acc)] = some (false, [some (WL acc)]) by simp [w1_chain_in])
      simpa using this
    · have hs' := (mem_tl hg).mpr ⟨hs, e⟩
      obtain ⟨a, b⟩ := ht s hs'
      have ih := wh_chain hg hk ht (m - 1) (tb s) (acc ++ [tb s]) fuel a (by omega) (by omega) (by simp; omega)
      have hl : acc.length < sizeLine := by omega
      rw [chain_cons hg ht hs']
      rw [List.append_assoc] at ih
      exact wh_step (by simp [w1_chain_in, e]; rfl) (by simp [b1_chain_in, ix_tK ((hk.mem s).mpr hs'), eM, isL, asL, gApp, hl]; exact ⟨rfl, rfl⟩) (by simpa [WL] using ih)
theorem run_chainV (hg : Good ws n) (hk : Keys ws ks) (ht : Tab ws tb) {s : Str} (hs : s ∈ allSt ws) : F_chain_in [tK ks tb, .str s] [] = some (.ref 0, [some (WL (chain tb s))]) := by
  refine b_rt ?_
  have h := wh_chain hg hk ht s.length s [] 1000 hs (Nat.le_refl _) (by have := all_len7 hg hs; omega) (by have := all_len7 hg hs; simp; omega)
  simp [WL] at h
  simp [g_chain_in, startD]
  rw [h]
  simp [WL]
theorem run_chain_in (hg : Good ws n) (hk : Keys ws ks) (ht : Tab ws tb) {s : Str} (hs : s ∈ allSt ws) : fV F_chain_in [tK ks tb, .str s] = some (WL (chain tb s)) := fV_lst (run_chainV hg hk ht hs) rfl (noRefs_str _)
theorem run_chain_inR (hg : Good ws n) (hk : Keys ws ks) (ht : Tab ws tb) {s : Str} (hs : s ∈ allSt ws) : fR F_chain_in [tK ks tb, .str s] = some (WL (chain tb s)) := fR_lst (run_chainV hg hk ht hs) rfl (noRefs_str _)
theorem run_shortcut (hg : Good ws n) (hk : Keys ws ks) (ht : Tab ws tb) {s : Str} (hs : s ∈ allSt ws) : fV F_shortcut_in [bD ws, tK ks tb, .str s] = some (oS (shortc ws tb s)) := by
  have hc := fun o ho => (chain_mem hg ht _ s hs (Nat.le_refl _) o ho).1
  have e1 : lcGo (kName 4) c1_shortcut_in e1_shortcut_in [some (bD ws), some (tK ks tb), some (.str s), none, none] ((chain tb s).map Dt.str) [] = some (((chain tb s).filter fun o => beyond ws o s).map Dt.str, []) :=
    lcGo_pure _ _ _ _ fun o ho => ⟨_, rfl, by simp [c1_shortcut_in, run_beyond hg (hc o ho) hs], fun _ => by simp [e1_shortcut_in]⟩
  have hfi := fine_chain hg ht hs
  have hl : ((chain tb s).filter fun o => beyond ws o s).length ≤ sizeLine := by
    have := List.length_filter_le (fun o => beyond ws o s) (chain tb s)
    have := hfi.few
    have := line_ge
    omega
  have hsm : ∀ x ∈ (chain tb s).filter (fun o => beyond ws o s), Sm x := fun x hx => hfi.sm x (List.mem_filter.mp hx).1
  have e : g_shortcut_in (startD 5 [bD ws, tK ks tb, .str s]) [] = some (.rt (oS (shortc ws tb s)) []) := by
    simp [g_shortcut_in, startD, run_chain_in hg hk ht hs]
    rw [e1]
    simp [hl]
    have k := zNeL0 (st := []) hsm
    unfold shortc
    rw [← List.head?_filter]
    generalize (chain tb s).filter (fun o => beyond ws o s) = l at k
    cases l with
    | nil =>
      simp at k
      simp [k, oS]
    | cons a l =>
      have k2 := zIx (st := []) (atI_zero (Dt.str a) (l.map Dt.str))
      simp at k
      simp [k, k2, oS]
  exact fV_of (b_rt e) (deref_no (by simp))
theorem run_shortcutsV (hg : Good ws n) (hk : Keys ws ks) (ht : Tab ws tb) : F_shortcuts_in [WL ws, tK ks tb] [] = some (.ref 0, [some (oK (tl ws) (shortc ws tb))]) := by
  have hf := tl_few hg
  have e := dc_pure (st := []) (r := [some (WL ws), some (tK ks tb), some (bD ws), none]) (kt := kName 3) (fk := eVar 3) (fv := v1_shortcuts_in) Dt.str (fun s => s) (fun s => oS (shortc ws tb s)) (tl ws) [] [] (fun s hs => ⟨_, rfl, by simp, by
    simp [v1_shortcuts_in, run_shortcut hg hk ht ((mem_tl hg).mp hs).1]⟩) (by simpa using tl_nodup ws) (by simp; omega)
  refine b_rt ?_
  simp [g_shortcuts_in, startD, run_behind hg, run_all_states hg, cut_tl hg]
  simp at e
  rw [e]
  simp [oK]
theorem run_shortcuts_in (hg : Good ws n) (hk : Keys ws ks) (ht : Tab ws tb) : fR F_shortcuts_in [WL ws, tK ks tb] = some (oK (tl ws) (shortc ws tb)) := by
  unfold fR
  rw [run_shortcutsV hg hk ht]
  show (match ([some (oK (tl ws) (shortc ws tb))] : Sto)[0]? with
    | some (some (.lst ds)) => (derefs (([some (oK (tl ws) (shortc ws tb))] : Sto).set 0 none) 6 ds).map Dt.lst
    | some (some (.dic ks ds)) => (derefs (([some (oK (tl ws) (shortc ws tb))] : Sto).set 0 none) 6 ds).map (Dt.dic ks)
    | _ => none) = _
  have := nr_oK (ks := tl ws) (f := shortc ws tb)
  unfold oK at this ⊢
  rw [nrD] at this
  simp [derefs_no this]
end
end K03

set_option Elab.async false
set_option linter.all false
set_option maxRecDepth 100000
set_option maxHeartbeats 1000000
namespace K03
open PySem PySem.Spec PyProof.Rows L2 HB
section
variable {ws : List Str} {n : Nat} {ks : List Str} {tb : Str → Str}
theorem fR_dic {F : List Dt → Sto → Option (Dt × Sto)} {ds : List Dt} {ks : List Key} {es : List Dt} (h : F ds [] = some (.ref 0, [some (.dic ks es)])) (hn : noRefs es = true) : fR F ds = some (.dic ks es) := by
  unfold fR
  rw [h]
  show (derefs (([some (.dic ks es)] : Sto).set 0 none) 6 es).map (Dt.dic ks) = _
  rw [derefs_no hn]
  rfl
theorem fV_dic {F : List Dt → Sto → Option (Dt × Sto)} {ds : List Dt} {ks : List Key} {es : List Dt} (h : F ds [] = some (.ref 0, [some (.dic ks es)])) (hn : noRefs es = true) : fV F ds = some (.dic ks es) := fV_of h (deref_ref rfl (by rw [nrD]; exact hn))
theorem nr_strs {ks : List Str} {f : Str → Str} : noRefs (ks.map fun s => Dt.str (f s)) = true := noRefs_map fun _ _ => rfl
theorem nr_oSs {ks : List Str} {f : Str → Option Str} : noRefs (ks.map fun s => oS (f s)) = true := noRefs_map fun _ _ => nrO
theorem run_true_inV (hg : Good ws n) : F_true_in [WL ws] [] = some (.ref 0, [some (tK (tl ws) (longE ws))]) := by
  have hf := tl_few hg
  have e := dc_pure (st := []) (r := [some (WL ws), none]) (kt := kName 1) (fk := eVar 1) (fv := v1_true_in) Dt.str (fun s => s) (fun s => .str (longE ws s)) (tl ws) [] [] (fun s hs => ⟨_, rfl, by simp, by
    have hne : below ws s ≠ [] := fun z => by have := below_ne hg hs; rw [z] at this; simp at this
    have k : atI ((below ws s).map Dt.str) (-1) = some (.str (longE ws s)) := by
      have hl : 0 < (below ws s).length := List.length_pos_iff.mpr hne
      unfold atI ixN
      rw [if_neg (by decide), if_pos (by simp; omega)]
      show ((below ws s).map Dt.str)[(-1 + (((below ws s).map Dt.str).length : Int)).toNat]? = _
      have : (-1 + (((below ws s).map Dt.str).length : Int)).toNat = (below ws s).length - 1 := by simp; omega
      rw [this, List.getElem?_map, ← List.getLast?_eq_getElem?, List.getLast?_eq_some_getLast hne]
      unfold longE
      rw [List.getLastD_eq_getLast?, List.getLast?_eq_some_getLast hne]
      rfl
    simp [v1_true_in, run_ends hg ((mem_tl hg).mp hs).1, zIx k]⟩) (by simpa using tl_nodup ws) (by simp; omega)
  refine b_rt ?_
  simp [g_true_in, startD, run_all_states hg, cut_tl hg]
  simp at e
  rw [e]
  simp [tK]
theorem run_true_tableV (hg : Good ws n) : F_true_table [WL ws] [] = some (.ref 0, [some (tK (tl ws) (longE ws))]) := by
  refine b_rt ?_
  simp [g_true_table, startD, run_check_words hg, fR_dic (run_true_inV hg) nr_strs]
  rfl
theorem run_true_table (hg : Good ws n) : fV F_true_table [WL ws] = some (tK (tl ws) (longE ws)) := fV_dic (run_true_tableV hg) nr_strs
theorem run_true_tableR (hg : Good ws n) : fR F_true_table [WL ws] = some (tK (tl ws) (longE ws)) := fR_dic (run_true_tableV hg) nr_strs
theorem run_new_tableV (hg : Good ws n) : F_new_table [WL ws] [] = some (.ref 0, [some (tK (tl ws) fun _ => "")]) := by
  have hf := tl_few hg
  have e := dc_pure (st := []) (r := [some (WL ws), none]) (kt := kName 1) (fk := eVar 1) (fv := v1_new_table) Dt.str (fun s => s) (fun _ => .str "") (tl ws) [] [] (fun s hs => ⟨_, rfl, by simp, by simp [v1_new_table]⟩) (by simpa using tl_nodup ws) (by simp; omega)
  refine b_rt ?_
  simp [g_new_table, startD, run_check_words hg, run_all_states hg, cut_tl hg]
  simp at e
  rw [e]
  simp [tK]
theorem run_new_table (hg : Good ws n) : fV F_new_table [WL ws] = some (tK (tl ws) fun _ => "") := fV_dic (run_new_tableV hg) (noRefs_map fun _ _ => rfl)
theorem run_new_tableR (hg : Good ws n) : fR F_new_table [WL ws] = some (tK (tl ws) fun _ => "") := fR_dic (run_new_tableV hg) (noRefs_map fun _ _ => rfl)
theorem run_chainV2 (hg : Good ws n) (hk : Keys ws ks) (ht : Tab ws tb) {s : Str} (hs : s ∈ allSt ws) : F_chain [WL ws, tK ks tb, .str s] [] = some (.ref 0, [some (WL (chain tb s))]) := by
  refine b_rt ?_
  simp [g_chain, startD, run_check_search hg hk ht, run_check_state hg hs, run_chain_inR hg hk ht hs]
theorem run_chain (hg : Good ws n) (hk : Keys ws ks) (ht : Tab ws tb) {s : Str} (hs : s ∈ allSt ws) : fV F_chain [WL ws, tK ks tb, .str s] = some (WL (chain tb s)) := fV_lst (run_chainV2 hg hk ht hs) rfl (noRefs_str _)
theorem run_chainR (hg : Good ws n) (hk : Keys ws ks) (ht : Tab ws tb) {s : Str} (hs : s ∈ allSt ws) : fR F_chain [WL ws, tK ks tb, .str s] = some (WL (chain tb s)) := fR_lst (run_chainV2 hg hk ht hs) rfl (noRefs_str _)
theorem run_shortcutsV2 (hg : Good ws n) (hk : Keys ws ks) (ht : Tab ws tb) : F_shortcuts [WL ws, tK ks tb] [] = some (.ref 0, [some (oK (tl ws) (shortc ws tb))]) := by
  refine b_rt ?_
  simp [g_shortcuts, startD, run_check_search hg hk ht, run_shortcuts_in hg hk ht]
theorem run_shortcuts (hg : Good ws n) (hk : Keys ws ks) (ht : Tab ws tb) : fV F_shortcuts [WL ws, tK ks tb] = some (oK (tl ws) (shortc ws tb)) := fV_dic (run_shortcutsV2 hg hk ht) nr_oSs
theorem run_shortcutsR (hg : Good ws n) (hk : Keys ws ks) (ht : Tab ws tb) : fR F_shortcuts [WL ws, tK ks tb] = some (oK (tl ws) (shortc ws tb)) := fR_dic (run_shortcutsV2 hg hk ht) nr_oSs
/-! the law's own -/
theorem wh_law_chain (hg : Good ws n) (hk : Keys ws ks) (ht : Tab ws tb) : ∀ (m : Nat) (s : Str) (acc : List Str) (fuel : Nat), s ∈ allSt ws → s.length ≤ m → m < fuel → acc.length + m ≤ 1000 →
    sWh w1__law_chain b1__law_chain fuel [some (tK ks tb), some (.str s), some (.ref 0)] [some (WL acc)] = some (.nx [some (tK ks tb), some (.str ""), some (.ref 0)] [some (WL (acc ++ chain tb s))]) := fun m s acc fuel => wh_chain hg hk ht m s acc fuel
theorem run_law_chain (hg : Good ws n) (hk : Keys ws ks) (ht : Tab ws tb) {s : Str} (hs : s ∈ allSt ws) : fV F__law_chain [tK ks tb, .str s] = some (WL (chain tb s)) := run_chain_in hg hk ht hs
theorem run_law_shortcut (hg : Good ws n) (hk : Keys ws ks) (ht : Tab ws tb) {s : Str} (hs : s ∈ allSt ws) : fV F__law_shortcut [WL ws, tK ks tb, .str s] = some (oS (shortc ws tb s)) := by
  have hc := fun o ho => (chain_mem hg ht _ s hs (Nat.le_refl _) o ho).1
  obtain ⟨v', h⟩ := for_find (kt := kName 4) (g := b2__law_shortcut) (st := []) Dt.str (fun o => beyond ws o s) Dt.str (fun v => [some (WL ws), some (tK ks tb), some (.str s), some (WL (after ws s)), v, none]) (chain tb s) none fun o ho v => ⟨_, rfl, by
    have hsm := (fine_after hg o).sm
    have hfe := (fine_after hg o).few
    have hz := line_ge
    have e1 : lcGo (kName 5) c1__law_shortcut e1__law_shortcut [some (WL ws), some (tK ks tb), some (.str s), some (WL (after ws s)), some (.str o), none] ((after ws o).map Dt.str) [] = some (((after ws o).filter fun l => !decide (l ∈ after ws s)).map Dt.str, []) :=
      lcGo_pure _ _ _ _ fun l hl => ⟨_, rfl, by
        have k := v_inS (st := []) (x := l) (l := after ws s) (neg := true) (d := WL (after ws s)) rfl
        simp at k
        simp [c1__law_shortcut, k], fun _ => by simp [e1__law_shortcut]⟩
    have hl : ((after ws o).filter fun l => !decide (l ∈ after ws s)).length ≤ sizeLine := by
      have := List.length_filter_le (fun l => !decide (l ∈ after ws s)) (after ws o)
      omega
    have k := zNeL0 (st := []) (l := (after ws o).filter fun l => !decide (l ∈ after ws s)) fun x hx => hsm x (List.mem_filter.mp hx).1
    have kb : beyond ws o s = !decide ((after ws o).filter (fun l => !decide (l ∈ after ws s)) = []) := by
      unfold beyond
      rw [Bool.eq_iff_iff]
      simp
    rw [kb]
    simp [b2__law_shortcut, run_law_behind hg (hc o ho)]
    simp [WL] at e1
    rw [e1]
    simp at hl k
    simp [hl, k]⟩
  have e : g__law_shortcut (startD 6 [WL ws, tK ks tb, .str s]) [] = some (.rt (oS (shortc ws tb s)) []) := by
    simp [g__law_shortcut, startD, run_law_behind hg hs, run_law_chain hg hk ht hs]
    rw [h]
    unfold shortc
    cases (chain tb s).find? fun o => beyond ws o s <;> simp [oS]
  exact fV_of (b_rt e) (deref_no (by simp))
end
end K03

set_option Elab.async false
set_option linter.all false
set_option maxRecDepth 100000
set_option maxHeartbeats 1000000
namespace K03
open PySem PySem.Spec PyProof.Rows L2 HB
section
variable {ws : List Str} {n : Nat}
theorem at_modS {l : List Str} (i : Int) (h : l ≠ []) : ∃ v ∈ l, atI (l.map Dt.str) (i % (l.length : Int)) = some (.str v) := by
  have hl : 0 < l.length := List.length_pos_iff.mpr h
  have h1 := Int.emod_nonneg i (show (l.length : Int) ≠ 0 by omega)
  have h2 := Int.emod_lt_of_pos i (show (0 : Int) < l.length by omega)
  have hb : (i % (l.length : Int)).toNat < l.length := by omega
  refine ⟨l[(i % (l.length : Int)).toNat], List.getElem_mem _, ?_⟩
  unfold atI ixN
  rw [if_pos h1, if_pos (by rw [List.length_map]; exact h2)]
  show (l.map Dt.str)[(i % (l.length : Int)).toNat]? = _
  rw [List.getElem?_map, List.getElem?_eq_getElem hb]
  rfl
theorem at_lastS {l : List Str} (h : l ≠ []) : ∃ v ∈ l, atI (l.map Dt.str) (-1) = some (.str v) := by
  have hl : 0 < l.length := List.length_pos_iff.mpr h
  refine ⟨l.getLast h, List.getLast_mem h, ?_⟩
  unfold atI ixN
  rw [if_neg (by decide), if_pos (by rw [List.length_map]; omega)]
  show (l.map Dt.str)[(-1 + ((l.map Dt.str).length : Int)).toNat]? = _
  have : (-1 + ((l.map Dt.str).length : Int)).toNat = l.length - 1 := by simp; omega
  rw [this, List.getElem?_map, ← List.getLast?_eq_getElem?, List.getLast?_eq_some_getLast h]
  rfl
theorem tab_body (hg : Good ws n) {s : Str} (hs : s ∈ tl ws) {kind : Int} (h0 : 0 ≤ kind) (h4 : kind < 4) (done : List Str) (tb : Str → Str) (x : Drw) (hk : x.k < 1000000) (hd : done.length ≤ 1000) (v6 v7 v8 v9 v10 : Option Dt) : ∃ v ∈ lessS ws s, ∃ w6 w7 w8 w9 w10 tb',
    b4__law_table [some (.ref 0), some (WL ws), some (.int kind), some (WL (allSt ws)), some (.ref 1), some (.str s), v6, v7, v8, v9, v10, none] [some x.dt, some (tK done tb)] =
      some (.nx [some (.ref 0), some (WL ws), some (.int kind), some (WL (allSt ws)), some (.ref 1), some (.str s), w6, w7, w8, w9, w10, none] [some (nextN x).2.dt, some (tK (ins2 s done) tb')]) ∧ tb' s = v ∧ ∀ t, t ≠ s → tb' t = tb t := by
  obtain ⟨hsa, hsn⟩ := (mem_tl hg).mp hs
  have hz := line_ge
  have hll := all_line hg hsa
  have hless : ∀ o ∈ lessS ws s, o ∈ allSt ws := fun o ho => (List.mem_filter.mp ho).1
  have hlf : (lessS ws s).length ≤ 40 := Nat.le_trans (List.length_filter_le _ _) (all_few hg)
  have hown : below ws s ≠ [] := fun z => by have := below_ne hg hs; rw [z] at this; simp at this
  have hsub : ∀ o ∈ below ws s, o ∈ lessS ws s := fun o ho => by rw [← own_below] at ho; exact (List.mem_filter.mp ho).1
  have hsubd : ∀ o ∈ deepS ws s, o ∈ lessS ws s := fun o ho => (List.mem_filter.mp ho).1
  let P := (nextN x).1
  let R6 : Evr := [some (.ref 0), some (WL ws), some (.int kind), some (WL (allSt ws)), some (.ref 1), some (.str s), some (WL (lessS ws s)), v7, v8, v9, v10, none]
  let R7 : Evr := [some (.ref 0), some (WL ws), some (.int kind), some (WL (allSt ws)), some (.ref 1), some (.str s), some (WL (lessS ws s)), some (.int P), v8, v9, v10, none]
  let R8 : Evr := [some (.ref 0), some (WL ws), some (.int kind), some (WL (allSt ws)), some (.ref 1), some (.str s), some (WL (lessS ws s)), some (.int P), some (WL (below ws s)), v9, v10, none]
  let R9 : Evr := [some (.ref 0), some (WL ws), some (.int kind), some (WL (allSt ws)), some (.ref 1), some (.str s), some (WL (lessS ws s)), some (.int P), some (WL (below ws s)), some (WL (deepS ws s)), v10, none]
  have i6 : lc (iE itL (eVar 3)) [11] (kName 11) c1__law_table e1__law_table [some (.ref 0), some (WL ws), some (.int kind), some (WL (allSt ws)), some (.ref 1), some (.str s), v6, v7, v8, v9, v10, none] [some x.dt, some (tK done tb)] = some ((lessS ws s).map Dt.str, [some x.dt, some (tK done tb)]) := by
    refine lc_pure Dt.str (fun o => decide (o.length < s.length)) Dt.str (allSt ws) (v_iE (v_var rfl) rfl) (fun o ho => ⟨_, rfl, ?_, fun _ => by simp [e1__law_table]⟩) (by have := all_few hg; omega)
    have k1 := zLenS (st := [some x.dt, some (tK done tb)]) (all_line hg ho)
    have k2 := zLenS (st := [some x.dt, some (tK done tb)]) hll
    simp [c1__law_table, k1, k2]
  have i8 : lc (iE itL (eVar 6)) [11] (kName 11) c2__law_table e2__law_table R7 [some (nextN x).2.dt, some (tK done tb)] = some ((below ws s).map Dt.str, [some (nextN x).2.dt, some (tK done tb)]) := by
    rw [← own_below]
    refine lc_pure Dt.str (fun o => decide (cutS s (some ((s.length : Int) - (o.length : Int))) none = o)) Dt.str (lessS ws s) (v_iE (v_var rfl) rfl) (fun o ho => ⟨_, rfl, ?_, fun _ => by simp [R7, e2__law_table]⟩) (by omega)
    have k1 := zLenS (st := [some (nextN x).2.dt, some (tK done tb)]) (all_line hg (hless o ho))
    have k2 := zLenS (st := [some (nextN x).2.dt, some (tK done tb)]) hll
    have k3 := zSlS (st := [some (nextN x).2.dt, some (tK done tb)]) (lo := some ((s.length : Int) - (o.length : Int))) (hi := none) hll
    simp [R7, c2__law_table, k1, k2, k3]
  have i9 : lc (iE itL (eVar 6)) [11] (kName 11) c3__law_table e3__law_table R8 [some (nextN x).2.dt, some (tK done tb)] = some ((deepS ws s).map Dt.str, [some (nextN x).2.dt, some (tK done tb)]) := by
    refine lc_pure Dt.str (fun o => decide ((o.length : Int) = (s.length : Int) - 1)) Dt.str (lessS ws s) (v_iE (v_var rfl) rfl) (fun o ho => ⟨_, rfl, ?_, fun _ => by simp [R8, e3__law_table]⟩) (by omega)
    have k1 := zLenS (st := [some (nextN x).2.dt, some (tK done tb)]) (all_line hg (hless o ho))
    have k2 := zLenS (st := [some (nextN x).2.dt, some (tK done tb)]) hll
    simp [R8, c3__law_table, k1, k2]
  obtain ⟨a0, ha0, e0⟩ := at_modS (P / 8) (less_ne hg hs)
  obtain ⟨a1, ha1, e1⟩ := at_lastS hown
  obtain ⟨a2, ha2, e2⟩ := at_modS (P / 8) hown
  obtain ⟨a3, ha3, e3⟩ := at_modS (P / 8) (deep_ne hg hs)
  let row : List Dt := [.str a0, .str a1, .str a2, .str a3]
  obtain ⟨v, hv, ev⟩ : ∃ v ∈ lessS ws s, atI row kind = some (.str v) := by
    have : kind = 0 ∨ kind = 1 ∨ kind = 2 ∨ kind = 3 := by omega
    rcases this with rfl | rfl | rfl | rfl
    · exact ⟨a0, ha0, by simp [row, atI, ixN]⟩
    · exact ⟨a1, hsub a1 ha1, by simp [row, atI, ixN]⟩
    · exact ⟨a2, hsub a2 ha2, by simp [row, atI, ixN]⟩
    · exact ⟨a3, hsubd a3 ha3, by simp [row, atI, ixN]⟩
  have l0 : (0 : Int) < (lessS ws s).length := by have := List.length_pos_iff.mpr (less_ne hg hs); omega
  have l1 : (0 : Int) < (below ws s).length := by have := List.length_pos_iff.mpr hown; omega
  have l2 : (0 : Int) < (deepS ws s).length := by have := List.length_pos_iff.mpr (deep_ne hg hs); omega
  let R10 : Evr := [some (.ref 0), some (WL ws), some (.int kind), some (WL (allSt ws)), some (.ref 1), some (.str s), some (WL (lessS ws s)), some (.int P), some (WL (below ws s)), some (WL (deepS ws s)), some (.lst row), none]
  let S1 : Sto := [some (nextN x).2.dt, some (tK done tb)]
  have c8 : ∀ st : Sto, gDiv st (.int P) (.int 8) = some (.int (P / 8), st) := fun st => zDiv (by decide) (by decide)
  have hrow : toV (small (aCons (eOp2 gIx (eVar 6) (eOp2 gMod (eOp2 gDiv (eVar 7) (eC (.int 8))) (eN gLen (aCons (eVar 6) aNil)))) (aCons (eOp2 gIx (eVar 8) (eNeg (eC (.int 1)))) (aCons (eOp2 gIx (eVar 8) (eOp2 gMod (eOp2 gDiv (eVar 7) (eC (.int 8))) (eN gLen (aCons (eVar 8) aNil)))) (aCons (eOp2 gIx (eVar 9) (eOp2 gMod (eOp2 gDiv (eVar 7) (eC (.int 8))) (eN gLen (aCons (eVar 9) aNil)))) aNil))))) R9 S1 = some (.lst row, S1) := by
    have hz4 : 4 ≤ sizeLine := by omega
    simp [R9, S1, c8, zMod l0, zMod l1, zMod l2, zIx e0, zIx e1, zIx e2, zIx e3, row, hz4]
  have hset : sDP (eVar 4) (eVar 5) (eOp2 gIx (eVar 10) (eVar 2)) R10 S1 = some (.nx R10 [some (nextN x).2.dt, some (tK (ins2 s done) (updS tb s v))]) := by
    have := dp_tK (fd := eVar 4) (fk := eVar 5) (fv := eOp2 gIx (eVar 10) (eVar 2)) (r := R10) (st := S1) (st1 := S1) (st2 := S1) (st3 := S1) (i := 1) (s := s) (v := v) (ks := done) (tb := tb) (v_op (v_var rfl) (v_var rfl) (zIx ev)) (v_var rfl) (v_var rfl) rfl (by omega)
    rw [this]
    rfl
  have head : ∀ q, (sIf (cB (eOp2 gEqB (eOp2 gMod (eVar 7) (eC (.int 8))) (eC (.int 0)))) (sDP (eVar 4) (eVar 5) (eOp2 gIx (eVar 6) (eOp2 gMod (eOp2 gDiv (eVar 7) (eC (.int 8))) (eN gLen (aCons (eVar 6) aNil))))) sNx) R10 [some (nextN x).2.dt, some (tK (ins2 s done) (updS tb s v))] = some q →
      b4__law_table [some (.ref 0), some (WL ws), some (.int kind), some (WL (allSt ws)), some (.ref 1), some (.str s), v6, v7, v8, v9, v10, none] [some x.dt, some (tK done tb)] = some q := fun q hq => by
    unfold b4__law_table
    refine s_seq (r1 := R6) (st1 := [some x.dt, some (tK done tb)]) (s_set (v_toV i6)) ?_
    refine s_seq (r1 := R7) (st1 := S1) (s_set (c_next (k := 0) (x := x) rfl rfl hk)) ?_
    refine s_seq (r1 := R8) (st1 := S1) (s_set (v_toV i8)) ?_
    refine s_seq (r1 := R9) (st1 := S1) (s_set (v_toV i9)) ?_
    refine s_seq (r1 := R10) (st1 := S1) (s_set hrow) ?_
    exact s_seq hset hq
  have m8 : ∀ st : Sto, gMod st (.int P) (.int 8) = some (.int (P % 8), st) := fun st => zMod (by decide)
  have ii : ins2 s (ins2 s done) = ins2 s done := by
    have : s ∈ ins2 s done := ins2_mem.mpr (.inl rfl)
    show (if s ∈ ins2 s done then ins2 s done else ins2 s done ++ [s]) = _
    rw [if_pos this]
  have hil := ins2_len s done
  by_cases hp : P % 8 = 0
  · refine ⟨a0, ha0, some (WL (lessS ws s)), some (.int P), some (WL (below ws s)), some (WL (deepS ws s)), some (.lst row), updS (updS tb s v) s a0, head _ ?_, by simp [updS], fun t ht => by simp [updS, ht]⟩
    refine s_ifT (t_B (a := true) (st1 := [some (nextN x).2.dt, some (tK (ins2 s done) (updS tb s v))]) (by simp [R10, m8, hp])) ?_
    have := dp_tK (fd := eVar 4) (fk := eVar 5) (fv := eOp2 gIx (eVar 6) (eOp2 gMod (eOp2 gDiv (eVar 7) (eC (.int 8))) (eN gLen (aCons (eVar 6) aNil)))) (r := R10) (st := [some (nextN x).2.dt, some (tK (ins2 s done) (updS tb s v))]) (i := 1) (s := s) (v := a0) (ks := ins2 s done) (tb := updS tb s v) (by simp [R10, c8, zMod l0, zIx e0]; rfl) (v_var rfl) (v_var rfl) rfl (by omega)
    rw [this, ii]
    rfl
  · refine ⟨v, hv, some (WL (lessS ws s)), some (.int P), some (WL (below ws s)), some (WL (deepS ws s)), some (.lst row), updS tb s v, head _ ?_, by simp [updS], fun t ht => by simp [updS, ht]⟩
    exact s_ifF (t_B (a := false) (st1 := [some (nextN x).2.dt, some (tK (ins2 s done) (updS tb s v))]) (by simp [R10, m8, hp])) rfl
theorem tab_loop (hg : Good ws n) {kind : Int} (h0 : 0 ≤ kind) (h4 : kind < 4) : ∀ (rest done : List Str) (tb : Str → Str) (x : Drw) (v5 v6 v7 v8 v9 v10 : Option Dt), tl ws = done ++ rest → x.k + rest.length < 1000000 → (∀ s ∈ done, tb s ∈ allSt ws ∧ (tb s).length < s.length) → ∃ tb' x' w5 w6 w7 w8 w9 w10,
    sForGo (kName 5) b4__law_table (rest.map Dt.str) [some (.ref 0), some (WL ws), some (.int kind), some (WL (allSt ws)), some (.ref 1), v5, v6, v7, v8, v9, v10, none] [some x.dt, some (tK done tb)] =
      some (.nx [some (.ref 0), some (WL ws), some (.int kind), some (WL (allSt ws)), some (.ref 1), w5, w6, w7, w8, w9, w10, none] [some (Drw.dt x'), some (tK (tl ws) tb')]) ∧ Tab ws tb' ∧ x'.k = x.k + rest.length
  | [], done, tb, x, v5, v6, v7, v8, v9, v10, e, _, hd => by
    rw [List.append_nil] at e
    refine ⟨tb, x, v5, v6, v7, v8, v9, v10, by rw [e]; rfl, fun s hs => hd s (by rw [← e]; exact hs), rfl⟩
  | s :: rest, done, tb, x, v5, v6, v7, v8, v9, v10, e, hk, hd => by
    have hs : s ∈ tl ws := by rw [e]; simp
    have hf := tl_few hg
    rw [e, List.length_append, List.length_cons] at hf
    rw [List.length_cons] at hk
    obtain ⟨v, hv, w6, w7, w8, w9, w10, tb', h1, h2, h3⟩ := tab_body hg hs h0 h4 done tb x (by omega) (by omega) v6 v7 v8 v9 v10
    have hn : s ∉ done := by
      have nd := tl_nodup ws
      rw [e] at nd
      intro hm
      exact (List.nodup_append.mp nd).2.2 s hm s (by simp) rfl
    have hi : ins2 s done = done ++ [s] := by unfold ins2; rw [if_neg hn]
    rw [hi] at h1
    have hkk := next_k x
    obtain ⟨tb2, x2, u5, u6, u7, u8, u9, u10, k1, k2, k3⟩ := tab_loop hg h0 h4 rest (done ++ [s]) tb' (nextN x).2 (some (.str s)) w6 w7 w8 w9 w10 (by rw [e]; simp) (by omega) fun t ht => by
      rcases List.mem_append.mp ht with z | z
      · rw [h3 t fun y => hn (y ▸ z)]; exact hd t z
      · rw [List.mem_singleton.mp z, h2]
        have := List.mem_filter.mp hv
        exact ⟨this.1, by simpa using this.2⟩
    refine ⟨tb2, x2, u5, u6, u7, u8, u9, u10, ?_, k2, by rw [k3, hkk, List.length_cons]; omega⟩
    rw [List.map_cons]
    exact for_cons rfl h1 k1
theorem run_law_table (hg : Good ws n) (x : Drw) (hk : x.k < 900000) : ∃ (tb : Str → Str) (x' : Drw), fE F__law_table x.dt [WL ws] = some (tK (tl ws) tb, x'.dt) ∧ Tab ws tb ∧ x'.k ≤ x.k + 41 := by
  have hf := tl_few hg
  have hkk := next_k x
  have a1 := Int.emod_nonneg (nextN x).1 (show (4 : Int) ≠ 0 by decide)
  have b1 := Int.emod_lt_of_pos (nextN x).1 (show (0 : Int) < 4 by decide)
  obtain ⟨tb, x', w5, w6, w7, w8, w9, w10, h1, h2, h3⟩ := tab_loop hg a1 b1 (tl ws) [] (fun _ => "") (nextN x).2 none none none none none none rfl (by omega) (by simp)
  refine ⟨tb, x', ?_, h2, by omega⟩
  have m4 : ∀ st : Sto, gMod st (.int (nextN x).1) (.int 4) = some (.int ((nextN x).1 % 4), st) := fun st => zMod (by decide)
  have run : g__law_table (startD 12 [.ref 0, WL ws]) [some x.dt] = some (.rt (.ref 1) [some x'.dt, some (tK (tl ws) tb)]) := by
    unfold g__law_table
    rw [show startD 12 [.ref 0, WL ws] = [some (.ref 0), some (WL ws), none, none, none, none, none, none, none, none, none, none] from rfl]
    refine s_seq (s_set (v_op (c_next (k := 0) (x := x) rfl rfl (by omega)) rfl (m4 _))) ?_
    refine s_seq (s_set (d := WL (allSt ws)) (st1 := [some (nextN x).2.dt]) (by simp [run_law_states hg])) ?_
    refine s_seq (r1 := [some (.ref 0), some (WL ws), some (.int ((nextN x).1 % 4)), some (WL (allSt ws)), some (.ref 1), none, none, none, none, none, none, none]) (st1 := [some (nextN x).2.dt, some (tK [] fun _ => "")]) rfl ?_
    refine s_seq (s_for (xs := (tl ws).map Dt.str) (st1 := [some (nextN x).2.dt, some (tK [] fun _ => "")]) (by simp [cut_tl hg]) h1) ?_
    exact s_ret (v_var rfl)
  exact fE_of (b_rt0 run) rfl rfl (deref_ref rfl nr_tK)
end
end K03

set_option Elab.async false
set_option linter.all false
set_option maxRecDepth 100000
set_option maxHeartbeats 1000000
namespace K03
open PySem PySem.Spec PyProof.Rows L2 HB
theorem nodup_le {α : Type} [BEq α] [LawfulBEq α] : ∀ {l m : List α}, l.Nodup → (∀ x ∈ l, x ∈ m) → l.length ≤ m.length
  | [], m, _, _ => by simp
  | x :: l, m, nd, h => by
    rw [List.nodup_cons] at nd
    have hx := h x (by simp)
    have ih := nodup_le (l := l) (m := m.erase x) nd.2 fun y hy => (List.mem_erase_of_ne (show y ≠ x from fun e => nd.1 (e ▸ hy))).mpr (h y (by simp [hy]))
    have := List.length_erase_of_mem hx
    have := List.length_pos_of_mem hx
    rw [List.length_cons]
    omega
theorem fold_ins : ∀ (xs l : List Str), (l ++ xs).Nodup → xs.foldl (fun l k => ins2 k l) l = l ++ xs
  | [], l, _ => by simp
  | x :: xs, l, h => by
    have hn : x ∉ l := fun z => (List.nodup_append.mp h).2.2 x z x (by simp) rfl
    rw [List.foldl_cons, show ins2 x l = l ++ [x] from by unfold ins2; rw [if_neg hn], fold_ins xs (l ++ [x]) (by simpa using h)]
    simp
theorem pairs_map {f : Str → Dt} : ∀ ks : List Str, pairsD (ks.map fun s => .tup [.str s, f s]) = some (ks.map Sum.inr, ks.map f)
  | [] => rfl
  | k :: ks => by
    rw [List.map_cons]
    show (pairD (.tup [.str k, f k])).bind _ = _
    show ((pairsD (ks.map fun s => .tup [.str s, f s])).map _) = _
    rw [pairs_map ks]
    rfl
theorem mrg_map {f : Str → Dt} : ∀ (xs l : List Str), (l ++ xs).Nodup → pMrg (l.map (Sum.inr : Str → Key)) (l.map f) ((xs.map (Sum.inr : Str → Key)).zip (xs.map f)) = ((l ++ xs).map Sum.inr, (l ++ xs).map f)
  | [], l, _ => by simp [pMrg]
  | x :: xs, l, h => by
    have hn : x ∉ l := fun z => (List.nodup_append.mp h).2.2 x z x (by simp) rfl
    have ih := mrg_map (f := f) xs (l ++ [x]) (by simpa using h)
    rw [List.map_cons, List.map_cons, List.zip_cons_cons]
    show pMrg (pPut (Sum.inr x) (f x) (l.map Sum.inr) (l.map f)).1 (pPut (Sum.inr x) (f x) (l.map Sum.inr) (l.map f)).2 _ = _
    rw [put_new x _ l hn]
    simpa using ih
theorem dictP_map {f : Str → Dt} {ks : List Str} {st : Sto} (nd : ks.Nodup) : gDictP st [.lst (ks.map fun s => .tup [.str s, f s])] = some (.dic (ks.map Sum.inr) (ks.map f), st) := by
  show ((pairsD (ks.map fun s => .tup [.str s, f s])).map fun p => (Dt.dic (pMrg [] [] (p.1.zip p.2)).1 (pMrg [] [] (p.1.zip p.2)).2, st)) = _
  rw [pairs_map]
  have := mrg_map (f := f) ks [] (by simpa using nd)
  simp at this
  simp [this]
theorem okQ_tK {ks : List Str} {tb : Str → Str} {m : Nat} (nd : ks.Nodup) (h : ∀ s ∈ ks, Sm (tb s)) : okQ (m + 2) (tK ks tb) := okQ_D (nodup_inr nd) (by simp) fun d hd => by
  obtain ⟨s, hs, rfl⟩ := List.mem_map.mp hd
  exact okQ_S (h s hs)
theorem okQ_oK {ks : List Str} {f : Str → Option Str} {m : Nat} (nd : ks.Nodup) (h : ∀ s ∈ ks, ∀ z, f s = some z → Sm z) : okQ (m + 2) (oK ks f) := okQ_D (nodup_inr nd) (by simp) fun d hd => by
  obtain ⟨s, hs, rfl⟩ := List.mem_map.mp hd
  exact okQ_O (h s hs)
theorem okQ_WL {l : List Str} {m : Nat} (h : ∀ x ∈ l, Sm x) : okQ (m + 2) (WL l) := okQ_L fun d hd => by
  obtain ⟨s, hs, rfl⟩ := List.mem_map.mp hd
  exact okQ_S (h s hs)
theorem sm_empty : Sm ("" : Str) := ⟨by rw [empty_len]; omega, by decide +kernel⟩
section
variable {ws : List Str} {n : Nat}
theorem sm_tab (hg : Good ws n) {tb : Str → Str} (ht : Tab ws tb) {s : Str} (hs : s ∈ tl ws) : Sm (tb s) := sm_all hg (ht s hs).1
theorem sm_tl (hg : Good ws n) {s : Str} (hs : s ∈ tl ws) : Sm s := sm_all hg ((mem_tl hg).mp hs).1
theorem upd_same' (tb : Str → Str) (s : Str) : updS tb s (tb s) = tb := by
  funext t
  unfold updS
  by_cases h : t = s
  · rw [if_pos h, h]
  · rw [if_neg h]
theorem due_loop (hg : Good ws n) (K : Option Dt) : ∃ v4, sForGo (kName 4) b2__law_plain_right ((tl ws).map Dt.str) [some (WL ws), some (WL (allSt ws)), K, some (.ref 0), none, none, none, none, none, none] [some (tK [] (longE ws))] = some (.nx [some (WL ws), some (WL (allSt ws)), K, some (.ref 0), v4, none, none, none, none, none] [some (tK (tl ws) (longE ws))]) := by
  have hf := tl_few hg
  have hz := line_ge
  have h := for_st (kt := kName 4) (g := b2__law_plain_right) Dt.str (fun s : List Str × Option Dt => [some (WL ws), some (WL (allSt ws)), K, some (.ref 0), s.2, none, none, none, none, none]) (fun s => [some (tK s.1 (longE ws))]) (fun s a => (ins2 a s.1, some (.str a))) (fun s => s.1.Nodup ∧ ∀ x ∈ s.1, x ∈ allSt ws) (tl ws) ([], none) (by simp) ?_
  · have e : (tl ws).foldl (fun (s : List Str × Option Dt) a => (ins2 a s.1, some (Dt.str a))) ([], none) = ((tl ws).foldl (fun l k => ins2 k l) [], ((tl ws).foldl (fun (s : List Str × Option Dt) a => (ins2 a s.1, some (Dt.str a))) ([], none)).2) := by
      have : ∀ (xs : List Str) (l : List Str) (v : Option Dt), (xs.foldl (fun (s : List Str × Option Dt) a => (ins2 a s.1, some (Dt.str a))) (l, v)).1 = xs.foldl (fun l k => ins2 k l) l := by
        intro xs
        induction xs with
        | nil => intro l v; rfl
        | cons x xs ih => intro l v; rw [List.foldl_cons, List.foldl_cons, ih]
      rw [← this (tl ws) [] none]
    rw [e, fold_ins _ _ (by simpa using tl_nodup ws)] at h
    exact ⟨_, h.1⟩
  · rintro ⟨l, v⟩ s hs hI
    obtain ⟨hsa, hsn⟩ := (mem_tl hg).mp hs
    have hll := all_line hg hsa
    refine ⟨_, rfl, ?_, ins2_nodup hI.1, fun x hx => by
      rcases ins2_mem.mp hx with rfl | z
      · exact hsa
      · exact hI.2 x z⟩
    have hown : below ws s ≠ [] := fun z => by have := below_ne hg hs; rw [z] at this; simp at this
    have i8 : lc (iE itL (eVar 1)) [8] (kName 8) c1__law_plain_right e1__law_plain_right [some (WL ws), some (WL (allSt ws)), K, some (.ref 0), some (.str s), none, none, none, none, none] [some (tK l (longE ws))] = some ((below ws s).map Dt.str, [some (tK l (longE ws))]) := by
      have e : below ws s = (allSt ws).filter fun o => decide (o.length < s.length) && decide (cutS s (some ((s.length : Int) - (o.length : Int))) none = o) := by
        unfold below
        refine List.filter_congr fun o _ => ?_
        by_cases h : o.length < s.length
        · rw [ends_cut h]
        · simp [h]
      rw [e]
      refine lc_pure Dt.str _ Dt.str (allSt ws) (v_iE (v_var rfl) rfl) (fun o ho => ⟨_, rfl, ?_, fun _ => by simp [e1__law_plain_right]⟩) (by have := all_few hg; omega)
      have k1 := zLenS (st := [some (tK l (longE ws))]) (all_line hg ho)
      have k2 := zLenS (st := [some (tK l (longE ws))]) hll
      have k3 := zSlS (st := [some (tK l (longE ws))]) (lo := some ((s.length : Int) - (o.length : Int))) (hi := none) hll
      by_cases hc : o.length < s.length
      · simp [c1__law_plain_right, k1, k2, k3, hc]
      · simp [c1__law_plain_right, k1, k2, hc]
    have k : atI ((below ws s).map Dt.str) (-1) = some (.str (longE ws s)) := by
      have hl : 0 < (below ws s).length := List.length_pos_iff.mpr hown
      unfold atI ixN
      rw [if_neg (by decide), if_pos (by simp; omega)]
      show ((below ws s).map Dt.str)[(-1 + (((below ws s).map Dt.str).length : Int)).toNat]? = _
      have : (-1 + (((below ws s).map Dt.str).length : Int)).toNat = (below ws s).length - 1 := by simp; omega
      rw [this, List.getElem?_map, ← List.getLast?_eq_getElem?, List.getLast?_eq_some_getLast hown]
      unfold longE
      rw [List.getLastD_eq_getLast?, List.getLast?_eq_some_getLast hown]
      rfl
    have hlen : l.length < sizeLine := by
      have := nodup_le (l := l) hI.1 hI.2
      have := all_few hg
      omega
    have := dp_tK (fd := eVar 3) (fk := eVar 4) (fv := eOp2 gIx (toV (lc (iE itL (eVar 1)) [8] (kName 8) c1__law_plain_right e1__law_plain_right)) (eNeg (eC (.int 1)))) (r := [some (WL ws), some (WL (allSt ws)), K, some (.ref 0), some (.str s), none, none, none, none, none]) (st := [some (tK l (longE ws))]) (i := 0) (s := s) (v := longE ws s) (ks := l) (tb := longE ws)
      (v_op (v_toV i8) v_neg1 (zIx k)) (v_var rfl) (v_var rfl) rfl hlen
    rw [upd_same'] at this
    exact this
theorem rep_ws (hg : Good ws n) {st : Sto} : gRep st [WL ws] = some (.str (repT (WL ws)), st) := v_rep1 (deref_no (noRef_lstS _)) (fine_ws hg)
theorem isd_ref {st : Sto} {k : Nat} {ks : List Key} {ds : List Dt} (h : st[k]? = some (some (.dic ks ds))) : gIs "dict" st [.ref k] = some (.bl true, st) := by
  show ((tyD2 st (.ref k)).bind _) = _
  have : tyD2 st (.ref k) = some "dict" := by
    show tyD st (.ref k) = _
    simp [tyD, h]
  rw [this]
  rfl
theorem lstD_ref {st : Sto} {k : Nat} {ks : List Str} {ds : List Dt} (h : st[k]? = some (some (.dic (ks.map Sum.inr) ds))) : gListD st [.ref k] = some (WL ks, st) := by
  have e : (ks.map (Sum.inr : Str → Key)).map keyDt = ks.map Dt.str := by rw [List.map_map]; rfl
  simp [gListD, asL, asD, h]
  intro a _; rfl
theorem run_plain (hg : Good ws n) : ∃ st', F__law_plain_right [WL ws] [] = some (.bl true, st') := by
  obtain ⟨v4, hdue⟩ := due_loop hg (some (.str (repT (WL ws))))
  have hz := line_ge
  have hf := tl_few hg
  let T := tK (tl ws) (longE ws)
  let N := tK (tl ws) fun _ => ""
  let S0 : Sto := [some T]
  let S4 : Sto := [some T, some T, some T, some N, some N]
  let R5 : Evr := [some (WL ws), some (WL (allSt ws)), some (.str (repT (WL ws))), some (.ref 0), v4, some N, none, none, none, none]
  let R6 : Evr := [some (WL ws), some (WL (allSt ws)), some (.str (repT (WL ws))), some (.ref 0), v4, some N, some (.lst [.ref 1, .ref 2, .ref 3, .ref 4]), none, none, none]
  have nT : noRef T = true := nr_tK
  have nN : noRef N = true := nr_tK
  have oT : ∀ m, okQ (m + 2) T := fun m => okQ_tK (tl_nodup ws) fun s hs => sm_tab hg (tab_true hg) hs
  have oN : ∀ m, okQ (m + 2) N := fun m => okQ_tK (tl_nodup ws) fun s hs => sm_empty
  have l4 : 4 ≤ sizeLine := by omega
  have l2 : 2 ≤ sizeLine := by omega
  have l1 : 1 ≤ sizeLine := by omega
  have lt : (tl ws).length ≤ sizeLine := by omega
  have hfresh : eN gDictP (aCons (toV (lc (iE itL (eSl (eVar 1) (oE (eC (.int 1))) oNo)) [4] (kName 4) cYes e3__law_plain_right)) aNil) [some (WL ws), some (WL (allSt ws)), some (.str (repT (WL ws))), some (.ref 0), v4, none, none, none, none, none] S0 = some (N, S0) := by
    have e : lcGo (kName 4) cYes e3__law_plain_right [some (WL ws), some (WL (allSt ws)), some (.str (repT (WL ws))), some (.ref 0), none, none, none, none, none, none] ((tl ws).map Dt.str) S0 = some ((tl ws).map fun s => .tup [.str s, .str ""], S0) :=
      lcGo_map _ _ _ fun s hs => ⟨_, rfl, by simp [e3__law_plain_right, l2]⟩
    have e2 := dictP_map (f := fun _ => Dt.str "") (st := S0) (tl_nodup ws)
    simp [cut_tl hg]
    rw [e]
    simp [lt, e2, N, tK]
  have htold : toV (small (aCons (eN (gF 1 (liftR (fR F_true_table))) (aCons (eVar 0) aNil)) (aCons (eN (gFk 1 [0] (liftR (fR F_true_table))) (aCons (eVar 0) aNil)) (aCons (eN (gF 1 (liftR (fR F_new_table))) (aCons (eVar 0) aNil)) (aCons (eN (gFk 1 [0] (liftR (fR F_new_table))) (aCons (eVar 0) aNil)) aNil))))) R5 S0 = some (.lst [.ref 1, .ref 2, .ref 3, .ref 4], S4) := by
    simp [R5, S0, S4, gFk, run_true_tableR hg, run_new_tableR hg, l4, T, N, List.range_succ]
  have dr : deref S4 8 (.lst [.ref 1, .ref 2, .ref 3, .ref 4]) = some (.lst [T, T, N, N]) := deref4 rfl rfl rfl rfl nT nT nN nN
  have dr2 : deref S4 8 (.lst [.ref 0, .ref 0, N, N]) = some (.lst [T, T, N, N]) := by
    unfold deref
    rw [if_neg (by simp [noRef])]
    simp [derefs, deref_ref (n := 4) (show S4[0]? = some (some T) from rfl) nT, deref_ref (n := 5) (show S4[0]? = some (some T) from rfl) nT, deref_ref (n := 6) (show S4[0]? = some (some T) from rfl) nT, deref_no nN]
  have hne := (eq_same dr dr2 (by simp [nT, nN]) rfl (okQ_L (by
    intro d hd
    simp at hd
    rcases hd with rfl | rfl
    · exact oT 5
    · exact oN 5))).2
  have hisd : lc (iE itL (eVar 6)) [9] (kName 9) c4__law_plain_right e4__law_plain_right R6 S4 = some ([], S4) := by
    have i1 := isd_ref (st := S4) (k := 1) (ks := (tl ws).map Sum.inr) (ds := (tl ws).map fun s => .str (longE ws s)) rfl
    have i2 := isd_ref (st := S4) (k := 2) (ks := (tl ws).map Sum.inr) (ds := (tl ws).map fun s => .str (longE ws s)) rfl
    have i3 := isd_ref (st := S4) (k := 3) (ks := (tl ws).map Sum.inr) (ds := (tl ws).map fun s => .str "") rfl
    have i4 := isd_ref (st := S4) (k := 4) (ks := (tl ws).map Sum.inr) (ds := (tl ws).map fun s => .str "") rfl
    simp [R6, lcGo, c4__law_plain_right, i1, i2, i3, i4]
  have hkeys : lc (iE itL (eVar 6)) [7] (kName 7) cYes e5__law_plain_right R6 S4 = some ([WL (tl ws), WL (tl ws), WL (tl ws), WL (tl ws)], S4) := by
    have i1 := lstD_ref (st := S4) (k := 1) (ks := tl ws) (ds := (tl ws).map fun s => .str (longE ws s)) rfl
    have i2 := lstD_ref (st := S4) (k := 2) (ks := tl ws) (ds := (tl ws).map fun s => .str (longE ws s)) rfl
    have i3 := lstD_ref (st := S4) (k := 3) (ks := tl ws) (ds := (tl ws).map fun s => .str "") rfl
    have i4 := lstD_ref (st := S4) (k := 4) (ks := tl ws) (ds := (tl ws).map fun s => .str "") rfl
    simp [R6, lcGo, e5__law_plain_right, i1, i2, i3, i4, l4]
  have hmul : eOp2 gMulA (toV (small (aCons (eSl (eVar 1) (oE (eC (.int 1))) oNo) aNil))) (eC (.int 4)) R6 S4 = some (.lst [WL (tl ws), WL (tl ws), WL (tl ws), WL (tl ws)], S4) := by
    simp [R6, cut_tl hg, l1, gMulA, asL, l4, List.replicate]
  have hk4 : gNeB S4 (.lst [WL (tl ws), WL (tl ws), WL (tl ws), WL (tl ws)]) (.lst [WL (tl ws), WL (tl ws), WL (tl ws), WL (tl ws)]) = some (.bl false, S4) := (eq_same (deref_no (by simp)) (deref_no (by simp)) (by simp) rfl (okQ_L (by
    intro d hd
    simp at hd
    subst hd
    exact okQ_WL (m := 5) fun x hx => sm_tl hg hx))).2
  have hn0 : gNeB S4 (.lst []) (.lst []) = some (.bl false, S4) := rfl
  obtain ⟨X, hX⟩ : ∃ X, sDP (eOp2 gIx (eVar 6) (eC (.int 0))) (eC (.str "x")) (eC .non) R6 S4 = some (.nx R6 [some T, some X, some T, some N, some N]) := ⟨_, s_DP (i := 1) (k := Sum.inr "x") (ks := (tl ws).map Sum.inr) (es := (tl ws).map fun s => .str (longE ws s)) (kd := .str "x") (v := .non) (st1 := S4) (st2 := S4) (st3 := S4) rfl (by simp [R6, zIx (atI_zero (Dt.ref 1) [.ref 2, .ref 3, .ref 4])]) rfl rfl (by simp; omega) rfl⟩
  let S5 : Sto := [some T, some X, some T, some (.dic [] []), some N]
  have hclr : eClr (eOp2 gIx (eVar 6) (eC (.int 2))) R6 [some T, some X, some T, some N, some N] = some (.non, S5) := by
    have : atI [Dt.ref 1, .ref 2, .ref 3, .ref 4] 2 = some (.ref 3) := rfl
    simp [R6, eClr, zIx this, N, tK, S5]
  have hlast : gEqB S5 (.lst [T, N]) (.lst [.ref 0, N]) = some (.bl true, S5) := (eq_same (d := .lst [T, N]) (deref_no (by simp [nT, nN])) (by
    unfold deref
    rw [if_neg (by simp [noRef])]
    simp [derefs, deref_ref (n := 5) (show S5[0]? = some (some T) from rfl) nT, deref_no nN]) (by simp [nT, nN]) rfl (okQ_L (by
    intro d hd
    simp at hd
    rcases hd with rfl | rfl
    · exact oT 5
    · exact oN 5))).1
  refine ⟨S5, ?_⟩
  refine b_rt ?_
  rw [show startD 10 [WL ws] = [some (WL ws), none, none, none, none, none, none, none, none, none] from rfl]
  unfold g__law_plain_right
  refine s_seq (s_set (d := WL (allSt ws)) (st1 := []) (by simp [run_law_states hg])) ?_
  refine s_seq (s_set (d := .str (repT (WL ws))) (st1 := []) (by simp [rep_ws hg])) ?_
  refine s_seq (r1 := [some (WL ws), some (WL (allSt ws)), some (.str (repT (WL ws))), some (.ref 0), none, none, none, none, none, none]) (st1 := [some (tK [] (longE ws))]) rfl ?_
  refine s_seq (s_for (xs := (tl ws).map Dt.str) (st1 := [some (tK [] (longE ws))]) (by simp [cut_tl hg]) hdue) ?_
  refine s_seq (r1 := R5) (st1 := S0) (s_set hfresh) ?_
  refine s_seq (r1 := R6) (st1 := S4) (s_set htold) ?_
  refine s_seq (r1 := R6) (st1 := S4) (s_ifF (t_orF (t_B (v_op (v_var rfl) (v_toV (v_small (v_cons (v_var rfl) (v_cons (v_var rfl) (v_cons (v_var rfl) (v_one (v_var rfl))))) l4)) hne)) (t_B (v_op (v_toV hisd) (v_toV (v_small v_nil (by decide))) hn0))) rfl) ?_
  refine s_seq (r1 := R6) (st1 := S4) (s_ifF (t_B (v_op (v_toV hkeys) hmul hk4)) rfl) ?_
  refine s_seq hX ?_
  refine s_seq (s_ex hclr) ?_
  refine s_ret (v_and (v_op (x := .lst [T, N]) (st1 := S5) (by simp [R6, run_true_table hg, run_new_table hg, l2, T, N]) (v_toV (v_small (v_cons (v_var rfl) (v_one (v_var rfl))) l2)) hlast) ?_)
  simp [R6, rep_ws hg]
theorem run_law_plain (hg : Good ws n) : fV F__law_plain_right [WL ws] = some (.bl true) := by
  obtain ⟨st', h⟩ := run_plain hg
  exact fV_of h (deref_no rfl)
end
end K03

set_option Elab.async false
set_option linter.all false
set_option maxRecDepth 100000
set_option maxHeartbeats 1000000
namespace K03
open PySem PySem.Spec PyProof.Rows L2 HB
section
variable {ws : List Str} {n : Nat} {tb : Str → Str}
theorem turn_items (st : Sto) : gDictP st [.lst (itemsL ((tl ws).map Sum.inr) ((tl ws).map fun s => .str (tb s))).reverse] = some (tK (tl ws).reverse tb, st) := by
  have e : (itemsL ((tl ws).map Sum.inr) ((tl ws).map fun s => Dt.str (tb s))).reverse = (tl ws).reverse.map fun s => Dt.tup [.str s, .str (tb s)] := by
    unfold itemsL
    rw [List.map_reverse]
    congr 1
    generalize tl ws = l
    induction l with
    | nil => rfl
    | cons a l ih => rw [List.map_cons, List.map_cons, List.map_cons, List.zip_cons_cons, List.map_cons, ih]; rfl
  rw [e]
  exact dictP_map (keys_rev ws).nd
theorem word_all (hg : Good ws n) {w : Str} (hw : w ∈ ws) : w ∈ allSt ws := mem_all.mpr (mem_keys.mpr ⟨w, hw, w.length, Nat.le_refl _, (pre_full (Nat.le_refl _)).symm⟩)
theorem word_tl (hg : Good ws n) {w : Str} (hw : w ∈ ws) : w ∈ tl ws := (mem_tl hg).mpr ⟨word_all hg hw, nonempty_iff.mpr (by rw [hg.len w hw]; exact hg.n1)⟩
theorem short_word (hg : Good ws n) (ht : Tab ws tb) {w : Str} (hw : w ∈ ws) : shortc ws tb w = some (tb w) := by
  have h := word_tl hg hw
  obtain ⟨a, b⟩ := ht w h
  unfold shortc
  rw [chain_cons hg ht h, List.find?_cons]
  have hb : beyond ws (tb w) w = true := by
    unfold beyond
    rw [(after_nil hg (word_all hg hw)).mpr hw]
    have : after ws (tb w) ≠ [] := fun z => by
      have := (after_nil hg a).mp z
      have := hg.len _ this
      have := hg.len w hw
      omega
    obtain ⟨x, l, e⟩ := List.exists_cons_of_ne_nil this
    rw [e]
    simp
  rw [hb]
theorem short_mem (hg : Good ws n) (ht : Tab ws tb) {s z : Str} (hs : s ∈ allSt ws) (h : shortc ws tb s = some z) : z ∈ allSt ws := (chain_mem hg ht _ s hs (Nat.le_refl _) z (List.mem_of_find?_eq_some h)).1
theorem right_body (hg : Good ws n) (ht : Tab ws tb) {s : Str} (hs : s ∈ allSt ws) (K : Option Dt) (v6 v7 : Option Dt) (st : Sto) : ∃ w6 w7 st',
    b1__law_right [some (WL ws), some (tK (tl ws) tb), K, some (tK (tl ws).reverse tb), some (WL (allSt ws)), some (.str s), v6, v7, none] st =
      some (.nx [some (WL ws), some (tK (tl ws) tb), K, some (tK (tl ws).reverse tb), some (WL (allSt ws)), some (.str s), w6, w7, none] st') := by
  have hfi := fine_chain hg ht hs
  have hz := line_ge
  let C := WL (chain tb s)
  let S2 : Sto := st ++ [some C, some C]
  let R7 : Evr := [some (WL ws), some (tK (tl ws) tb), K, some (tK (tl ws).reverse tb), some (WL (allSt ws)), some (.str s), some C, some (.lst [.ref st.length, .ref (st.length + 1)]), none]
  have nC : noRef C = true := noRef_lstS _
  have g0 : S2[st.length]? = some (some C) := by simp [S2]
  have g1 : S2[st.length + 1]? = some (some C) := by simp [S2]
  have rc : RB 2 7000 (.lst [C, C]) := (rb_L (m := 2) (fun d hd => by
    simp at hd
    subst hd
    exact rb_WL hfi) (by simp)).mono (by omega) (by omega)
  have l2 : 2 ≤ sizeLine := by omega
  have e1 := v_rep (deref2 g0 g1 nC nC) rc (by omega) (by omega)
  have e2 := v_rep (st := S2) (deref_no (n := 8) (d := .lst [C, C]) (by simp [nC])) rc (by omega) (by omega)
  have e3 : ∀ st : Sto, gRep st [C] = some (.str (repT C), st) := fun st => v_rep (deref_no nC) (rb_WL hfi) (by omega) (by omega)
  have h1 : toV (small (aCons (eN (gF 3 (liftR (fR F_chain))) (aCons (eVar 0) (aCons (eVar 1) (aCons (eVar 5) aNil)))) (aCons (eN (gFk 3 [2, 1, 0] (liftR (fR F_chain))) (aCons (eVar 5) (aCons (eVar 3) (aCons (eVar 0) aNil)))) aNil)))
      [some (WL ws), some (tK (tl ws) tb), K, some (tK (tl ws).reverse tb), some (WL (allSt ws)), some (.str s), some C, v7, none] st = some (.lst [.ref st.length, .ref (st.length + 1)], S2) := by
    simp [gFk, run_chainR hg (keys_tl ws) ht hs, run_chainR hg (keys_rev ws) ht hs, l2, List.range_succ, List.idxOf, List.findIdx, List.findIdx.go, S2, C]
  refine ⟨some C, some (.lst [.ref st.length, .ref (st.length + 1)]), S2.set st.length (some (.lst ((chain tb s).map Dt.str ++ [.non]))), ?_⟩
  unfold b1__law_right
  refine s_seq (s_set (d := C) (st1 := st) (by simp [run_law_chain hg (keys_tl ws) ht hs, C])) ?_
  refine s_seq (r1 := R7) (st1 := S2) (s_set h1) ?_
  refine s_seq (r1 := R7) (st1 := S2) (s_ifF (t_B (v_op (v_N (v_one (v_var rfl)) e1) (v_N (v_one (v_toV (v_small (v_cons (v_var rfl) (v_one (v_var rfl))) l2))) e2) (by simp))) rfl) ?_
  refine s_seq (r1 := R7) (st1 := S2.set st.length (some (.lst ((chain tb s).map Dt.str ++ [.non])))) (s_ex (v_app (v_op (v_var rfl) rfl (zIx (atI_zero _ _))) g0 (by have := hfi.few; rw [List.length_map]; omega))) ?_
  refine s_ifF (t_B (a := false) (st1 := S2.set st.length (some (.lst ((chain tb s).map Dt.str ++ [.non])))) (by simp [R7, run_chain hg (keys_tl ws) ht hs, e3, C])) rfl
theorem right_loop (hg : Good ws n) (ht : Tab ws tb) (K : Option Dt) : ∀ (l : List Str), (∀ s ∈ l, s ∈ allSt ws) → ∀ (v5 v6 v7 : Option Dt) (st : Sto), ∃ w5 w6 w7 st',
    sForGo (kName 5) b1__law_right (l.map Dt.str) [some (WL ws), some (tK (tl ws) tb), K, some (tK (tl ws).reverse tb), some (WL (allSt ws)), v5, v6, v7, none] st =
      some (.nx [some (WL ws), some (tK (tl ws) tb), K, some (tK (tl ws).reverse tb), some (WL (allSt ws)), w5, w6, w7, none] st')
  | [], _, v5, v6, v7, st => ⟨v5, v6, v7, st, rfl⟩
  | s :: l, h, v5, v6, v7, st => by
    obtain ⟨w6, w7, st1, h1⟩ := right_body hg ht (h s (by simp)) K v6 v7 st
    obtain ⟨u5, u6, u7, st2, h2⟩ := right_loop hg ht K l (fun x hx => h x (by simp [hx])) (some (.str s)) w6 w7 st1
    exact ⟨u5, u6, u7, st2, by rw [List.map_cons]; exact for_cons rfl h1 h2⟩
theorem run_right (hg : Good ws n) (ht : Tab ws tb) : ∃ st', F__law_right [WL ws, tK (tl ws) tb] [] = some (.bl true, st') := by
  have hz := line_ge
  have hf := tl_few hg
  have l2 : 2 ≤ sizeLine := by omega
  have l1 : 1 ≤ sizeLine := by omega
  have lt : (tl ws).length ≤ sizeLine := by omega
  let A := tK (tl ws) tb
  have nA : noRef A = true := nr_tK
  have rb : RB 2 13000 (.lst [WL ws, A]) := (rb_L (m := 2) (e := 1) (k := 6000) (fun d hd => by
    simp at hd
    rcases hd with rfl | rfl
    · exact (rb_WL (fine_ws hg)).mono (by omega) (by omega)
    · exact rb_tK (fun s hs => sm_tl hg hs) (fun s hs => sm_tab hg ht hs) hf) (by simp)).mono (by omega) (by omega)
  have e1 : ∀ st : Sto, gRep st [.lst [WL ws, A]] = some (.str (repT (.lst [WL ws, A])), st) := fun st => v_rep (deref_no (by simp [nA])) rb (by omega) (by omega)
  let Kp := some (Dt.str (repT (.lst [WL ws, A])))
  obtain ⟨w5, w6, w7, st, hloop⟩ := right_loop hg ht Kp (allSt ws) (fun s hs => hs) none none none []
  let O := oK (tl ws) (shortc ws tb)
  have nO : noRef O = true := nr_oK
  have oO : ∀ m, okQ (m + 2) O := fun m => okQ_oK (tl_nodup ws) fun s hs z hz => sm_all hg (short_mem hg ht ((mem_tl hg).mp hs).1 hz)
  let S2 : Sto := st ++ [some O, some O]
  have g0 : S2[st.length]? = some (some O) := by simp [S2]
  have g1 : S2[st.length + 1]? = some (some O) := by simp [S2]
  let R6 : Evr := [some (WL ws), some A, Kp, some (tK (tl ws).reverse tb), some (WL (allSt ws)), w5, some O, w7, none]
  let R7 : Evr := [some (WL ws), some A, Kp, some (tK (tl ws).reverse tb), some (WL (allSt ws)), w5, some O, some (.lst [.ref st.length, .ref (st.length + 1)]), none]
  have hdue : eN gDictP (aCons (toV (lc (iE itL (eSl (eVar 4) (oE (eC (.int 1))) oNo)) [5] (kName 5) cYes e2__law_right)) aNil) [some (WL ws), some A, Kp, some (tK (tl ws).reverse tb), some (WL (allSt ws)), w5, w6, w7, none] st = some (O, st) := by
    have e : lcGo (kName 5) cYes e2__law_right [some (WL ws), some A, Kp, some (tK (tl ws).reverse tb), some (WL (allSt ws)), none, w6, w7, none] ((tl ws).map Dt.str) st = some ((tl ws).map fun s => .tup [.str s, oS (shortc ws tb s)], st) :=
      lcGo_map _ _ _ fun s hs => ⟨_, rfl, by simp [e2__law_right, l2, A, run_law_shortcut hg (keys_tl ws) ht ((mem_tl hg).mp hs).1]⟩
    have e2 := dictP_map (f := fun s => oS (shortc ws tb s)) (st := st) (tl_nodup ws)
    simp [cut_tl hg]
    rw [e]
    simp [lt, e2, O, oK]
  have htold : toV (small (aCons (eN (gF 2 (liftR (fR F_shortcuts))) (aCons (eVar 0) (aCons (eVar 1) aNil))) (aCons (eN (gFk 2 [1, 0] (liftR (fR F_shortcuts))) (aCons (eVar 3) (aCons (eVar 0) aNil))) aNil))) R6 st = some (.lst [.ref st.length, .ref (st.length + 1)], S2) := by
    simp [R6, gFk, A, run_shortcutsR hg (keys_tl ws) ht, run_shortcutsR hg (keys_rev ws) ht, l2, List.range_succ, List.idxOf, List.findIdx, List.findIdx.go, S2, O]
  have hne := (eq_same (deref2 g0 g1 nO nO) (deref_no (n := 8) (st := S2) (d := .lst [O, O]) (by simp [nO])) (by simp [nO]) rfl (okQ_L (by
    intro d hd
    simp at hd
    subst hd
    exact oO 5))).2
  have ix0 : ∀ st' : Sto, gIx st' (.lst [.ref st.length, .ref (st.length + 1)]) (.int 0) = some (.ref st.length, st') := fun st' => zIx (atI_zero _ _)
  have ix1 : ∀ st' : Sto, gIx st' (.lst [.ref st.length, .ref (st.length + 1)]) (.int 1) = some (.ref (st.length + 1), st') := fun st' => zIx rfl
  have hw : lc (iE itL (eVar 0)) [8] (kName 8) c3__law_right e3__law_right R7 S2 = some ([], S2) := by
    have := lc_pure (r := R7) (st := S2) (st1 := S2) (fi := iE itL (eVar 0)) (own := [8]) (kt := kName 8) (c := c3__law_right) (f := e3__law_right) Dt.str (fun _ => false) Dt.str ws (v_iE (v_var rfl) rfl) (fun w hw => ⟨_, rfl, by
      have k1 : gIx S2 (.ref st.length) (.str w) = some (.str (tb w), S2) := by
        have this : pGet (Sum.inr w) ((tl ws).map (Sum.inr : Str → Key)) ((tl ws).map fun s => oS (shortc ws tb s)) = some (.str (tb w)) := by
          rw [pGet_map (f := fun s => oS (shortc ws tb s)) (word_tl hg hw), short_word hg ht hw]
          rfl
        have g0' : S2[st.length]? = some (some (.dic ((tl ws).map Sum.inr) ((tl ws).map fun s => oS (shortc ws tb s)))) := g0
        simp [gIx, asL, asD, g0', this]
      simp [R7, c3__law_right, ix0, k1, A, ix_tK (word_tl hg hw)], fun z => by simp at z⟩) (by have := hg.l5; omega)
    have e : ws.filter (fun _ => false) = [] := List.filter_eq_nil_iff.mpr (by simp)
    rw [e] at this
    exact this
  have hn0 : gNeB S2 (.lst []) (.lst []) = some (.bl false, S2) := rfl
  have hkeys : toV (small (aCons (eN gListD (aCons (eOp2 gIx (eVar 7) (eC (.int 0))) aNil)) (aCons (eN gListD (aCons (eOp2 gIx (eVar 7) (eC (.int 1))) aNil)) aNil))) R7 S2 = some (.lst [WL (tl ws), WL (tl ws)], S2) := by
    have i1 := lstD_ref (st := S2) (k := st.length) (ks := tl ws) (ds := (tl ws).map fun s => oS (shortc ws tb s)) g0
    have i2 := lstD_ref (st := S2) (k := st.length + 1) (ks := tl ws) (ds := (tl ws).map fun s => oS (shortc ws tb s)) g1
    simp [R7, ix0, ix1, i1, i2, l2]
  have hmul : eOp2 gMulA (toV (small (aCons (eSl (eVar 4) (oE (eC (.int 1))) oNo) aNil))) (eC (.int 2)) R7 S2 = some (.lst [WL (tl ws), WL (tl ws)], S2) := by
    simp [R7, cut_tl hg, l1, gMulA, asL, l2, List.replicate]
  have hk2 : gNeB S2 (.lst [WL (tl ws), WL (tl ws)]) (.lst [WL (tl ws), WL (tl ws)]) = some (.bl false, S2) := (eq_same (deref_no (by simp)) (deref_no (by simp)) (by simp) rfl (okQ_L (by
    intro d hd
    simp at hd
    subst hd
    exact okQ_WL (m := 5) fun x hx => sm_tl hg hx))).2
  let S3 : Sto := S2.set st.length (some (.dic [] []))
  have hclr : eClr (eOp2 gIx (eVar 7) (eC (.int 0))) R7 S2 = some (.non, S3) := by
    have g0' : S2[st.length]? = some (some (.dic ((tl ws).map Sum.inr) ((tl ws).map fun s => oS (shortc ws tb s)))) := g0
    simp [R7, eClr, ix0, g0', S3]
  have hlast : gEqB S3 O O = some (.bl true, S3) := (eq_same (deref_no nO) (deref_no nO) nO rfl (oO 6)).1
  refine ⟨S3, b_rt ?_⟩
  rw [show startD 9 [WL ws, tK (tl ws) tb] = [some (WL ws), some A, none, none, none, none, none, none, none] from rfl]
  unfold g__law_right
  refine s_seq (s_set (d := .str (repT (.lst [WL ws, A]))) (st1 := []) (by simp [e1, l2])) ?_
  refine s_seq (s_set (d := tK (tl ws).reverse tb) (st1 := []) ?_) ?_
  · have := turn_items (ws := ws) (tb := tb) []
    simp [A, tK] at this ⊢
    exact this
  refine s_seq (s_set (d := WL (allSt ws)) (st1 := []) (by simp [run_law_states hg])) ?_
  refine s_seq (s_for (xs := (allSt ws).map Dt.str) (st1 := []) (by simp) hloop) ?_
  refine s_seq (r1 := R6) (st1 := st) (s_set hdue) ?_
  refine s_seq (r1 := R7) (st1 := S2) (s_set htold) ?_
  refine s_seq (r1 := R7) (st1 := S2) (s_ifF (t_orF (t_B (v_op (v_var rfl) (v_toV (v_small (v_cons (v_var rfl) (v_one (v_var rfl))) l2)) hne)) (t_B (v_op (v_toV hw) (v_toV (v_small v_nil (by decide))) hn0))) rfl) ?_
  refine s_seq (r1 := R7) (st1 := S2) (s_ifF (t_B (v_op hkeys hmul hk2)) rfl) ?_
  refine s_seq (s_ex hclr) ?_
  refine s_ret (v_and (v_op (x := O) (st1 := S3) (by simp [R7, A, run_shortcuts hg (keys_tl ws) ht, O]) (v_var rfl) hlast) ?_)
  simp [R7, e1, l2, Kp]
theorem run_law_right (hg : Good ws n) (ht : Tab ws tb) : fV F__law_right [WL ws, tK (tl ws) tb] = some (.bl true) := by
  obtain ⟨st', h⟩ := run_right hg ht
  exact fV_of h (deref_no rfl)
end
end K03

set_option Elab.async false
set_option linter.all false
set_option maxRecDepth 100000
set_option maxHeartbeats 1000000
namespace K03
open PySem PySem.Spec PyProof.Rows L2 HB
theorem wordsOf_k (sg : Str) (lg : Nat) : ∀ (m : Nat) (l : List Str) (x : Drw), (wordsOf sg lg m l x).2.k = x.k + m * lg
  | 0, l, x => by show x.k = _; omega
  | m + 1, l, x => by
    show (wordsOf sg lg m _ (wordOf sg lg x).2).2.k = _
    rw [wordsOf_k sg lg m, word_k, Nat.succ_mul]
    omega
theorem lawWords_k (x : Drw) : (lawWords 7 x).2.k ≤ x.k + 38 := by
  unfold lawWords
  simp only []
  have k1 := next_k x
  have k2 := next_k (nextN x).2
  have k3 := next_k (nextN (nextN x).2).2
  generalize (nextN x) = y1 at k1 k2 k3
  generalize (nextN y1.2) = y2 at k2 k3
  generalize (nextN y2.2) = y3 at k3
  have b2 := Int.emod_lt_of_pos y2.1 (show (0 : Int) < 7 by decide)
  have b3 := Int.emod_lt_of_pos y3.1 (show (0 : Int) < 5 by decide)
  have hl7 : (1 + y2.1 % 7).toNat ≤ 7 := by omega
  have hm5 : (1 + y3.1 % 5).toNat ≤ 5 := by omega
  rw [wordsOf_k]
  have := Nat.mul_le_mul hm5 hl7
  omega
theorem draws_lc {r0 r1 r2 r3 : Option Dt} : ∀ (cs done : List Int), lcGo (kName 4) cYes fd_law [r0, r1, r2, r3, none] (cs.map Dt.int) (dst done) = some ((List.range' done.length cs.length).map Dt.ref, dst (done ++ cs))
  | [], done => by rw [List.append_nil]; rfl
  | c :: cs, done => by
    have ih := draws_lc (r0 := r0) (r1 := r1) (r2 := r2) (r3 := r3) cs (done ++ [c])
    rw [List.length_append, List.append_assoc] at ih
    rw [List.map_cons, List.length_cons, List.range'_succ, List.map_cons]
    have e : fd_law [r0, r1, r2, r3, some (.int c)] (dst done) = some (.ref (dst done).length, dst done ++ [some (drw0 c).dt]) := v_N (v_one (v_var rfl)) (v_gF rfl (v_R (m := fR F__law_draws) (d := (drw0 c).dt) rfl (run_draws c)))
    have e2 : dst done ++ [some (drw0 c).dt] = dst (done ++ [c]) := by simp [dst]
    rw [e2, List.length_map] at e
    exact lcGo_cons rfl rfl e ih
theorem body_law {r0 r2 v3 : Option Dt} {i : Nat} {st : Sto} {x : Drw} (hx : x.k = 0) (hi : st[i]? = some (some x.dt)) : ∃ v3' st', gb_law [r0, some (.ref i), r2, v3, none] st = some (.nx [r0, some (.ref i), r2, v3', none] st') ∧ ∀ j, j ≠ i → st'[j]? = st[j]? := by
  obtain ⟨n, hg⟩ := good_of (good_law x)
  have hk := lawWords_k x
  generalize hw : (lawWords 7 x).1 = ws at hg
  generalize hx1 : (lawWords 7 x).2 = x1 at hk
  obtain ⟨tb, x2, t1, t2, t3⟩ := run_law_table hg x1 (by omega)
  obtain ⟨tb', x3, t1', t2', t3'⟩ := run_law_table hg x2 (by omega)
  have hlt : i < st.length := (List.getElem?_eq_some_iff.mp hi).1
  have hwd : fE F__law_words x.dt [.int 7] = some (WL ws, x1.dt) := by rw [← hw, ← hx1]; exact run_law_words x hx
  let R3 : Evr := [r0, some (.ref i), r2, some (WL ws), none]
  refine ⟨some (WL ws), ((st.set i (some x1.dt)).set i (some x2.dt)).set i (some x3.dt), ?_, fun j hj => by rw [List.getElem?_set_ne (fun z => hj z.symm), List.getElem?_set_ne (fun z => hj z.symm), List.getElem?_set_ne (fun z => hj z.symm)]⟩
  unfold gb_law
  have nr2 : noRefs [WL ws] = true := nr1 ws
  refine s_seq (r1 := R3) (st1 := st.set i (some x1.dt)) (s_set (v_N (v_cons (v_var rfl) (v_one rfl)) (v_gF rfl (v_Ee (ds := [.int 7]) (c := x.dt) rfl hi rfl hwd)))) ?_
  refine s_seq (r1 := R3) (st1 := st.set i (some x1.dt)) (s_ifF (t_orF (st1 := st.set i (some x1.dt)) (by simp [R3, run_law_plain hg]) (by simp [R3, run_true_table hg, run_law_right hg (tab_true hg)])) rfl) ?_
  have a1 : eN (gF 2 (liftE (fE F__law_table))) (aCons (eVar 1) (aCons (eVar 3) aNil)) R3 (st.set i (some x1.dt)) = some (tK (tl ws) tb, (st.set i (some x1.dt)).set i (some x2.dt)) := v_N (v_cons (v_var rfl) (v_one (v_var rfl))) (v_gF rfl (v_Ee (ds := [WL ws]) (c := x1.dt) nr2 (by rw [List.getElem?_set_self hlt]) rfl t1))
  have a2 : eN (gF 2 (liftE (fE F__law_table))) (aCons (eVar 1) (aCons (eVar 3) aNil)) R3 ((st.set i (some x1.dt)).set i (some x2.dt)) = some (tK (tl ws) tb', ((st.set i (some x1.dt)).set i (some x2.dt)).set i (some x3.dt)) := v_N (v_cons (v_var rfl) (v_one (v_var rfl))) (v_gF rfl (v_Ee (ds := [WL ws]) (c := x2.dt) nr2 (by rw [List.getElem?_set_self (by rw [List.length_set]; exact hlt)]) rfl t1'))
  refine s_ifF (t_orF (t_nT (t_B (v_N (v_cons (v_var rfl) (v_one a1)) (v_gF rfl (v_V (d := .bl true) (by simp) (run_law_right hg t2)))))) (t_nT (t_B (v_N (v_cons (v_var rfl) (v_one a2)) (v_gF rfl (v_V (d := .bl true) (by simp) (run_law_right hg t2')))))) ) rfl
theorem loop_law {r0 r2 : Option Dt} : ∀ (k i : Nat) (st : Sto) (y z : Option Dt), (∀ j, i ≤ j → j < i + k → ∃ x : Drw, x.k = 0 ∧ st[j]? = some (some x.dt)) → ∃ y' z' st', sForGo (kName 1) gb_law ((List.range' i k).map Dt.ref) [r0, y, r2, z, none] st = some (.nx [r0, y', r2, z', none] st')
  | 0, i, st, y, z, _ => ⟨y, z, st, rfl⟩
  | k + 1, i, st, y, z, h => by
    obtain ⟨x, hx, hi⟩ := h i (Nat.le_refl _) (by omega)
    obtain ⟨z1, st1, e1, e2⟩ := body_law (r0 := r0) (r2 := r2) (v3 := z) hx hi
    obtain ⟨y', z', st', e3⟩ := loop_law (r0 := r0) (r2 := r2) k (i + 1) st1 (some (.ref i)) z1 fun j h1 h2 => by
      obtain ⟨w, hw, hj⟩ := h j (by omega) (by omega)
      exact ⟨w, hw, by rw [e2 j (by omega)]; exact hj⟩
    refine ⟨y', z', st', ?_⟩
    rw [List.range'_succ, List.map_cons]
    exact for_cons (r1 := [r0, some (.ref i), r2, z, none]) rfl e1 e3
theorem g_aab : goodW ["aab", "aba"] = true := by decide +kernel
theorem a_aab : allSt ["aab", "aba"] = (["", "a", "aa", "ab", "aab", "aba"] : List Str) := all_by (ks := ["", "a", "aa", "aab", "ab", "aba"]) (by decide +kernel) (.cons _ (.cons _ (.cons _ (.swap _ _ _)))) (by decide +kernel) (by decide +kernel)
def shortA (A : List Str) (s : Str) : Option Str :=
  (chain (fun s => (A.filter fun o => decide (o.length < s.length) && Txt.endswith s o).getLastD "") s).find? fun o => ((A.filter fun (o' : Str) => decide (o' ≠ ("" : Str)) && decide (pre o' (o'.length - 1) = o)).map lastS).any fun l => !decide (l ∈ (A.filter fun (o' : Str) => decide (o' ≠ ("" : Str)) && decide (pre o' (o'.length - 1) = s)).map lastS)
theorem gr_ok (r0 r1 r3 : Option Dt) (r2 : Option Dt) (st : Sto) : gr_law [r0, r1, r2, r3, none] st = some (.rt (.bl true) st) := by
  obtain ⟨n, hg⟩ := good_of g_aab
  have l2 : 2 ≤ sizeLine := by have := line_ge; omega
  have e : oK (tl ["aab", "aba"]) (shortc ["aab", "aba"] (longE ["aab", "aba"])) = .dic [Sum.inr "a", Sum.inr "aa", Sum.inr "ab", Sum.inr "aab", Sum.inr "aba"] [.non, .str "a", .non, .str "ab", .str "a"] := by
    have e1 : shortc ["aab", "aba"] (longE ["aab", "aba"]) = shortA (allSt ["aab", "aba"]) := rfl
    have e2 : tl ["aab", "aba"] = (["a", "aa", "ab", "aab", "aba"] : List Str) := by unfold tl; rw [a_aab]; rfl
    rw [e1, e2, a_aab]
    have f1 : shortA ["", "a", "aa", "ab", "aab", "aba"] "a" = none := by decide +kernel
    have f2 : shortA ["", "a", "aa", "ab", "aab", "aba"] "aa" = some "a" := by decide +kernel
    have f3 : shortA ["", "a", "aa", "ab", "aab", "aba"] "ab" = none := by decide +kernel
    have f4 : shortA ["", "a", "aa", "ab", "aab", "aba"] "aab" = some "ab" := by decide +kernel
    have f5 : shortA ["", "a", "aa", "ab", "aab", "aba"] "aba" = some "a" := by decide +kernel
    unfold oK
    simp [f1, f2, f3, f4, f5, oS]
  have hS := run_shortcuts hg (keys_tl ["aab", "aba"]) (tab_true hg)
  have hT := run_true_table hg
  have hd : dToV (eDisp [((eC (.str "a")), (eC .non)), ((eC (.str "aa")), (eC (.str "a"))), ((eC (.str "ab")), (eC .non)), ((eC (.str "aab")), (eC (.str "ab"))), ((eC (.str "aba")), (eC (.str "a")))]) [r0, r1, r2, r3, none] st = some (.dic [Sum.inr "a", Sum.inr "aa", Sum.inr "ab", Sum.inr "aab", Sum.inr "aba"] [.non, .str "a", .non, .str "ab", .str "a"], st) := by
    have : pMrg [] [] ([(Sum.inr "a" : Key), Sum.inr "aa", Sum.inr "ab", Sum.inr "aab", Sum.inr "aba"].zip [Dt.non, .str "a", .non, .str "ab", .str "a"]) = (([Sum.inr "a", Sum.inr "aa", Sum.inr "ab", Sum.inr "aab", Sum.inr "aba"] : List Key), ([.non, .str "a", .non, .str "ab", .str "a"] : List Dt)) := by
      have := mrg_map (f := fun s => if s = ("a" : Str) then Dt.non else if s = ("aa" : Str) then .str "a" else if s = ("ab" : Str) then .non else if s = ("aab" : Str) then .str "ab" else .str "a") ["a", "aa", "ab", "aab", "aba"] [] (by decide +kernel)
      have q1 : ¬ (("aa" : Str) = "a") := by decide +kernel
      have q2 : ¬ (("ab" : Str) = "a") := by decide +kernel
      have q3 : ¬ (("ab" : Str) = "aa") := by decide +kernel
      have q4 : ¬ (("aab" : Str) = "a") := by decide +kernel
      have q5 : ¬ (("aab" : Str) = "aa") := by decide +kernel
      have q6 : ¬ (("aab" : Str) = "ab") := by decide +kernel
      have q7 : ¬ (("aba" : Str) = "a") := by decide +kernel
      have q8 : ¬ (("aba" : Str) = "aa") := by decide +kernel
      have q9 : ¬ (("aba" : Str) = "ab") := by decide +kernel
      have q10 : ¬ (("aba" : Str) = "aab") := by decide +kernel
      simpa [q1, q2, q3, q4, q5, q6, q7, q8, q9, q10] using this
    show ((eDisp _ _ st).bind _) = _
    show (((if ([(Sum.inr "a" : Key), Sum.inr "aa", Sum.inr "ab", Sum.inr "aab", Sum.inr "aba"]).length ≤ 15 then some (pMrg [] [] ([(Sum.inr "a" : Key), Sum.inr "aa", Sum.inr "ab", Sum.inr "aab", Sum.inr "aba"].zip [Dt.non, .str "a", .non, .str "ab", .str "a"]), st) else none) : Option ((List Key × List Dt) × Sto)).bind fun z => some (Dt.dic z.1.1 z.1.2, z.2)) = _
    rw [if_pos (by decide), this]
    rfl
  have hq : gEqB st (oK (tl ["aab", "aba"]) (shortc ["aab", "aba"] (longE ["aab", "aba"]))) (oK (tl ["aab", "aba"]) (shortc ["aab", "aba"] (longE ["aab", "aba"]))) = some (.bl true, st) :=
    (eq_same (deref_no nr_oK) (deref_no nr_oK) nr_oK rfl (okQ_oK (m := 6) (tl_nodup _) fun s hs z hz => sm_all hg (short_mem hg (tab_true hg) ((mem_tl hg).mp hs).1 hz))).1
  unfold gr_law
  refine s_seq (s_set hd) (s_ret ?_)
  rw [← e]
  have hW : toV (small (aCons (eC (.str "aab")) (aCons (eC (.str "aba")) aNil))) [r0, r1, some (oK (tl ["aab", "aba"]) (shortc ["aab", "aba"] (longE ["aab", "aba"]))), r3, none] st = some (WL ["aab", "aba"], st) := v_toV (v_small (v_cons rfl (v_one rfl)) l2)
  refine v_op (v_N (v_cons hW (v_one (v_N (v_one hW) (v_gF rfl (v_V (d := tK (tl ["aab", "aba"]) (longE ["aab", "aba"])) (nr1 _) hT))))) (v_gF rfl (v_V (by simp) hS))) (v_var rfl) hq
theorem law_ok (ns : List Int) : ∃ st', gLaw 1 4 6 fz_law fd_law gb_law gr_law ns (List.replicate 5 none) [] = some (.rt (.bl true) st') := by
  let cs : List Int := ns.take 6 ++ [0]
  have hl : cs.length ≤ 7 := by show (ns.take 6 ++ [0]).length ≤ 7; simp; omega
  have hz := line_ge
  rw [show List.replicate 5 (none : Option Dt) = [none, none, none, none, none] from rfl]
  have e1 : eOp2 gAdd (eScr 6 ns) fz_law [none, none, none, none, none] [] = some (.lst (cs.map Dt.int), []) := by
    have c : cutL (ns.map Dt.int) none (some 6) = (ns.take 6).map Dt.int := cutL_map Dt.int ns 6
    refine v_op (x := .lst ((ns.take 6).map Dt.int)) (st1 := []) (by unfold eScr; rw [c]) (y := .lst [.int 0]) (st2 := []) rfl ?_
    show (if ((ns.take 6).map Dt.int).length + [Dt.int 0].length ≤ sizeLine then some (Dt.lst ((ns.take 6).map Dt.int ++ [Dt.int 0]), ([] : Sto)) else none) = _
    rw [if_pos (by rw [List.length_map, List.length_take]; show _ + 1 ≤ _; omega)]
    show _ = some (Dt.lst ((ns.take 6 ++ [0]).map Dt.int), [])
    rw [List.map_append]
    rfl
  have e2 : lc (iE itL (eOp2 gAdd (eScr 6 ns) fz_law)) [4] (kName 4) cYes fd_law [none, none, none, none, none] [] = some ((List.range' 0 cs.length).map Dt.ref, dst cs) := by
    unfold lc
    rw [v_iE e1 (xs := cs.map Dt.int) rfl]
    have d := draws_lc (r0 := none) (r1 := none) (r2 := none) (r3 := none) cs []
    show ((lcGo (kName 4) cYes fd_law [none, none, none, none, none] (cs.map Dt.int) (dst [])).bind fun z => if z.1.length ≤ sizeLine then some z else none) = _
    rw [d]
    refine if_pos ?_
    rw [List.length_map, List.length_range']
    omega
  obtain ⟨y', z', st', e3⟩ := loop_law (r0 := none) (r2 := none) cs.length 0 (dst cs) none none fun j _ h2 => by
    have hj : j < cs.length := by omega
    refine ⟨drw0 cs[j], rfl, ?_⟩
    rw [List.getElem?_map, List.getElem?_eq_getElem hj]
    rfl
  refine ⟨st', ?_⟩
  unfold gLaw
  exact s_seq (s_for (v_iE (v_toV e2) rfl) e3) (gr_ok _ _ _ _ _)
end K03

set_option Elab.async false
set_option linter.all false
set_option maxRecDepth 100000
set_option maxHeartbeats 0
/-! printed by ph.py: the head's facts by names, the defs joined. -/
namespace K03
open PySem PySem.Spec PyProof.Rows L2 HB
def d_is_letter : He.DefD := ⟨("is_letter", none), "is_letter", "is_letter", defArgs s_is_letter, defBody s_is_letter, defScope s_is_letter, [], []⟩
def d_check_words : He.DefD := ⟨("check_words", none), "check_words", "check_words", defArgs s_check_words, defBody s_check_words, defScope s_check_words, [], []⟩
def d_all_states : He.DefD := ⟨("all_states", none), "all_states", "all_states", defArgs s_all_states, defBody s_all_states, defScope s_all_states, [], []⟩
def d_letters_behind : He.DefD := ⟨("letters_behind", none), "letters_behind", "letters_behind", defArgs s_letters_behind, defBody s_letters_behind, defScope s_letters_behind, [], []⟩
def d_check_state : He.DefD := ⟨("check_state", none), "check_state", "check_state", defArgs s_check_state, defBody s_check_state, defScope s_check_state, [], []⟩
def d_ends_in : He.DefD := ⟨("ends_in", none), "ends_in", "ends_in", defArgs s_ends_in, defBody s_ends_in, defScope s_ends_in, [], []⟩
def d_check_table : He.DefD := ⟨("check_table", none), "check_table", "check_table", defArgs s_check_table, defBody s_check_table, defScope s_check_table, [], []⟩
def d_check_search : He.DefD := ⟨("check_search", none), "check_search", "check_search", defArgs s_check_search, defBody s_check_search, defScope s_check_search, [], []⟩
def d_goes_beyond : He.DefD := ⟨("goes_beyond", none), "goes_beyond", "goes_beyond", defArgs s_goes_beyond, defBody s_goes_beyond, defScope s_goes_beyond, [], []⟩
def d_chain_in : He.DefD := ⟨("chain_in", none), "chain_in", "chain_in", defArgs s_chain_in, defBody s_chain_in, defScope s_chain_in, [], []⟩
def d_shortcut_in : He.DefD := ⟨("shortcut_in", none), "shortcut_in", "shortcut_in", defArgs s_shortcut_in, defBody s_shortcut_in, defScope s_shortcut_in, [], []⟩
def d_shortcuts_in : He.DefD := ⟨("shortcuts_in", none), "shortcuts_in", "shortcuts_in", defArgs s_shortcuts_in, defBody s_shortcuts_in, defScope s_shortcuts_in, [], []⟩
def d_true_in : He.DefD := ⟨("true_in", none), "true_in", "true_in", defArgs s_true_in, defBody s_true_in, defScope s_true_in, [], []⟩
def d_true_table : He.DefD := ⟨("true_table", none), "true_table", "true_table", defArgs s_true_table, defBody s_true_table, defScope s_true_table, [], []⟩
def d_new_table : He.DefD := ⟨("new_table", none), "new_table", "new_table", defArgs s_new_table, defBody s_new_table, defScope s_new_table, [], []⟩
def d_chain : He.DefD := ⟨("chain", none), "chain", "chain", defArgs s_chain, defBody s_chain, defScope s_chain, [], []⟩
def d_shortcuts : He.DefD := ⟨("shortcuts", none), "shortcuts", "shortcuts", defArgs s_shortcuts, defBody s_shortcuts, defScope s_shortcuts, [], []⟩
def d__law_draws : He.DefD := ⟨("_law_draws", none), "_law_draws", "_law_draws", defArgs s__law_draws, defBody s__law_draws, defScope s__law_draws, [], []⟩
def d__law_next : He.DefD := ⟨("_law_next", none), "_law_next", "_law_next", defArgs s__law_next, defBody s__law_next, defScope s__law_next, [], []⟩
def d__law_words : He.DefD := ⟨("_law_words", none), "_law_words", "_law_words", defArgs s__law_words, defBody s__law_words, defScope s__law_words, [], []⟩
def d__law_states : He.DefD := ⟨("_law_states", none), "_law_states", "_law_states", defArgs s__law_states, defBody s__law_states, defScope s__law_states, [], []⟩
def d__law_behind : He.DefD := ⟨("_law_behind", none), "_law_behind", "_law_behind", defArgs s__law_behind, defBody s__law_behind, defScope s__law_behind, [], []⟩
def d__law_table : He.DefD := ⟨("_law_table", none), "_law_table", "_law_table", defArgs s__law_table, defBody s__law_table, defScope s__law_table, [], []⟩
def d__law_chain : He.DefD := ⟨("_law_chain", none), "_law_chain", "_law_chain", defArgs s__law_chain, defBody s__law_chain, defScope s__law_chain, [], []⟩
def d__law_shortcut : He.DefD := ⟨("_law_shortcut", none), "_law_shortcut", "_law_shortcut", defArgs s__law_shortcut, defBody s__law_shortcut, defScope s__law_shortcut, [], []⟩
def d__law_plain_right : He.DefD := ⟨("_law_plain_right", none), "_law_plain_right", "_law_plain_right", defArgs s__law_plain_right, defBody s__law_plain_right, defScope s__law_plain_right, [], []⟩
def d__law_right : He.DefD := ⟨("_law_right", none), "_law_right", "_law_right", defArgs s__law_right, defBody s__law_right, defScope s__law_right, [], []⟩
def d_law : He.DefD := ⟨("law", none), "law", "law", defArgs s_law, defBody s_law, defScope s_law, [], []⟩
def fns : List He.DefD := [d_is_letter, d_check_words, d_all_states, d_letters_behind, d_check_state, d_ends_in, d_check_table, d_check_search, d_goes_beyond, d_chain_in, d_shortcut_in, d_shortcuts_in, d_true_in, d_true_table, d_new_table, d_chain, d_shortcuts, d__law_draws, d__law_next, d__law_words, d__law_states, d__law_behind, d__law_table, d__law_chain, d__law_shortcut, d__law_plain_right, d__law_right, d_law]
def fas : List He.Fa := [.glo "is_letter", .glo "check_words", .glo "all_states", .glo "letters_behind", .glo "check_state", .glo "ends_in", .glo "check_table", .glo "check_search", .glo "goes_beyond", .glo "chain_in", .glo "shortcut_in", .glo "shortcuts_in", .glo "true_in", .glo "true_table", .glo "new_table", .glo "chain", .glo "shortcuts", .glo "_law_draws", .glo "_law_next", .glo "_law_words", .glo "_law_states", .glo "_law_behind", .glo "_law_table", .glo "_law_chain", .glo "_law_shortcut", .glo "_law_plain_right", .glo "_law_right", .glo "law", .free "all", .free "any", .free "dict", .free "enumerate", .free "int", .free "isinstance", .free "len", .free "list", .free "range", .free "repr", .free "set", .free "sorted", .free "str", .int "MOST_LETTERS" 7, .int "MOST_WORDS" 5]
abbrev hk : PySem.W.Hook := hookT 2 fas fns ["all_states"]
def ob (s : PySem.W.SharedT) : He.AlD × Bool := obT 2 fas fns ["all_states"] (HandSHeadRun.getT s)
theorem ob_eq (s : PySem.W.SharedT) : ob s = hk.obs s.abs := obT_eq (HandSHeadRun.getT_eq s)
abbrev R : PySem.W.OpenRow := PySem.W.OpenLaw.row PySem.Challenge.rw_halfback_k03_tables_and_shortcuts
def loose : List Str := (["InvalidWords", "InvalidTable", "UnknownState", "MOST_WORDS", "MOST_LETTERS", "is_letter", "check_words", "all_states", "letters_behind", "check_state", "ends_in", "check_table", "check_search", "goes_beyond", "chain_in", "shortcut_in", "shortcuts_in", "true_in", "true_table", "new_table", "chain", "shortcuts", "_law_draws", "_law_next", "_law_words", "_law_states", "_law_behind", "_law_table", "_law_chain", "_law_shortcut", "_law_plain_right", "_law_right"] : List Str)
theorem run (w : World) : HandSHeadRun.RunEq R (PySem.W.view R.prog [36]) hk ob 4000 loose w := by
  intro os
  kernel_rfl
theorem facts {w : World} {K : PySem.W.Frag} {h : Heap} {mg : Str → Option Value} {f : Addr} (X : K.In h) (G : h.Ns mainGlobals mg) (hfa : mg ("law" : Str) = some (.ref f)) (c : He.SaysD fas fns K) (tb : ∀ x ∈ (["all_states"] : List Str), ∃ c R, TabD K h x c R) :
    LawAt PySem.Challenge.rw_halfback_k03_tables_and_shortcuts w K 8 63 "_law_script" mg f h := by
  obtain ⟨fd_is_letter, D_is_letter⟩ := c.def_ 0 (d := d_is_letter) rfl
  obtain ⟨fd_check_words, D_check_words⟩ := c.def_ 1 (d := d_check_words) rfl
  obtain ⟨fd_all_states, D_all_states⟩ := c.def_ 2 (d := d_all_states) rfl
  obtain ⟨fd_letters_behind, D_letters_behind⟩ := c.def_ 3 (d := d_letters_behind) rfl
  obtain ⟨fd_check_state, D_check_state⟩ := c.def_ 4 (d := d_check_state) rfl
  obtain ⟨fd_ends_in, D_ends_in⟩ := c.def_ 5 (d := d_ends_in) rfl
  obtain ⟨fd_check_table, D_check_table⟩ := c.def_ 6 (d := d_check_table) rfl
  obtain ⟨fd_check_search, D_check_search⟩ := c.def_ 7 (d := d_check_search) rfl
  obtain ⟨fd_goes_beyond, D_goes_beyond⟩ := c.def_ 8 (d := d_goes_beyond) rfl
  obtain ⟨fd_chain_in, D_chain_in⟩ := c.def_ 9 (d := d_chain_in) rfl
  obtain ⟨fd_shortcut_in, D_shortcut_in⟩ := c.def_ 10 (d := d_shortcut_in) rfl
  obtain ⟨fd_shortcuts_in, D_shortcuts_in⟩ := c.def_ 11 (d := d_shortcuts_in) rfl
  obtain ⟨fd_true_in, D_true_in⟩ := c.def_ 12 (d := d_true_in) rfl
  obtain ⟨fd_true_table, D_true_table⟩ := c.def_ 13 (d := d_true_table) rfl
  obtain ⟨fd_new_table, D_new_table⟩ := c.def_ 14 (d := d_new_table) rfl
  obtain ⟨fd_chain, D_chain⟩ := c.def_ 15 (d := d_chain) rfl
  obtain ⟨fd_shortcuts, D_shortcuts⟩ := c.def_ 16 (d := d_shortcuts) rfl
  obtain ⟨fd__law_draws, D__law_draws⟩ := c.def_ 17 (d := d__law_draws) rfl
  obtain ⟨fd__law_next, D__law_next⟩ := c.def_ 18 (d := d__law_next) rfl
  obtain ⟨fd__law_words, D__law_words⟩ := c.def_ 19 (d := d__law_words) rfl
  obtain ⟨fd__law_states, D__law_states⟩ := c.def_ 20 (d := d__law_states) rfl
  obtain ⟨fd__law_behind, D__law_behind⟩ := c.def_ 21 (d := d__law_behind) rfl
  obtain ⟨fd__law_table, D__law_table⟩ := c.def_ 22 (d := d__law_table) rfl
  obtain ⟨fd__law_chain, D__law_chain⟩ := c.def_ 23 (d := d__law_chain) rfl
  obtain ⟨fd__law_shortcut, D__law_shortcut⟩ := c.def_ 24 (d := d__law_shortcut) rfl
  obtain ⟨fd__law_plain_right, D__law_plain_right⟩ := c.def_ 25 (d := d__law_plain_right) rfl
  obtain ⟨fd__law_right, D__law_right⟩ := c.def_ 26 (d := d__law_right) rfl
  obtain ⟨fd_law, D_law⟩ := c.def_ 27 (d := d_law) rfl
  have m_is_letter_ : mg "is_letter" = some (.ref (He.ga K "is_letter")) := He.glo_ok X G (c.fact 0 (f := .glo "is_letter") rfl)
  have m_check_words_ : mg "check_words" = some (.ref (He.ga K "check_words")) := He.glo_ok X G (c.fact 1 (f := .glo "check_words") rfl)
  have m_all_states_ : mg "all_states" = some (.ref (He.ga K "all_states")) := He.glo_ok X G (c.fact 2 (f := .glo "all_states") rfl)
  have m_letters_behind_ : mg "letters_behind" = some (.ref (He.ga K "letters_behind")) := He.glo_ok X G (c.fact 3 (f := .glo "letters_behind") rfl)
  have m_check_state_ : mg "check_state" = some (.ref (He.ga K "check_state")) := He.glo_ok X G (c.fact 4 (f := .glo "check_state") rfl)
  have m_ends_in_ : mg "ends_in" = some (.ref (He.ga K "ends_in")) := He.glo_ok X G (c.fact 5 (f := .glo "ends_in") rfl)
  have m_check_table_ : mg "check_table" = some (.ref (He.ga K "check_table")) := He.glo_ok X G (c.fact 6 (f := .glo "check_table") rfl)
  have m_check_search_ : mg "check_search" = some (.ref (He.ga K "check_search")) := He.glo_ok X G (c.fact 7 (f := .glo "check_search") rfl)
  have m_goes_beyond_ : mg "goes_beyond" = some (.ref (He.ga K "goes_beyond")) := He.glo_ok X G (c.fact 8 (f := .glo "goes_beyond") rfl)
  have m_chain_in_ : mg "chain_in" = some (.ref (He.ga K "chain_in")) := He.glo_ok X G (c.fact 9 (f := .glo "chain_in") rfl)
  have m_shortcut_in_ : mg "shortcut_in" = some (.ref (He.ga K "shortcut_in")) := He.glo_ok X G (c.fact 10 (f := .glo "shortcut_in") rfl)
  have m_shortcuts_in_ : mg "shortcuts_in" = some (.ref (He.ga K "shortcuts_in")) := He.glo_ok X G (c.fact 11 (f := .glo "shortcuts_in") rfl)
  have m_true_in_ : mg "true_in" = some (.ref (He.ga K "true_in")) := He.glo_ok X G (c.fact 12 (f := .glo "true_in") rfl)
  have m_true_table_ : mg "true_table" = some (.ref (He.ga K "true_table")) := He.glo_ok X G (c.fact 13 (f := .glo "true_table") rfl)
  have m_new_table_ : mg "new_table" = some (.ref (He.ga K "new_table")) := He.glo_ok X G (c.fact 14 (f := .glo "new_table") rfl)
  have m_chain_ : mg "chain" = some (.ref (He.ga K "chain")) := He.glo_ok X G (c.fact 15 (f := .glo "chain") rfl)
  have m_shortcuts_ : mg "shortcuts" = some (.ref (He.ga K "shortcuts")) := He.glo_ok X G (c.fact 16 (f := .glo "shortcuts") rfl)
  have m__law_draws_ : mg "_law_draws" = some (.ref (He.ga K "_law_draws")) := He.glo_ok X G (c.fact 17 (f := .glo "_law_draws") rfl)
  have m__law_next_ : mg "_law_next" = some (.ref (He.ga K "_law_next")) := He.glo_ok X G (c.fact 18 (f := .glo "_law_next") rfl)
  have m__law_words_ : mg "_law_words" = some (.ref (He.ga K "_law_words")) := He.glo_ok X G (c.fact 19 (f := .glo "_law_words") rfl)
  have m__law_states_ : mg "_law_states" = some (.ref (He.ga K "_law_states")) := He.glo_ok X G (c.fact 20 (f := .glo "_law_states") rfl)
  have m__law_behind_ : mg "_law_behind" = some (.ref (He.ga K "_law_behind")) := He.glo_ok X G (c.fact 21 (f := .glo "_law_behind") rfl)
  have m__law_table_ : mg "_law_table" = some (.ref (He.ga K "_law_table")) := He.glo_ok X G (c.fact 22 (f := .glo "_law_table") rfl)
  have m__law_chain_ : mg "_law_chain" = some (.ref (He.ga K "_law_chain")) := He.glo_ok X G (c.fact 23 (f := .glo "_law_chain") rfl)
  have m__law_shortcut_ : mg "_law_shortcut" = some (.ref (He.ga K "_law_shortcut")) := He.glo_ok X G (c.fact 24 (f := .glo "_law_shortcut") rfl)
  have m__law_plain_right_ : mg "_law_plain_right" = some (.ref (He.ga K "_law_plain_right")) := He.glo_ok X G (c.fact 25 (f := .glo "_law_plain_right") rfl)
  have m__law_right_ : mg "_law_right" = some (.ref (He.ga K "_law_right")) := He.glo_ok X G (c.fact 26 (f := .glo "_law_right") rfl)
  have m_law_ : mg "law" = some (.ref (He.ga K "law")) := He.glo_ok X G (c.fact 27 (f := .glo "law") rfl)
  have n_all : mg "all" = none := He.free_ok X G (c.fact 28 (f := .free "all") rfl)
  have n_any : mg "any" = none := He.free_ok X G (c.fact 29 (f := .free "any") rfl)
  have n_dict : mg "dict" = none := He.free_ok X G (c.fact 30 (f := .free "dict") rfl)
  have n_enumerate : mg "enumerate" = none := He.free_ok X G (c.fact 31 (f := .free "enumerate") rfl)
  have n_int : mg "int" = none := He.free_ok X G (c.fact 32 (f := .free "int") rfl)
  have n_isinstance : mg "isinstance" = none := He.free_ok X G (c.fact 33 (f := .free "isinstance") rfl)
  have n_len : mg "len" = none := He.free_ok X G (c.fact 34 (f := .free "len") rfl)
  have n_list : mg "list" = none := He.free_ok X G (c.fact 35 (f := .free "list") rfl)
  have n_range : mg "range" = none := He.free_ok X G (c.fact 36 (f := .free "range") rfl)
  have n_repr : mg "repr" = none := He.free_ok X G (c.fact 37 (f := .free "repr") rfl)
  have n_set : mg "set" = none := He.free_ok X G (c.fact 38 (f := .free "set") rfl)
  have n_sorted : mg "sorted" = none := He.free_ok X G (c.fact 39 (f := .free "sorted") rfl)
  have n_str : mg "str" = none := He.free_ok X G (c.fact 40 (f := .free "str") rfl)
  obtain ⟨t_MOST_LETTERS, i_MOST_LETTERS⟩ := He.int_ok X G (c.fact 41 (f := .int "MOST_LETTERS" 7) rfl)
  obtain ⟨t_MOST_WORDS, i_MOST_WORDS⟩ := He.int_ok X G (c.fact 42 (f := .int "MOST_WORDS" 5) rfl)
  obtain ⟨c_all_states, R_all_states, T_all_states⟩ := tb "all_states" (by simp)
  have e := hfa.symm.trans m_law_
  cases e
  have bl := FunD.bindsA (ps := ["_law_script"]) D_law fun _ _ _ _ _ _ us hl => match us, hl with | [_], _ => rfl
  refine ⟨fd_law, [(c_all_states, R_all_states)], SpL [(R_all_states, ("all_states" : Str) ++ ".<locals>." ++ "<lambda>")] K fun _ => True, ?_, ?_, ?_, fun s u => bl s [u] rfl, fun H a ns _ _ hH hS => ⟨a, ns, rfl, ?_, hS, trivial, fun _ => rfl⟩, fun base KB GB TB => ?_⟩
  · exact fun p hp => by simp only [List.mem_singleton] at hp; subst hp; exact T_all_states.tab
  · exact fun p hp => by simp only [List.mem_singleton] at hp; subst hp; exact T_all_states.no
  · exact fun p hp => by simp only [List.mem_singleton] at hp; subst hp; exact T_all_states.hd
  · intro p hp
    simp only [List.mem_singleton] at hp; subst hp
    exact LamX.TabS.nil (hH (c_all_states, R_all_states) (by simp))
  have TB1 := TB (c_all_states, R_all_states) (by simp)
  have hc1 : fd_all_states.code = .ref c_all_states := by
    obtain ⟨oc, od, fd', osl, e1, e2⟩ := T_all_states.fn
    obtain ⟨oc2, od2, dV, kV, doc, pm, an, cdv, ct, osl2, e3, lk, _⟩ := D_all_states.ex
    have lk' : K.lookup (He.ga K "all_states") = some ⟨oc2, od2, .func fd_all_states, osl2⟩ := lk
    rw [e1] at lk'
    cases lk'
    exact e2
  have G_is_letter := ok_is_letter (T := [(R_all_states, ("all_states" : Str) ++ ".<locals>." ++ "<lambda>")]) (P := PySem.Challenge.pw_halfback_k03_tables_and_shortcuts) (w := w) (mg := mg) (base := base) D_is_letter 
  have cV_is_letter := GP.of D_is_letter m_is_letter_ (gfn_V G_is_letter) (fun _ _ _ _ _ _ us hl => match us, hl with | [_], _ => rfl)
  have G_check_words := ok_check_words (T := [(R_all_states, ("all_states" : Str) ++ ".<locals>." ++ "<lambda>")]) (P := PySem.Challenge.pw_halfback_k03_tables_and_shortcuts) (w := w) (mg := mg) (base := base) D_check_words cV_is_letter n_all n_enumerate n_isinstance n_len n_list n_str i_MOST_LETTERS i_MOST_WORDS
  have cV_check_words := GP.of D_check_words m_check_words_ (gfn_V G_check_words) (fun _ _ _ _ _ _ us hl => match us, hl with | [_], _ => rfl)
  have G_all_states := ok_all_states (T := [(R_all_states, ("all_states" : Str) ++ ".<locals>." ++ "<lambda>")]) (P := PySem.Challenge.pw_halfback_k03_tables_and_shortcuts) (w := w) (mg := mg) (base := base) D_all_states TB1 hc1 (by simp) (by simp) n_len n_range n_sorted
  have cV_all_states := GP.of D_all_states m_all_states_ (gfn_V G_all_states) (fun _ _ _ _ _ _ us hl => match us, hl with | [_], _ => rfl)
  have G_letters_behind := ok_letters_behind (T := [(R_all_states, ("all_states" : Str) ++ ".<locals>." ++ "<lambda>")]) (P := PySem.Challenge.pw_halfback_k03_tables_and_shortcuts) (w := w) (mg := mg) (base := base) D_letters_behind cV_all_states
  have cV_letters_behind := GP.of D_letters_behind m_letters_behind_ (gfn_V G_letters_behind) (fun _ _ _ _ _ _ us hl => match us, hl with | [_], _ => rfl)
  have G_check_state := ok_check_state (T := [(R_all_states, ("all_states" : Str) ++ ".<locals>." ++ "<lambda>")]) (P := PySem.Challenge.pw_halfback_k03_tables_and_shortcuts) (w := w) (mg := mg) (base := base) D_check_state cV_all_states n_isinstance n_str
  have cV_check_state := GP.of D_check_state m_check_state_ (gfn_V G_check_state) (fun _ _ _ _ _ _ us hl => match us, hl with | [_, _], _ => rfl)
  have G_ends_in := ok_ends_in (T := [(R_all_states, ("all_states" : Str) ++ ".<locals>." ++ "<lambda>")]) (P := PySem.Challenge.pw_halfback_k03_tables_and_shortcuts) (w := w) (mg := mg) (base := base) D_ends_in cV_all_states n_len
  have cV_ends_in := GP.of D_ends_in m_ends_in_ (gfn_V G_ends_in) (fun _ _ _ _ _ _ us hl => match us, hl with | [_, _], _ => rfl)
  have G_check_table := ok_check_table (T := [(R_all_states, ("all_states" : Str) ++ ".<locals>." ++ "<lambda>")]) (P := PySem.Challenge.pw_halfback_k03_tables_and_shortcuts) (w := w) (mg := mg) (base := base) D_check_table cV_all_states n_all n_dict n_isinstance n_len n_str
  have cV_check_table := GP.of D_check_table m_check_table_ (gfn_V G_check_table) (fun _ _ _ _ _ _ us hl => match us, hl with | [_, _], _ => rfl)
  have G_check_search := ok_check_search (T := [(R_all_states, ("all_states" : Str) ++ ".<locals>." ++ "<lambda>")]) (P := PySem.Challenge.pw_halfback_k03_tables_and_shortcuts) (w := w) (mg := mg) (base := base) D_check_search cV_check_words cV_check_table
  have cV_check_search := GP.of D_check_search m_check_search_ (gfn_V G_check_search) (fun _ _ _ _ _ _ us hl => match us, hl with | [_, _], _ => rfl)
  have G_goes_beyond := ok_goes_beyond (T := [(R_all_states, ("all_states" : Str) ++ ".<locals>." ++ "<lambda>")]) (P := PySem.Challenge.pw_halfback_k03_tables_and_shortcuts) (w := w) (mg := mg) (base := base) D_goes_beyond n_any
  have cV_goes_beyond := GP.of D_goes_beyond m_goes_beyond_ (gfn_V G_goes_beyond) (fun _ _ _ _ _ _ us hl => match us, hl with | [_, _, _], _ => rfl)
  have G_chain_in := ok_chain_in (T := [(R_all_states, ("all_states" : Str) ++ ".<locals>." ++ "<lambda>")]) (P := PySem.Challenge.pw_halfback_k03_tables_and_shortcuts) (w := w) (mg := mg) (base := base) D_chain_in 
  have cR_chain_in := GP.of D_chain_in m_chain_in_ (gfn_R G_chain_in) (fun _ _ _ _ _ _ us hl => match us, hl with | [_, _], _ => rfl)
  have cV_chain_in := GP.of D_chain_in m_chain_in_ (gfn_V G_chain_in) (fun _ _ _ _ _ _ us hl => match us, hl with | [_, _], _ => rfl)
  have G_shortcut_in := ok_shortcut_in (T := [(R_all_states, ("all_states" : Str) ++ ".<locals>." ++ "<lambda>")]) (P := PySem.Challenge.pw_halfback_k03_tables_and_shortcuts) (w := w) (mg := mg) (base := base) D_shortcut_in cV_chain_in cV_goes_beyond
  have cV_shortcut_in := GP.of D_shortcut_in m_shortcut_in_ (gfn_V G_shortcut_in) (fun _ _ _ _ _ _ us hl => match us, hl with | [_, _, _], _ => rfl)
  have G_shortcuts_in := ok_shortcuts_in (T := [(R_all_states, ("all_states" : Str) ++ ".<locals>." ++ "<lambda>")]) (P := PySem.Challenge.pw_halfback_k03_tables_and_shortcuts) (w := w) (mg := mg) (base := base) D_shortcuts_in cV_letters_behind cV_all_states cV_shortcut_in
  have cR_shortcuts_in := GP.of D_shortcuts_in m_shortcuts_in_ (gfn_R G_shortcuts_in) (fun _ _ _ _ _ _ us hl => match us, hl with | [_, _], _ => rfl)
  have G_true_in := ok_true_in (T := [(R_all_states, ("all_states" : Str) ++ ".<locals>." ++ "<lambda>")]) (P := PySem.Challenge.pw_halfback_k03_tables_and_shortcuts) (w := w) (mg := mg) (base := base) D_true_in cV_all_states cV_ends_in
  have cR_true_in := GP.of D_true_in m_true_in_ (gfn_R G_true_in) (fun _ _ _ _ _ _ us hl => match us, hl with | [_], _ => rfl)
  have G_true_table := ok_true_table (T := [(R_all_states, ("all_states" : Str) ++ ".<locals>." ++ "<lambda>")]) (P := PySem.Challenge.pw_halfback_k03_tables_and_shortcuts) (w := w) (mg := mg) (base := base) D_true_table cV_check_words cR_true_in
  have cR_true_table := GP.of D_true_table m_true_table_ (gfn_R G_true_table) (fun _ _ _ _ _ _ us hl => match us, hl with | [_], _ => rfl)
  have cV_true_table := GP.of D_true_table m_true_table_ (gfn_V G_true_table) (fun _ _ _ _ _ _ us hl => match us, hl with | [_], _ => rfl)
  have qR0_true_table := GCq.of (q := [0]) D_true_table m_true_table_ (gfn_R G_true_table) (fun _ _ _ _ _ _ ws hl => match ws, hl with | [_], _ => rfl)
  have G_new_table := ok_new_table (T := [(R_all_states, ("all_states" : Str) ++ ".<locals>." ++ "<lambda>")]) (P := PySem.Challenge.pw_halfback_k03_tables_and_shortcuts) (w := w) (mg := mg) (base := base) D_new_table cV_check_words cV_all_states
  have cR_new_table := GP.of D_new_table m_new_table_ (gfn_R G_new_table) (fun _ _ _ _ _ _ us hl => match us, hl with | [_], _ => rfl)
  have cV_new_table := GP.of D_new_table m_new_table_ (gfn_V G_new_table) (fun _ _ _ _ _ _ us hl => match us, hl with | [_], _ => rfl)
  have qR0_new_table := GCq.of (q := [0]) D_new_table m_new_table_ (gfn_R G_new_table) (fun _ _ _ _ _ _ ws hl => match ws, hl with | [_], _ => rfl)
  have G_chain := ok_chain (T := [(R_all_states, ("all_states" : Str) ++ ".<locals>." ++ "<lambda>")]) (P := PySem.Challenge.pw_halfback_k03_tables_and_shortcuts) (w := w) (mg := mg) (base := base) D_chain cV_check_search cV_check_state cR_chain_in
  have cR_chain := GP.of D_chain m_chain_ (gfn_R G_chain) (fun _ _ _ _ _ _ us hl => match us, hl with | [_, _, _], _ => rfl)
  have cV_chain := GP.of D_chain m_chain_ (gfn_V G_chain) (fun _ _ _ _ _ _ us hl => match us, hl with | [_, _, _], _ => rfl)
  have qR210_chain := GCq.of (q := [2, 1, 0]) D_chain m_chain_ (gfn_R G_chain) (fun _ _ _ _ _ _ ws hl => match ws, hl with | [_, _, _], _ => rfl)
  have G_shortcuts := ok_shortcuts (T := [(R_all_states, ("all_states" : Str) ++ ".<locals>." ++ "<lambda>")]) (P := PySem.Challenge.pw_halfback_k03_tables_and_shortcuts) (w := w) (mg := mg) (base := base) D_shortcuts cV_check_search cR_shortcuts_in
  have cR_shortcuts := GP.of D_shortcuts m_shortcuts_ (gfn_R G_shortcuts) (fun _ _ _ _ _ _ us hl => match us, hl with | [_, _], _ => rfl)
  have cV_shortcuts := GP.of D_shortcuts m_shortcuts_ (gfn_V G_shortcuts) (fun _ _ _ _ _ _ us hl => match us, hl with | [_, _], _ => rfl)
  have qR10_shortcuts := GCq.of (q := [1, 0]) D_shortcuts m_shortcuts_ (gfn_R G_shortcuts) (fun _ _ _ _ _ _ ws hl => match ws, hl with | [_, _], _ => rfl)
  have G__law_draws := ok__law_draws (T := [(R_all_states, ("all_states" : Str) ++ ".<locals>." ++ "<lambda>")]) (P := PySem.Challenge.pw_halfback_k03_tables_and_shortcuts) (w := w) (mg := mg) (base := base) D__law_draws n_int
  have cR__law_draws := GP.of D__law_draws m__law_draws_ (gfn_R G__law_draws) (fun _ _ _ _ _ _ us hl => match us, hl with | [_], _ => rfl)
  have G__law_next := ok__law_next (T := [(R_all_states, ("all_states" : Str) ++ ".<locals>." ++ "<lambda>")]) (P := PySem.Challenge.pw_halfback_k03_tables_and_shortcuts) (w := w) (mg := mg) (base := base) D__law_next n_int
  have cE__law_next := GP.of D__law_next m__law_next_ (gfn_E G__law_next) (fun _ _ _ _ _ _ us hl => match us, hl with | [_], _ => rfl)
  have G__law_words := ok__law_words (T := [(R_all_states, ("all_states" : Str) ++ ".<locals>." ++ "<lambda>")]) (P := PySem.Challenge.pw_halfback_k03_tables_and_shortcuts) (w := w) (mg := mg) (base := base) D__law_words cE__law_next n_int n_len n_range
  have cE__law_words := GP.of D__law_words m__law_words_ (gfn_E G__law_words) (fun _ _ _ _ _ _ us hl => match us, hl with | [_, _], _ => rfl)
  have G__law_states := ok__law_states (T := [(R_all_states, ("all_states" : Str) ++ ".<locals>." ++ "<lambda>")]) (P := PySem.Challenge.pw_halfback_k03_tables_and_shortcuts) (w := w) (mg := mg) (base := base) D__law_states n_len n_range n_set n_sorted
  have cV__law_states := GP.of D__law_states m__law_states_ (gfn_V G__law_states) (fun _ _ _ _ _ _ us hl => match us, hl with | [_], _ => rfl)
  have G__law_behind := ok__law_behind (T := [(R_all_states, ("all_states" : Str) ++ ".<locals>." ++ "<lambda>")]) (P := PySem.Challenge.pw_halfback_k03_tables_and_shortcuts) (w := w) (mg := mg) (base := base) D__law_behind n_len n_set n_sorted
  have cV__law_behind := GP.of D__law_behind m__law_behind_ (gfn_V G__law_behind) (fun _ _ _ _ _ _ us hl => match us, hl with | [_, _], _ => rfl)
  have G__law_table := ok__law_table (T := [(R_all_states, ("all_states" : Str) ++ ".<locals>." ++ "<lambda>")]) (P := PySem.Challenge.pw_halfback_k03_tables_and_shortcuts) (w := w) (mg := mg) (base := base) D__law_table cE__law_next cV__law_states n_int n_len
  have cE__law_table := GP.of D__law_table m__law_table_ (gfn_E G__law_table) (fun _ _ _ _ _ _ us hl => match us, hl with | [_, _], _ => rfl)
  have G__law_chain := ok__law_chain (T := [(R_all_states, ("all_states" : Str) ++ ".<locals>." ++ "<lambda>")]) (P := PySem.Challenge.pw_halfback_k03_tables_and_shortcuts) (w := w) (mg := mg) (base := base) D__law_chain 
  have cV__law_chain := GP.of D__law_chain m__law_chain_ (gfn_V G__law_chain) (fun _ _ _ _ _ _ us hl => match us, hl with | [_, _], _ => rfl)
  have G__law_shortcut := ok__law_shortcut (T := [(R_all_states, ("all_states" : Str) ++ ".<locals>." ++ "<lambda>")]) (P := PySem.Challenge.pw_halfback_k03_tables_and_shortcuts) (w := w) (mg := mg) (base := base) D__law_shortcut cV__law_behind cV__law_chain
  have cV__law_shortcut := GP.of D__law_shortcut m__law_shortcut_ (gfn_V G__law_shortcut) (fun _ _ _ _ _ _ us hl => match us, hl with | [_, _, _], _ => rfl)
  have G__law_plain_right := ok__law_plain_right (T := [(R_all_states, ("all_states" : Str) ++ ".<locals>." ++ "<lambda>")]) (P := PySem.Challenge.pw_halfback_k03_tables_and_shortcuts) (w := w) (mg := mg) (base := base) D__law_plain_right cV__law_states cR_true_table cR_new_table cV_true_table cV_new_table qR0_true_table qR0_new_table n_dict n_isinstance n_len n_list n_repr
  have cV__law_plain_right := GP.of D__law_plain_right m__law_plain_right_ (gfn_V G__law_plain_right) (fun _ _ _ _ _ _ us hl => match us, hl with | [_], _ => rfl)
  have G__law_right := ok__law_right (T := [(R_all_states, ("all_states" : Str) ++ ".<locals>." ++ "<lambda>")]) (P := PySem.Challenge.pw_halfback_k03_tables_and_shortcuts) (w := w) (mg := mg) (base := base) D__law_right cV__law_states cV__law_chain cR_chain cV_chain cV__law_shortcut cR_shortcuts cV_shortcuts qR210_chain qR10_shortcuts n_dict n_list n_repr
  have cV__law_right := GP.of D__law_right m__law_right_ (gfn_V G__law_right) (fun _ _ _ _ _ _ us hl => match us, hl with | [_, _], _ => rfl)
  exact ok_law D_law cR__law_draws cE__law_words cV__law_right cV_true_table cV__law_plain_right cE__law_table cV_shortcuts fun ns _ => law_ok ns
end K03
open PySem PySem.W PySem.Calls PyProof.Rows
theorem PySem.Challenge.cw_halfback_k03_tables_and_shortcuts_holds : PySem.Challenge.rw_halfback_k03_tables_and_shortcuts.Holds := by
  w_on; o_law
  refine HandSHeadRun.head_any (r := OpenLaw.row PySem.Challenge.rw_halfback_k03_tables_and_shortcuts) (q := view (OpenLaw.row PySem.Challenge.rw_halfback_k03_tables_and_shortcuts).prog [36]) (H := K03.hk) (ob := K03.ob) (M := 4000) (loose := K03.loose) (d := HandSHeadRun.topDef (OpenLaw.row PySem.Challenge.rw_halfback_k03_tables_and_shortcuts).prog 36) (kwd := []) K03.ob_eq
    (by kernel_rfl) (fun s => by kernel_rfl) K03.run (by kernel_rfl) (by kernel_rfl) (by kernel_rfl) (by rfl) (by first | assumption | decide +kernel) (by decide +kernel) ⟨rfl, rfl, rfl, rfl, rfl, by decide +kernel⟩ ?hw ?hc
  case hw => w_witness2
  case hc =>
    refine HB.walk_goE (l := PySem.Challenge.rw_halfback_k03_tables_and_shortcuts) (n := 63) (k := 8) (x := "_law_script") rfl (by decide) (by kernel_rfl) ⟨rfl, by decide, by decide⟩ ?F
    intro w mg fa h Y G hmg0
    obtain ⟨K, KX, c, tb⟩ := Y
    have hmg : mg ("law" : PySem.Str) = some (.ref fa) := by
      have e : (HandSHeadRun.topDef (OpenLaw.row PySem.Challenge.rw_halfback_k03_tables_and_shortcuts).prog 36).name = ("law" : PySem.Str) := by kernel_rfl
      rw [← e]
      exact hmg0
    exact ⟨K, KX, K03.facts KX G hmg c tb⟩

