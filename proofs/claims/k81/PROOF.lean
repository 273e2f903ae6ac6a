import PyProof.Rows.All
import Wide.All
import OpenK.AllK
import Wide.FinOn
import HandS.ForMost
import HandS.Walk
import HandS.Lambda
import HandS.Flow
import HandS.Defaults
import HandS.IsInst
import HandS.DictComp
import PyProof.ReprNest
import PyProof.ReprDict
import HandS.Set
import HandS.SetFor
import HandS.SetTxt0
import HandS.Strs
import HandS.More
import KE.SortData
import KE.SortKeyHeap
import HandS.SortKw
import HandS.EndTab
import HandS.Words
import HandS.Head0
import HandS.Head1
import HandS.Head2
import HandS.HeadEnd
import HandS.HeadHook1
import HandS.HeadHook2
import HandS.DeepEq
import HandS.Conv
import HandS.ListItems
import HandS.Style
import HandS.Finally
import HandS.Text
import PyProof.SumWalk
import PyProof.Walks
import PyProof.ListOps
import KE.KDictList
import PyProof.Rows.StrJoinMade
import PySem.Challenge.RW_halfback_k81_whole_safe_skips
set_option Elab.async false
set_option linter.all false
set_option maxRecDepth 100000
set_option maxHeartbeats 1000000
/-! HB, part a: data told of the heap, worlds of live objects, the judgements DE, DT, DA, DS. -/
namespace HB
open PySem PySem.Spec PyProof.Rows L2

/-- plain data; ref k: the k-th live object -/
inductive Dt where
  | non | bl (b : Bool) | int (i : Int) | str (x : Str) | ref (k : Nat)
  | lst (ds : List Dt) | tup (ds : List Dt) | dic (ks : List Key) (ds : List Dt)

abbrev Sto := List (Option Dt)

mutual
def Den (L : List Addr) (B : Addr → Prop) (H : Hp) : Dt → V → Prop
  | .non, v => v = .non
  | .bl b, v => v = .bl b
  | .int i, v => v = .int i
  | .str x, v => v = .str x
  | .ref k, v => ∃ a, L[k]? = some a ∧ v = .ref a
  | .lst ds, v => ∃ a vs, v = .ref a ∧ ¬ B a ∧ H a = some (.lst vs) ∧ Dens L B H ds vs
  | .tup ds, v => ∃ a vs, v = .ref a ∧ H a = some (.tup vs) ∧ Dens L B H ds vs
  | .dic ks ds, v => ∃ a vs, v = .ref a ∧ ¬ B a ∧ Rd H a (.dK (ks.zip vs)) ∧ ks.length = vs.length ∧ Dens L B H ds vs
def Dens (L : List Addr) (B : Addr → Prop) (H : Hp) : List Dt → List V → Prop
  | [], vs => vs = []
  | d :: ds, vs => ∃ v r, vs = v :: r ∧ Den L B H d v ∧ Dens L B H ds r
end

theorem Dens.cons {L : List Addr} {B : Addr → Prop} {H : Hp} {d : Dt} {ds : List Dt} {v : V} {vs : List V} (h : Den L B H d v) (t : Dens L B H ds vs) : Dens L B H (d :: ds) (v :: vs) := by
  unfold Dens; exact ⟨v, vs, rfl, h, t⟩
theorem Dens.nil {L : List Addr} {B : Addr → Prop} {H : Hp} : Dens L B H [] [] := by unfold Dens; rfl
theorem Dens.uncons {L : List Addr} {B : Addr → Prop} {H : Hp} {d : Dt} {ds : List Dt} {vs : List V} (h : Dens L B H (d :: ds) vs) : ∃ v r, vs = v :: r ∧ Den L B H d v ∧ Dens L B H ds r := by
  unfold Dens at h; exact h
theorem Dens.len {L : List Addr} {B : Addr → Prop} {H : Hp} : ∀ {ds : List Dt} {vs : List V}, Dens L B H ds vs → ds.length = vs.length
  | [], vs, h => by unfold Dens at h; subst h; rfl
  | d :: ds, vs, h => by
    obtain ⟨v, r, rfl, _, t⟩ := h.uncons
    simp [Dens.len t]
theorem Dens.get {L : List Addr} {B : Addr → Prop} {H : Hp} : ∀ {ds : List Dt} {vs : List V} {i : Nat} {d : Dt}, Dens L B H ds vs → ds[i]? = some d → ∃ v, vs[i]? = some v ∧ Den L B H d v
  | [], _, _, _, _, e => by simp at e
  | d :: ds, vs, 0, x, h, e => by
    obtain ⟨v, r, rfl, q, _⟩ := h.uncons
    simp at e; subst e
    exact ⟨v, rfl, q⟩
  | d :: ds, vs, i + 1, x, h, e => by
    obtain ⟨v, r, rfl, _, t⟩ := h.uncons
    obtain ⟨u, h1, h2⟩ := Dens.get (i := i) t (by simpa using e)
    exact ⟨u, by simpa using h1, h2⟩
theorem Dens.getV {L : List Addr} {B : Addr → Prop} {H : Hp} {ds : List Dt} {vs : List V} {i : Nat} {v : V} (h : Dens L B H ds vs) (e : vs[i]? = some v) : ∃ d, ds[i]? = some d ∧ Den L B H d v := by
  have hl := h.len
  have hi : i < ds.length := by
    have := (List.getElem?_eq_some_iff.mp e).1
    omega
  obtain ⟨u, h1, h2⟩ := h.get (List.getElem?_eq_getElem hi)
  rw [e] at h1; cases h1
  exact ⟨_, List.getElem?_eq_getElem hi, h2⟩
theorem Dens.append {L : List Addr} {B : Addr → Prop} {H : Hp} : ∀ {ds es : List Dt} {vs us : List V}, Dens L B H ds vs → Dens L B H es us → Dens L B H (ds ++ es) (vs ++ us)
  | [], _, vs, _, h, t => by unfold Dens at h; subst h; exact t
  | d :: ds, es, vs, us, h, t => by
    obtain ⟨v, r, rfl, q, h⟩ := h.uncons
    exact .cons q (Dens.append h t)
theorem Dens.drop {L : List Addr} {B : Addr → Prop} {H : Hp} : ∀ {ds : List Dt} {vs : List V} (n : Nat), Dens L B H ds vs → Dens L B H (ds.drop n) (vs.drop n)
  | _, _, 0, h => h
  | [], vs, n + 1, h => by unfold Dens at h; subst h; exact .nil
  | d :: ds, vs, n + 1, h => by
    obtain ⟨v, r, rfl, _, t⟩ := h.uncons
    exact Dens.drop n t
theorem Dens.take {L : List Addr} {B : Addr → Prop} {H : Hp} : ∀ {ds : List Dt} {vs : List V} (n : Nat), Dens L B H ds vs → Dens L B H (ds.take n) (vs.take n)
  | _, _, 0, h => .nil
  | [], vs, n + 1, h => by unfold Dens at h; subst h; exact .nil
  | d :: ds, vs, n + 1, h => by
    obtain ⟨v, r, rfl, q, t⟩ := h.uncons
    exact .cons q (Dens.take n t)
theorem Dens.set {L : List Addr} {B : Addr → Prop} {H : Hp} {d : Dt} {v : V} (q : Den L B H d v) : ∀ {ds : List Dt} {vs : List V} (n : Nat), Dens L B H ds vs → Dens L B H (ds.set n d) (vs.set n v)
  | [], vs, _, h => by unfold Dens at h; subst h; exact .nil
  | e :: ds, vs, 0, h => by
    obtain ⟨w, r, rfl, _, t⟩ := h.uncons
    exact .cons q t
  | e :: ds, vs, n + 1, h => by
    obtain ⟨w, r, rfl, p, t⟩ := h.uncons
    exact .cons p (Dens.set q n t)
theorem Dens.reverse {L : List Addr} {B : Addr → Prop} {H : Hp} : ∀ {ds : List Dt} {vs : List V}, Dens L B H ds vs → Dens L B H ds.reverse vs.reverse
  | [], vs, h => by unfold Dens at h; subst h; exact .nil
  | d :: ds, vs, h => by
    obtain ⟨v, r, rfl, q, t⟩ := h.uncons
    rw [List.reverse_cons, List.reverse_cons]
    exact (Dens.reverse t).append (.cons q .nil)

theorem rd_ne {H : Hp} {a : Addr} {u : HO} (h : Rd H a u) : H a ≠ none := by
  rcases h with h | ⟨x, h⟩ <;> rw [h] <;> simp
theorem rd_of {H H' : Hp} {a : Addr} {u : HO} (h : Rd H a u) (k : ∀ o, H a = some o → H' a = some o) : Rd H' a u := by
  rcases h with h | ⟨x, h⟩
  · exact .inl (k _ h)
  · exact .inr ⟨x, k _ h⟩

/-- the k-th object of L is live -/
def Liv (L : List Addr) (st : Sto) (a : Addr) : Prop := ∃ (k : Nat) (d : Dt), L[k]? = some a ∧ st[k]? = some (some d)
def Bad (Z : Addr → Prop) (L : List Addr) (st : Sto) (a : Addr) : Prop := Z a ∨ Liv L st a
def OwnO (L : List Addr) (B : Addr → Prop) (H : Hp) (o : HO) : Dt → Prop
  | .lst ds => ∃ vs, o = .lst vs ∧ Dens L B H ds vs
  | .dic ks ds => ∃ vs, o = .dK (ks.zip vs) ∧ ks.length = vs.length ∧ Dens L B H ds vs
  | _ => False
theorem OwnO.imp {L L' : List Addr} {B B' : Addr → Prop} {H H' : Hp} {o : HO} (f : ∀ ds vs, Dens L B H ds vs → Dens L' B' H' ds vs) : ∀ {d : Dt}, OwnO L B H o d → OwnO L' B' H' o d
  | .lst _, h => by obtain ⟨vs, e, t⟩ := h; exact ⟨vs, e, f _ _ t⟩
  | .dic _ _, h => by obtain ⟨vs, e, el, t⟩ := h; exact ⟨vs, e, el, f _ _ t⟩
theorem OwnO.kind {L : List Addr} {B : Addr → Prop} {H : Hp} {o : HO} : ∀ {d : Dt}, OwnO L B H o d → (∃ xs, o = .lst xs) ∨ ∃ kvs, o = .dK kvs
  | .lst _, h => by obtain ⟨vs, e, t⟩ := h; exact .inl ⟨vs, e⟩
  | .dic _ _, h => by obtain ⟨vs, e, el, t⟩ := h; exact .inr ⟨_, e⟩
def OwnAt (L : List Addr) (B : Addr → Prop) (H : Hp) (a : Addr) (d : Dt) : Prop := ∃ o, H a = some o ∧ OwnO L B H o d
/-- the world: tables of code objects, live objects and what they hold, Z not to be touched -/
structure Wd (T : List (Addr × Str)) (Z : Addr → Prop) (L : List Addr) (st : Sto) (H : Hp) : Prop where
  tabs : LamX.Tabs T H
  len : L.length = st.length
  inj : ∀ (i j : Nat) (a : Addr) (d e : Dt), L[i]? = some a → L[j]? = some a → st[i]? = some (some d) → st[j]? = some (some e) → i = j
  own : ∀ (k : Nat) (a : Addr) (d : Dt), L[k]? = some a → st[k]? = some (some d) → ¬ Z a ∧ OwnAt L (Bad Z L st) H a d
  zt : ∀ a, Z a → H a ≠ none
/-- from one world to a later one -/
structure Afz (T : List (Addr × Str)) (Z : Addr → Prop) (L : List Addr) (st : Sto) (H : Hp) (Z' : Addr → Prop) (L' : List Addr) (st' : Sto) (H' : Hp) : Prop where
  wd : Wd T Z' L' st' H'
  pre : ∃ M, L' = L ++ M
  kp : ∀ b o, H b = some o → ¬ Liv L st b → (∀ ps, o ≠ .tbl ps) → H' b = some o
  nw : ∀ a, Liv L' st' a → Liv L st a ∨ H a = none
  trk : ∀ b, H b ≠ none → H' b ≠ none
  tp : ∀ b xs, H b = some (.tup xs) → H' b = some (.tup xs)
  fr : ∀ (k : Nat) (a : Addr), L.length ≤ k → L'[k]? = some a → H a = none
  zs : ∀ a, Z' a → Z a ∨ H a = none
abbrev Af (T : List (Addr × Str)) (Z : Addr → Prop) (L : List Addr) (st : Sto) (H : Hp) (L' : List Addr) (st' : Sto) (H' : Hp) : Prop := Afz T Z L st H Z L' st' H'
section
variable {T : List (Addr × Str)} {Z Z' Z'' : Addr → Prop} {L L' L'' : List Addr} {st st' st'' : Sto} {H H' H'' : Hp}
theorem Afz.refl (w : Wd T Z L st H) : Af T Z L st H L st H := ⟨w, ⟨[], by simp⟩, fun b o h _ _ => h, fun a h => .inl h, fun _ h => h, fun _ _ h => h, fun k a h e => absurd (List.getElem?_eq_some_iff.mp e).1 (by omega), fun a z => .inl z⟩
theorem OwnAt.ne {B : Addr → Prop} {a : Addr} {d : Dt} (h : OwnAt L B H a d) : H a ≠ none := by
  obtain ⟨o, e, _⟩ := h; rw [e]; simp
theorem Wd.livTrk (w : Wd T Z L st H) {a : Addr} (h : Liv L st a) : H a ≠ none := by
  obtain ⟨k, d, h1, h2⟩ := h
  exact (w.own k a d h1 h2).2.ne
theorem Afz.trans (h : Afz T Z L st H Z' L' st' H') (g : Afz T Z' L' st' H' Z'' L'' st'' H'') : Afz T Z L st H Z'' L'' st'' H'' := by
  refine ⟨g.wd, ?_, fun b o e nl nt => ?_, fun a l => ?_, fun b e => g.trk b (h.trk b e), fun b xs e => g.tp b xs (h.tp b xs e), fun k a hk e => ?_, fun a z => ?_⟩
  · obtain ⟨M, rfl⟩ := h.pre
    obtain ⟨N, rfl⟩ := g.pre
    exact ⟨M ++ N, by simp⟩
  · have e' := h.kp b o e nl nt
    have nl' : ¬ Liv L' st' b := fun z => by
      rcases h.nw b z with z | z
      · exact nl z
      · rw [e] at z; cases z
    exact g.kp b o e' nl' nt
  · rcases g.nw a l with z | z
    · exact h.nw a z
    · right
      cases q : H a with
      | none => rfl
      | some o => exact absurd z (h.trk a (by rw [q]; simp))
  · by_cases hl : L'.length ≤ k
    · have z := g.fr k a hl e
      cases q : H a with
      | none => rfl
      | some o => exact absurd z (h.trk a (by rw [q]; simp))
    · obtain ⟨N, rfl⟩ := g.pre
      rw [List.getElem?_append_left (by omega)] at e
      exact h.fr k a hk e
  · rcases g.zs a z with z | z
    · exact h.zs a z
    · right
      cases q : H a with
      | none => rfl
      | some o => exact absurd z (h.trk a (by rw [q]; simp))
theorem Afz.ix (h : Afz T Z L st H Z' L' st' H') {k : Nat} {a : Addr} (e : L[k]? = some a) : L'[k]? = some a := by
  obtain ⟨M, rfl⟩ := h.pre
  rw [List.getElem?_append_left (List.getElem?_eq_some_iff.mp e).1]
  exact e
theorem Afz.bad (h : Afz T Z L st H Z' L' st' H') {a : Addr} (t : H a ≠ none) (n : ¬ Bad Z L st a) : ¬ Bad Z' L' st' a := fun z => by
  rcases z with z | z
  · exact (h.zs a z).elim (fun z => n (.inl z)) t
  · rcases h.nw a z with z | z
    · exact n (.inr z)
    · exact t z
mutual
theorem Den.keep (h : Afz T Z L st H Z' L' st' H') : ∀ {d : Dt} {v : V}, Den L (Bad Z L st) H d v → Den L' (Bad Z' L' st') H' d v
  | .non, _, q => by unfold Den at q ⊢; exact q
  | .bl _, _, q => by unfold Den at q ⊢; exact q
  | .int _, _, q => by unfold Den at q ⊢; exact q
  | .str _, _, q => by unfold Den at q ⊢; exact q
  | .ref _, _, q => by
    unfold Den at q ⊢
    obtain ⟨a, e, r⟩ := q
    exact ⟨a, h.ix e, r⟩
  | .lst ds, _, q => by
    unfold Den at q ⊢
    obtain ⟨a, vs, r, nb, e, t⟩ := q
    exact ⟨a, vs, r, h.bad (by rw [e]; simp) nb, h.kp a _ e (fun z => nb (.inr z)) (fun ps z => by cases z), Dens.keep h t⟩
  | .tup ds, _, q => by
    unfold Den at q ⊢
    obtain ⟨a, vs, r, e, t⟩ := q
    exact ⟨a, vs, r, h.tp a vs e, Dens.keep h t⟩
  | .dic ks ds, _, q => by
    unfold Den at q ⊢
    obtain ⟨a, vs, r, nb, e, el, t⟩ := q
    exact ⟨a, vs, r, h.bad (rd_ne e) nb, rd_of e fun o eo => h.kp a o eo (fun z => nb (.inr z)) (fun ps z => by
      subst z
      rcases e with e | ⟨x, e⟩ <;> rw [eo] at e <;> cases e), el, Dens.keep h t⟩
theorem Dens.keep (h : Afz T Z L st H Z' L' st' H') : ∀ {ds : List Dt} {vs : List V}, Dens L (Bad Z L st) H ds vs → Dens L' (Bad Z' L' st') H' ds vs
  | [], _, q => by unfold Dens at q ⊢; exact q
  | d :: ds, _, q => by
    obtain ⟨v, r, rfl, p, t⟩ := q.uncons
    exact .cons (Den.keep h p) (Dens.keep h t)
end
end
end HB

set_option Elab.async false
set_option linter.all false
set_option maxRecDepth 100000
set_option maxHeartbeats 1000000
/-! HB, part b: readings of the hand layer told by plain functions: Sim. -/
namespace HB
open PySem PySem.Spec PyProof.Rows L2

/-! ### changes of the heap -/
section
variable {T : List (Addr × Str)} {Z Z' B B' : Addr → Prop} {L L' : List Addr} {st st' : Sto} {H H' : Hp} {a p : Addr} {o : HO}
mutual
theorem Den.mono (hb : ∀ a, B' a → B a) : ∀ {d : Dt} {v : V}, Den L B H d v → Den L B' H d v
  | .non, _, q => by unfold Den at q ⊢; exact q
  | .bl _, _, q => by unfold Den at q ⊢; exact q
  | .int _, _, q => by unfold Den at q ⊢; exact q
  | .str _, _, q => by unfold Den at q ⊢; exact q
  | .ref _, _, q => by unfold Den at q ⊢; exact q
  | .lst ds, _, q => by
    unfold Den at q ⊢
    obtain ⟨a, vs, r, nb, e, t⟩ := q
    exact ⟨a, vs, r, fun z => nb (hb a z), e, Dens.mono hb t⟩
  | .tup ds, _, q => by
    unfold Den at q ⊢
    obtain ⟨a, vs, r, e, t⟩ := q
    exact ⟨a, vs, r, e, Dens.mono hb t⟩
  | .dic ks ds, _, q => by
    unfold Den at q ⊢
    obtain ⟨a, vs, r, nb, e, el, t⟩ := q
    exact ⟨a, vs, r, fun z => nb (hb a z), e, el, Dens.mono hb t⟩
theorem Dens.mono (hb : ∀ a, B' a → B a) : ∀ {ds : List Dt} {vs : List V}, Dens L B H ds vs → Dens L B' H ds vs
  | [], _, q => by unfold Dens at q ⊢; exact q
  | d :: ds, _, q => by
    obtain ⟨v, r, rfl, p, t⟩ := q.uncons
    exact .cons (Den.mono hb p) (Dens.mono hb t)
end
mutual
theorem Den.chg (hb : B a) (ht : ∀ xs, H a ≠ some (.tup xs)) : ∀ {d : Dt} {v : V}, Den L B H d v → Den L B (upd H a o) d v
  | .non, _, q => by unfold Den at q ⊢; exact q
  | .bl _, _, q => by unfold Den at q ⊢; exact q
  | .int _, _, q => by unfold Den at q ⊢; exact q
  | .str _, _, q => by unfold Den at q ⊢; exact q
  | .ref _, _, q => by unfold Den at q ⊢; exact q
  | .lst ds, _, q => by
    unfold Den at q ⊢
    obtain ⟨b, vs, r, nb, e, t⟩ := q
    exact ⟨b, vs, r, nb, by rw [upd_ne (fun z => nb (by rw [z]; exact hb))]; exact e, Dens.chg hb ht t⟩
  | .tup ds, _, q => by
    unfold Den at q ⊢
    obtain ⟨b, vs, r, e, t⟩ := q
    exact ⟨b, vs, r, by rw [upd_ne (fun z => ht vs (by rw [← z]; exact e))]; exact e, Dens.chg hb ht t⟩
  | .dic ks ds, _, q => by
    unfold Den at q ⊢
    obtain ⟨b, vs, r, nb, e, el, t⟩ := q
    exact ⟨b, vs, r, nb, rd_of e fun o eo => by rw [upd_ne (fun z => nb (by rw [z]; exact hb))]; exact eo, el, Dens.chg hb ht t⟩
theorem Dens.chg (hb : B a) (ht : ∀ xs, H a ≠ some (.tup xs)) : ∀ {ds : List Dt} {vs : List V}, Dens L B H ds vs → Dens L B (upd H a o) ds vs
  | [], _, q => by unfold Dens at q ⊢; exact q
  | d :: ds, _, q => by
    obtain ⟨v, r, rfl, p, t⟩ := q.uncons
    exact .cons (Den.chg hb ht p) (Dens.chg hb ht t)
end
theorem tabs_upd (ht : LamX.Tabs T H) (hn : ∀ u, H a = some u → (∃ xs, u = .lst xs) ∨ ∃ kvs, u = .dK kvs) : LamX.Tabs T (upd H a o) := by
  intro q hq
  obtain ⟨ps, h1, h2, h3⟩ := ht q hq
  have n1 : q.1 ≠ a := fun z => by
    rcases hn _ (by rw [← z]; exact h1) with ⟨xs, e⟩ | ⟨kvs, e⟩ <;> cases e
  refine ⟨ps, by rw [upd_ne n1]; exact h1, h2, fun pos cv hc => ?_⟩
  obtain ⟨c, e1, e2⟩ := h3 pos cv hc
  refine ⟨c, e1, ?_⟩
  have n2 : c ≠ a := fun z => by
    rcases hn _ (by rw [← z]; exact e2) with ⟨xs, e⟩ | ⟨kvs, e⟩ <;> (unfold LamX.CodeO at e; cases e)
  rw [upd_ne n2]; exact e2
theorem tabs_ext (ht : LamX.Tabs T H) (e : ∀ b o, H b = some o → H' b = some o) : LamX.Tabs T H' := ht.ext e
theorem Wd.notLiv (w : Wd T Z L st H) (h : H p = none) : ¬ Liv L st p := fun z => w.livTrk z h
theorem Wd.notBad (w : Wd T Z L st H) (h : H p = none) : ¬ Bad Z L st p := fun z => z.elim (fun z => w.zt p z h) (w.notLiv h)
theorem same_upd (h : H p = none) : ∀ b u, H b = some u → upd H p o b = some u := fun b u e => by
  rw [upd_ne (ne_of_none e h)]; exact e
mutual
theorem Den.stay (k : ∀ b u, H b = some u → (∀ ps, u ≠ .tbl ps) → H' b = some u) : ∀ {d : Dt} {v : V}, Den L B H d v → Den L B H' d v
  | .non, _, q => by unfold Den at q ⊢; exact q
  | .bl _, _, q => by unfold Den at q ⊢; exact q
  | .int _, _, q => by unfold Den at q ⊢; exact q
  | .str _, _, q => by unfold Den at q ⊢; exact q
  | .ref _, _, q => by unfold Den at q ⊢; exact q
  | .lst ds, _, q => by
    unfold Den at q ⊢
    obtain ⟨b, vs, r, nb, e, t⟩ := q
    exact ⟨b, vs, r, nb, k _ _ e (fun ps z => by cases z), Dens.stay k t⟩
  | .tup ds, _, q => by
    unfold Den at q ⊢
    obtain ⟨b, vs, r, e, t⟩ := q
    exact ⟨b, vs, r, k _ _ e (fun ps z => by cases z), Dens.stay k t⟩
  | .dic ks ds, _, q => by
    unfold Den at q ⊢
    obtain ⟨b, vs, r, nb, e, el, t⟩ := q
    exact ⟨b, vs, r, nb, rd_of e fun o eo => k b o eo (fun ps z => by subst z; rcases e with e | ⟨x, e⟩ <;> rw [eo] at e <;> cases e), el, Dens.stay k t⟩
theorem Dens.stay (k : ∀ b u, H b = some u → (∀ ps, u ≠ .tbl ps) → H' b = some u) : ∀ {ds : List Dt} {vs : List V}, Dens L B H ds vs → Dens L B H' ds vs
  | [], _, q => by unfold Dens at q ⊢; exact q
  | d :: ds, _, q => by
    obtain ⟨v, r, rfl, p, t⟩ := q.uncons
    exact .cons (Den.stay k p) (Dens.stay k t)
end
theorem Den.ext (k : ∀ b u, H b = some u → H' b = some u) {d : Dt} {v : V} (h : Den L B H d v) : Den L B H' d v := h.stay fun b u e _ => k b u e
theorem Dens.ext (k : ∀ b u, H b = some u → H' b = some u) {d : List Dt} {v : List V} (h : Dens L B H d v) : Dens L B H' d v := h.stay fun b u e _ => k b u e
theorem OwnAt.ext (k : ∀ b u, H b = some u → H' b = some u) {d : Dt} (h : OwnAt L B H a d) : OwnAt L B H' a d := by
  obtain ⟨o, e, t⟩ := h
  exact ⟨o, k _ _ e, t.imp fun _ _ q => q.ext k⟩
/-- more objects, nothing changed -/
theorem Wd.ext (w : Wd T Z L st H) (k : ∀ b u, H b = some u → H' b = some u) : Wd T Z L st H' :=
  ⟨w.tabs.ext k, w.len, w.inj, fun i b d h1 h2 => ⟨(w.own i b d h1 h2).1, (w.own i b d h1 h2).2.ext k⟩, fun b z e => by
    cases q : H b with
    | none => exact w.zt b z q
    | some u => rw [k b u q] at e; cases e⟩
theorem Afz.ext (w : Wd T Z L st H) (k : ∀ b u, H b = some u → H' b = some u) : Af T Z L st H L st H' :=
  ⟨w.ext k, ⟨[], by simp⟩, fun b u e _ _ => k b u e, fun _ h => .inl h, fun b n e => (by
    cases q : H b with
    | none => exact n q
    | some u => rw [k b u q] at e; cases e), fun b xs e => k b _ e, fun k a h e => absurd (List.getElem?_eq_some_iff.mp e).1 (by omega), fun a z => .inl z⟩
theorem Afz.new (w : Wd T Z L st H) (h : H p = none) : Af T Z L st H L st (upd H p o) := Afz.ext w (same_upd h)
/-- a by-value list just made -/
theorem Den.newL (w : Wd T Z L st H) (h : H p = none) {ds : List Dt} {vs : List V} (t : Dens L (Bad Z L st) H ds vs) : Den L (Bad Z L st) (upd H p (.lst vs)) (.lst ds) (.ref p) := by
  unfold Den
  exact ⟨p, vs, rfl, w.notBad h, upd_same, t.ext (same_upd h)⟩
theorem Den.newT (w : Wd T Z L st H) (h : H p = none) {ds : List Dt} {vs : List V} (t : Dens L (Bad Z L st) H ds vs) : Den L (Bad Z L st) (upd H p (.tup vs)) (.tup ds) (.ref p) := by
  unfold Den
  exact ⟨p, vs, rfl, upd_same, t.ext (same_upd h)⟩
theorem Den.newD (w : Wd T Z L st H) (h : H p = none) {ks : List Key} {ds : List Dt} {vs : List V} (hl : ks.length = vs.length) (t : Dens L (Bad Z L st) H ds vs) : Den L (Bad Z L st) (upd H p (.dK (ks.zip vs))) (.dic ks ds) (.ref p) := by
  unfold Den
  exact ⟨p, vs, rfl, w.notBad h, .inl upd_same, hl, t.ext (same_upd h)⟩
end

/-! ### one more address not to be touched -/
section
variable {T : List (Addr × Str)} {Z B : Addr → Prop} {L : List Addr} {st : Sto} {H : Hp} {a : Addr} {o : HO}
def zAnd (Z : Addr → Prop) (a : Addr) : Addr → Prop := fun b => Z b ∨ b = a
mutual
theorem Den.away (hn : H a = none) : ∀ {d : Dt} {v : V}, Den L B H d v → Den L (fun b => B b ∨ b = a) H d v
  | .non, _, q => by unfold Den at q ⊢; exact q
  | .bl _, _, q => by unfold Den at q ⊢; exact q
  | .int _, _, q => by unfold Den at q ⊢; exact q
  | .str _, _, q => by unfold Den at q ⊢; exact q
  | .ref _, _, q => by unfold Den at q ⊢; exact q
  | .lst ds, _, q => by
    unfold Den at q ⊢
    obtain ⟨b, vs, r, nb, e, t⟩ := q
    exact ⟨b, vs, r, fun z => z.elim nb (ne_of_none e hn), e, Dens.away hn t⟩
  | .tup ds, _, q => by
    unfold Den at q ⊢
    obtain ⟨b, vs, r, e, t⟩ := q
    exact ⟨b, vs, r, e, Dens.away hn t⟩
  | .dic ks ds, _, q => by
    unfold Den at q ⊢
    obtain ⟨b, vs, r, nb, e, el, t⟩ := q
    exact ⟨b, vs, r, fun z => z.elim nb (fun y => rd_ne e (by rw [y]; exact hn)), e, el, Dens.away hn t⟩
theorem Dens.away (hn : H a = none) : ∀ {ds : List Dt} {vs : List V}, Dens L B H ds vs → Dens L (fun b => B b ∨ b = a) H ds vs
  | [], _, q => by unfold Dens at q ⊢; exact q
  | d :: ds, _, q => by
    obtain ⟨v, r, rfl, p, t⟩ := q.uncons
    exact .cons (Den.away hn p) (Dens.away hn t)
end
/-- a new object that is ours alone for a while -/
theorem Afz.mine (w : Wd T Z L st H) (hn : H a = none) : Afz T Z L st H (zAnd Z a) L st (upd H a o) := by
  have hk := same_upd (o := o) hn
  refine ⟨⟨w.tabs.ext hk, w.len, w.inj, fun k b d h1 h2 => ?_, fun b z e => ?_⟩, ⟨[], by simp⟩, fun b u e _ _ => hk b u e, fun b l => .inl l, fun b n e => ?_, fun b xs e => hk b _ e, fun k b h e => absurd (List.getElem?_eq_some_iff.mp e).1 (by omega), fun b z => z.elim .inl fun y => .inr (by rw [y]; exact hn)⟩
  · obtain ⟨nz, u, eu, q⟩ := w.own k b d h1 h2
    refine ⟨fun z => z.elim nz (ne_of_none eu hn), u, hk _ _ eu, q.imp fun ds vs t => ?_⟩
    refine ((t.away hn).mono fun b z => ?_).ext hk
    rcases z with (z | z) | z
    · exact .inl (.inl z)
    · exact .inr z
    · exact .inl (.inr z)
  · rcases z with z | z
    · cases q : H b with
      | none => exact w.zt b z q
      | some u => rw [hk b u q] at e; cases e
    · rw [z, upd_same] at e; cases e
  · cases q : H b with
    | none => exact n q
    | some u => rw [hk b u q] at e; cases e
/-- what is ours alone is changed -/
theorem Wd.chg (w : Wd T Z L st H) (hz : Z a) (hn : ∀ u, H a = some u → (∃ xs, u = .lst xs) ∨ ∃ kvs, u = .dK kvs) : Wd T Z L st (upd H a o) := by
  have ht : ∀ xs, H a ≠ some (.tup xs) := fun xs e => by
    rcases hn _ e with ⟨ys, z⟩ | ⟨kvs, z⟩ <;> cases z
  refine ⟨tabs_upd w.tabs hn, w.len, w.inj, fun k b d h1 h2 => ?_, fun b z e => ?_⟩
  · obtain ⟨nz, u, eu, q⟩ := w.own k b d h1 h2
    exact ⟨nz, u, by rw [upd_ne (fun y => nz (by rw [y]; exact hz))]; exact eu, q.imp fun ds vs t => t.chg (.inl hz) ht⟩
  · by_cases hb : b = a
    · rw [hb, upd_same] at e; cases e
    · rw [upd_ne hb] at e; exact w.zt b z e
/-- it is everybody's again -/
theorem Wd.less {Z' : Addr → Prop} (w : Wd T Z' L st H) (hz : ∀ b, Z b → Z' b) : Wd T Z L st H :=
  ⟨w.tabs, w.len, w.inj, fun k b d h1 h2 => by
    obtain ⟨nz, u, eu, q⟩ := w.own k b d h1 h2
    exact ⟨fun z => nz (hz b z), u, eu, q.imp fun ds vs t => t.mono fun c z => z.elim (fun y => .inl (hz c y)) .inr⟩, fun b z => w.zt b (hz b z)⟩
end

/-! ### a live object: made, changed, left to be -/
section
variable {T : List (Addr × Str)} {Z : Addr → Prop} {L : List Addr} {st : Sto} {H : Hp} {a p : Addr} {o : HO}
theorem liv_push {x : Option Dt} (hl : L.length = st.length) : Liv (L ++ [p]) (st ++ [x]) a ↔ Liv L st a ∨ (a = p ∧ x ≠ none) := by
  constructor
  · rintro ⟨k, d, h1, h2⟩
    by_cases hk : k < L.length
    · rw [List.getElem?_append_left hk] at h1
      rw [List.getElem?_append_left (by omega)] at h2
      exact .inl ⟨k, d, h1, h2⟩
    · rw [List.getElem?_append_right (by omega)] at h1
      rw [List.getElem?_append_right (by omega)] at h2
      have e : k - L.length = 0 := by
        cases q : k - L.length with
        | zero => rfl
        | succ n => rw [q] at h1; simp at h1
      rw [e] at h1
      rw [show k - st.length = 0 by omega] at h2
      simp at h1 h2
      exact .inr ⟨h1.symm, by rw [h2]; simp⟩
  · rintro (⟨k, d, h1, h2⟩ | ⟨rfl, hx⟩)
    · exact ⟨k, d, by rw [List.getElem?_append_left (List.getElem?_eq_some_iff.mp h1).1]; exact h1, by rw [List.getElem?_append_left (List.getElem?_eq_some_iff.mp h2).1]; exact h2⟩
    · cases x with
      | none => exact absurd rfl hx
      | some d => exact ⟨L.length, d, by simp, by rw [hl]; simp⟩
mutual
theorem Den.push {B B' : Addr → Prop} (hb : ∀ b, B' b → H b ≠ none → B b) : ∀ {d : Dt} {v : V}, Den L B H d v → Den (L ++ [p]) B' H d v
  | .non, _, q => by unfold Den at q ⊢; exact q
  | .bl _, _, q => by unfold Den at q ⊢; exact q
  | .int _, _, q => by unfold Den at q ⊢; exact q
  | .str _, _, q => by unfold Den at q ⊢; exact q
  | .ref k, _, q => by
    unfold Den at q ⊢
    obtain ⟨a, e, r⟩ := q
    exact ⟨a, by rw [List.getElem?_append_left (List.getElem?_eq_some_iff.mp e).1]; exact e, r⟩
  | .lst ds, _, q => by
    unfold Den at q ⊢
    obtain ⟨a, vs, r, nb, e, t⟩ := q
    exact ⟨a, vs, r, fun z => nb (hb a z (by rw [e]; simp)), e, Dens.push hb t⟩
  | .tup ds, _, q => by
    unfold Den at q ⊢
    obtain ⟨a, vs, r, e, t⟩ := q
    exact ⟨a, vs, r, e, Dens.push hb t⟩
  | .dic ks ds, _, q => by
    unfold Den at q ⊢
    obtain ⟨a, vs, r, nb, e, el, t⟩ := q
    exact ⟨a, vs, r, fun z => nb (hb a z (rd_ne e)), e, el, Dens.push hb t⟩
theorem Dens.push {B B' : Addr → Prop} (hb : ∀ b, B' b → H b ≠ none → B b) : ∀ {ds : List Dt} {vs : List V}, Dens L B H ds vs → Dens (L ++ [p]) B' H ds vs
  | [], _, q => by unfold Dens at q ⊢; exact q
  | d :: ds, _, q => by
    obtain ⟨v, r, rfl, a, t⟩ := q.uncons
    exact .cons (Den.push hb a) (Dens.push hb t)
end
/-- a new live object -/
theorem Afz.newR (w : Wd T Z L st H) (h : H p = none) {d : Dt} (hd : OwnO L (Bad Z L st) H o d) : Af T Z L st H (L ++ [p]) (st ++ [some d]) (upd H p o) := by
  have hk := same_upd (o := o) h
  have hb : ∀ b, Bad Z (L ++ [p]) (st ++ [some d]) b → H b ≠ none → Bad Z L st b := fun b z n => by
    rcases z with z | z
    · exact .inl z
    · rcases (liv_push w.len).mp z with z | ⟨rfl, _⟩
      · exact .inr z
      · exact absurd h n
  have tr : ∀ ds vs, Dens L (Bad Z L st) H ds vs → Dens (L ++ [p]) (Bad Z (L ++ [p]) (st ++ [some d])) (upd H p o) ds vs := fun ds vs q => (Dens.push hb q).ext hk
  have get : ∀ (k : Nat) (b : Addr) (e : Dt), (L ++ [p])[k]? = some b → (st ++ [some d])[k]? = some (some e) → (k < L.length ∧ L[k]? = some b ∧ st[k]? = some (some e)) ∨ (k = L.length ∧ b = p ∧ e = d) := by
    intro k b e h1 h2
    have hl := w.len
    by_cases hk : k < L.length
    · rw [List.getElem?_append_left hk] at h1
      rw [List.getElem?_append_left (by omega)] at h2
      exact .inl ⟨hk, h1, h2⟩
    · have hk2 : k = L.length := by
        have := (List.getElem?_eq_some_iff.mp h1).1
        simp at this
        omega
      subst hk2
      simp at h1
      rw [hl] at h2
      simp at h2
      exact .inr ⟨rfl, h1.symm, h2.symm⟩
  refine ⟨⟨w.tabs.ext hk, by simp [w.len], fun i j b x y h1 h2 h3 h4 => ?_, fun k b e h1 h2 => ?_, fun b z e => ?_⟩, ⟨[p], rfl⟩, fun b u e _ _ => hk b u e, fun b l => ?_, fun b n e => ?_, fun b xs e => hk b _ e, fun k b hl e => ?_, fun a z => .inl z⟩
  · rcases get i b x h1 h3 with ⟨_, a1, a2⟩ | ⟨i1, i2, _⟩ <;> rcases get j b y h2 h4 with ⟨_, b1, b2⟩ | ⟨j1, j2, _⟩
    · exact w.inj i j b x y a1 b1 a2 b2
    · exact absurd h (by rw [← j2]; exact w.livTrk ⟨i, x, a1, a2⟩)
    · exact absurd h (by rw [← i2]; exact w.livTrk ⟨j, y, b1, b2⟩)
    · omega
  · rcases get k b e h1 h2 with ⟨_, a1, a2⟩ | ⟨_, rfl, rfl⟩
    · obtain ⟨nz, u, eu, q⟩ := w.own k b e a1 a2
      exact ⟨nz, u, hk _ _ eu, q.imp tr⟩
    · exact ⟨fun z => w.zt b z h, o, upd_same, hd.imp tr⟩
  · cases q : H b with
    | none => exact w.zt b z q
    | some u => rw [hk b u q] at e; cases e
  · rcases (liv_push w.len).mp l with z | ⟨rfl, _⟩
    · exact .inl z
    · exact .inr h
  · cases q : H b with
    | none => exact n q
    | some u => rw [hk b u q] at e; cases e
  · have e2 : k = L.length := by
      have := (List.getElem?_eq_some_iff.mp e).1
      simp at this
      omega
    subst e2
    simp at e
    rw [← e]; exact h
/-- a live object is changed -/
theorem Afz.wr (w : Wd T Z L st H) {k : Nat} {d d' : Dt} (h1 : L[k]? = some a) (h2 : st[k]? = some (some d)) (hd : OwnO L (Bad Z L st) H o d') : Af T Z L st H L (st.set k (some d')) (upd H a o) := by
  have hlt : k < st.length := (List.getElem?_eq_some_iff.mp h2).1
  have la : Liv L st a := ⟨k, d, h1, h2⟩
  obtain ⟨nz, oa, ea, qa⟩ := w.own k a d h1 h2
  have tk : ∀ xs, H a ≠ some (.tup xs) := fun xs z => by
    rw [ea] at z
    rcases qa.kind with ⟨ys, e⟩ | ⟨kvs, e⟩ <;> (rw [e] at z; cases z)
  have liv : ∀ b, Liv L (st.set k (some d')) b ↔ Liv L st b := fun b => by
    constructor
    · rintro ⟨j, e, a1, a2⟩
      by_cases hj : k = j
      · subst hj
        rw [h1] at a1; cases a1
        exact la
      · rw [List.getElem?_set_ne hj] at a2
        exact ⟨j, e, a1, a2⟩
    · rintro ⟨j, e, a1, a2⟩
      by_cases hj : k = j
      · subst hj
        exact ⟨k, d', a1, List.getElem?_set_self hlt⟩
      · exact ⟨j, e, a1, by rw [List.getElem?_set_ne hj]; exact a2⟩
  have eb : Bad Z L (st.set k (some d')) = Bad Z L st := by
    funext b
    unfold Bad
    rw [propext (liv b)]
  have tr : ∀ ds vs, Dens L (Bad Z L st) H ds vs → Dens L (Bad Z L (st.set k (some d'))) (upd H a o) ds vs := fun ds vs q => by
    rw [eb]
    exact Dens.chg (.inr la) tk q
  refine ⟨⟨tabs_upd w.tabs fun u e => by rw [ea] at e; cases e; exact qa.kind, by rw [List.length_set]; exact w.len, fun i j b x y a1 a2 a3 a4 => ?_, fun j b e a1 a2 => ?_, fun b z e => ?_⟩, ⟨[], by simp⟩, fun b u e nl _ => ?_, fun b l => .inl ((liv b).mp l), fun b n e => ?_, fun b xs e => ?_, fun k b h e => absurd (List.getElem?_eq_some_iff.mp e).1 (by omega), fun a z => .inl z⟩
  · have f : ∀ (i : Nat) x, L[i]? = some b → (st.set k (some d'))[i]? = some (some x) → ∃ x', st[i]? = some (some x') := fun i x c1 c2 => by
      by_cases hj : k = i
      · subst hj; exact ⟨d, h2⟩
      · rw [List.getElem?_set_ne hj] at c2; exact ⟨x, c2⟩
    obtain ⟨x', c1⟩ := f i x a1 a3
    obtain ⟨y', c2⟩ := f j y a2 a4
    exact w.inj i j b x' y' a1 a2 c1 c2
  · by_cases hj : k = j
    · subst hj
      rw [h1] at a1; cases a1
      rw [List.getElem?_set_self hlt] at a2
      cases a2
      exact ⟨nz, o, upd_same, hd.imp tr⟩
    · rw [List.getElem?_set_ne hj] at a2
      obtain ⟨nz', u, eu, q⟩ := w.own j b e a1 a2
      have nb : b ≠ a := fun z => by
        subst z
        exact hj (w.inj k j b d e h1 a1 h2 a2)
      exact ⟨nz', u, by rw [upd_ne nb]; exact eu, q.imp tr⟩
  · have nb : b ≠ a := fun y => nz (by rw [← y]; exact z)
    rw [upd_ne nb] at e
    exact w.zt b z e
  · have nb : b ≠ a := fun y => nl (by rw [y]; exact la)
    rw [upd_ne nb]; exact e
  · by_cases hb : b = a
    · rw [hb, upd_same] at e; cases e
    · rw [upd_ne hb] at e; exact n e
  · have nb : b ≠ a := fun y => tk xs (by rw [← y]; exact e)
    rw [upd_ne nb]; exact e
/-- a live object is left to be: from now on it is read by value -/
theorem Wd.frz (w : Wd T Z L st H) {k : Nat} {d : Dt} (h1 : L[k]? = some a) (h2 : st[k]? = some (some d)) : Af T Z L st H L (st.set k none) H ∧ Den L (Bad Z L (st.set k none)) H d (.ref a) := by
  have liv : ∀ b, Liv L (st.set k none) b → Liv L st b ∧ b ≠ a := fun b => by
    rintro ⟨j, e, a1, a2⟩
    by_cases hj : k = j
    · subst hj
      rw [List.getElem?_set] at a2
      rw [if_pos rfl] at a2
      split at a2 <;> cases a2
    · rw [List.getElem?_set_ne hj] at a2
      refine ⟨⟨j, e, a1, a2⟩, fun z => hj ?_⟩
      subst z
      exact w.inj k j b d e h1 a1 h2 a2
  have hb : ∀ b, Bad Z L (st.set k none) b → Bad Z L st b := fun b z => z.elim .inl fun z => .inr (liv b z).1
  have tr : ∀ ds vs, Dens L (Bad Z L st) H ds vs → Dens L (Bad Z L (st.set k none)) H ds vs := fun ds vs q => q.mono hb
  refine ⟨⟨⟨w.tabs, by rw [List.length_set]; exact w.len, fun i j b x y a1 a2 a3 a4 => ?_, fun j b e a1 a2 => ?_, w.zt⟩, ⟨[], by simp⟩, fun b u e _ _ => e, fun b l => .inl (liv b l).1, fun b n => n, fun b xs e => e, fun k b h e => absurd (List.getElem?_eq_some_iff.mp e).1 (by omega), fun a z => .inl z⟩, ?_⟩
  · have f : ∀ (i : Nat) x, (st.set k none)[i]? = some (some x) → st[i]? = some (some x) := fun i x c => by
      by_cases hj : k = i
      · subst hj
        rw [List.getElem?_set, if_pos rfl] at c
        split at c <;> cases c
      · rw [List.getElem?_set_ne hj] at c; exact c
    exact w.inj i j b x y a1 a2 (f i x a3) (f j y a4)
  · by_cases hj : k = j
    · subst hj
      rw [List.getElem?_set, if_pos rfl] at a2
      split at a2 <;> cases a2
    · rw [List.getElem?_set_ne hj] at a2
      obtain ⟨nz', u, eu, q⟩ := w.own j b e a1 a2
      exact ⟨nz', u, eu, q.imp tr⟩
  · obtain ⟨nz, oa, ea, qa⟩ := w.own k a d h1 h2
    have nb : ¬ Bad Z L (st.set k none) a := fun z => z.elim nz fun z => (liv a z).2 rfl
    cases d with
    | lst ds =>
      obtain ⟨vs, rfl, t⟩ := qa
      unfold Den
      exact ⟨a, vs, rfl, nb, ea, tr _ _ t⟩
    | dic ks ds =>
      obtain ⟨vs, rfl, el, t⟩ := qa
      unfold Den
      exact ⟨a, vs, rfl, nb, .inl ea, el, tr _ _ t⟩
    | _ => exact False.elim qa
end
end HB

set_option Elab.async false
set_option linter.all false
set_option maxRecDepth 100000
set_option maxHeartbeats 1000000
/-! HB, part c: the readings of expressions, tests, arguments, statements told by plain functions. -/
namespace HB
open PySem PySem.Spec PyProof.Rows L2

abbrev Evr := List (Option Dt)
def EnvOk (L : List Addr) (B : Addr → Prop) (H : Hp) (r : Evr) (s : L2.St) : Prop := r.length = s.length ∧ ∀ (i : Nat) (d : Dt), r[i]? = some (some d) → ∃ v, s[i]? = some (some v) ∧ Den L B H d v
abbrev SE := Evr → Sto → Option (Dt × Sto)
abbrev ST := Evr → Sto → Option (Bool × Sto)
abbrev SA := Evr → Sto → Option (List Dt × Sto)
inductive Ou where
  | nx (r : Evr) (st : Sto) | rt (d : Dt) (st : Sto) | bk (r : Evr) (st : Sto) | ct (r : Evr) (st : Sto)
abbrev SS := Evr → Sto → Option Ou

def SimE (T : List (Addr × Str)) (t : TE) (f : SE) : Prop := ∀ Z L st H s r d st' (Q : VK), Wd T Z L st H → EnvOk L (Bad Z L st) H r s → f r st = some (d, st') →
  (∀ v H' L', Af T Z L st H L' st' H' → Den L' (Bad Z L' st') H' d v → Q v H') → t s H Q
def SimT (T : List (Addr × Str)) (t : TT) (f : ST) : Prop := ∀ Z L st H s r b st' (Q : Bool → Hp → Prop), Wd T Z L st H → EnvOk L (Bad Z L st) H r s → f r st = some (b, st') →
  (∀ H' L', Af T Z L st H L' st' H' → Q b H') → t s H Q
def SimA (T : List (Addr × Str)) (t : TA) (f : SA) : Prop := ∀ Z L st H s r ds st' (Q : List V → Hp → Prop), Wd T Z L st H → EnvOk L (Bad Z L st) H r s → f r st = some (ds, st') →
  (∀ vs H' L', Af T Z L st H L' st' H' → Dens L' (Bad Z L' st') H' ds vs → Q vs H') → t s H Q
def OuOk (T : List (Addr × Str)) (Z : Addr → Prop) (L : List Addr) (st : Sto) (H : Hp) (D : Ends) : Ou → Prop
  | .nx r st' => ∀ s H' L', Af T Z L st H L' st' H' → EnvOk L' (Bad Z L' st') H' r s → D.nx s H'
  | .rt d st' => ∀ v H' L', Af T Z L st H L' st' H' → Den L' (Bad Z L' st') H' d v → D.rt v H'
  | .bk r st' => ∀ s H' L', Af T Z L st H L' st' H' → EnvOk L' (Bad Z L' st') H' r s → D.bk s H'
  | .ct r st' => ∀ s H' L', Af T Z L st H L' st' H' → EnvOk L' (Bad Z L' st') H' r s → D.ct s H'
def SimS (T : List (Addr × Str)) (t : TS) (g : SS) : Prop := ∀ Z L st H s r o D, Wd T Z L st H → EnvOk L (Bad Z L st) H r s → g r st = some o → OuOk T Z L st H D o → t D s H
/-- operators, calls, methods by values -/
def VO2 (T : List (Addr × Str)) (r : R2) (g : Sto → Dt → Dt → Option (Dt × Sto)) : Prop := ∀ Z L st H x y dx dy d st' (Q : VK), Wd T Z L st H → Den L (Bad Z L st) H dx x → Den L (Bad Z L st) H dy y → g st dx dy = some (d, st') →
  (∀ v H' L', Af T Z L st H L' st' H' → Den L' (Bad Z L' st') H' d v → Q v H') → r x y H Q
def VON (T : List (Addr × Str)) (r : List V → Hp → VK → Prop) (g : Sto → List Dt → Option (Dt × Sto)) : Prop := ∀ Z L st H xs dxs d st' (Q : VK), Wd T Z L st H → Dens L (Bad Z L st) H dxs xs → g st dxs = some (d, st') →
  (∀ v H' L', Af T Z L st H L' st' H' → Den L' (Bad Z L' st') H' d v → Q v H') → r xs H Q
def VOM (T : List (Addr × Str)) (r : V → List V → Hp → VK → Prop) (g : Sto → Dt → List Dt → Option (Dt × Sto)) : Prop := ∀ Z L st H x xs dx dxs d st' (Q : VK), Wd T Z L st H → Den L (Bad Z L st) H dx x → Dens L (Bad Z L st) H dxs xs → g st dx dxs = some (d, st') →
  (∀ v H' L', Af T Z L st H L' st' H' → Den L' (Bad Z L' st') H' d v → Q v H') → r x xs H Q

section
variable {T : List (Addr × Str)} {Z : Addr → Prop} {L L' : List Addr} {st st' : Sto} {H H' : Hp} {r : Evr} {s : L2.St}
theorem EnvOk.keep {Z' : Addr → Prop} (h : Afz T Z L st H Z' L' st' H') (e : EnvOk L (Bad Z L st) H r s) : EnvOk L' (Bad Z' L' st') H' r s :=
  ⟨e.1, fun i d q => by obtain ⟨v, h1, h2⟩ := e.2 i d q; exact ⟨v, h1, h2.keep h⟩⟩
theorem EnvOk.set {B : Addr → Prop} {d : Dt} {v : V} (e : EnvOk L B H r s) (i : Nat) (q : Den L B H d v) : EnvOk L B H (r.set i (some d)) (s.set i (some v)) := by
  refine ⟨by rw [List.length_set, List.length_set]; exact e.1, fun j d' h => ?_⟩
  by_cases hj : i = j
  · subst hj
    by_cases hi : i < r.length
    · rw [List.getElem?_set_self hi] at h
      cases h
      exact ⟨v, List.getElem?_set_self (by rw [← e.1]; exact hi), q⟩
    · rw [List.getElem?_eq_none (by rw [List.length_set]; omega)] at h; cases h
  · rw [List.getElem?_set_ne hj] at h
    obtain ⟨u, h1, h2⟩ := e.2 j d' h
    exact ⟨u, by rw [List.getElem?_set_ne hj]; exact h1, h2⟩
end

/-! ### expressions -/
def eVar (i : Nat) : SE := fun r st => match r[i]? with
  | some (some d) => some (d, st)
  | _ => none
def eC (d : Dt) : SE := fun _ st => some (d, st)
def eOp2 (g : Sto → Dt → Dt → Option (Dt × Sto)) (fa fb : SE) : SE := fun r st => (fa r st).bind fun x => (fb r x.2).bind fun y => g y.2 x.1 y.1
def aNil : SA := fun _ st => some ([], st)
def aCons (fa : SE) (fr : SA) : SA := fun r st => (fa r st).bind fun x => (fr r x.2).bind fun y => some (x.1 :: y.1, y.2)
def eN (g : Sto → List Dt → Option (Dt × Sto)) (fa : SA) : SE := fun r st => (fa r st).bind fun x => g x.2 x.1
def eIf (c : ST) (fa fb : SE) : SE := fun r st => (c r st).bind fun b => if b.1 = true then fa r b.2 else fb r b.2
def eChain (g g' : Sto → Dt → Dt → Option (Dt × Sto)) (fa fb fc : SE) : SE := fun r st => (fa r st).bind fun x => (fb r x.2).bind fun y => (g y.2 x.1 y.1).bind fun z => match z.1 with
  | .bl true => (fc r z.2).bind fun w => g' w.2 y.1 w.1
  | .bl false => some (.bl false, z.2)
  | _ => none
def eAndV (fa fb : SE) : SE := fun r st => (fa r st).bind fun x => match x.1 with
  | .bl true => fb r x.2
  | .bl false => some (.bl false, x.2)
  | _ => none
def eOrV (fa fb : SE) : SE := fun r st => (fa r st).bind fun x => match x.1 with
  | .bl false => fb r x.2
  | .bl true => some (.bl true, x.2)
  | _ => none
def eNotV (fa : SE) : SE := fun r st => (fa r st).bind fun x => match x.1 with
  | .bl b => some (.bl (!b), x.2)
  | _ => none
def cB (fa : SE) : ST := fun r st => (fa r st).bind fun x => match x.1 with
  | .bl b => some (b, x.2)
  | _ => none
def cAnd (c e : ST) : ST := fun r st => (c r st).bind fun b => if b.1 = true then e r b.2 else some (false, b.2)
def cOr (c e : ST) : ST := fun r st => (c r st).bind fun b => if b.1 = true then some (true, b.2) else e r b.2
def cNot (c : ST) : ST := fun r st => (c r st).bind fun b => some (!b.1, b.2)
def cYes : ST := fun _ st => some (true, st)

theorem bind_some' {α β : Type} {x : Option α} {f : α → Option β} {b : β} (h : x.bind f = some b) : ∃ a, x = some a ∧ f a = some b := by
  cases x with
  | none => cases h
  | some a => exact ⟨a, rfl, h⟩
section
variable {T : List (Addr × Str)} {ta tb tc : TE} {fa fb fc : SE}
theorem sim_var {i : Nat} : SimE T (tVar i) (eVar i) := by
  intro Z L st H s r d st' Q w e h q
  unfold eVar at h
  split at h
  · rename_i d' hd
    cases h
    obtain ⟨v, h1, h2⟩ := e.2 i _ hd
    exact ⟨v, h1, q v H L (.refl w) h2⟩
  · cases h
theorem sim_C {d : Dt} {v : V} (hd : ∀ L B H, Den L B H d v) : SimE T (tC v) (eC d) := by
  intro Z L st H s r d' st' Q w e h q
  cases h
  exact q v H L (.refl w) (hd _ _ _)
theorem sim_int {i : Int} : SimE T (tC (.int i)) (eC (.int i)) := sim_C fun _ _ _ => by unfold Den; rfl
theorem sim_str {x : Str} : SimE T (tC (.str x)) (eC (.str x)) := sim_C fun _ _ _ => by unfold Den; rfl
theorem sim_bl {b : Bool} : SimE T (tC (.bl b)) (eC (.bl b)) := sim_C fun _ _ _ => by unfold Den; rfl
theorem sim_non : SimE T (tC .non) (eC .non) := sim_C fun _ _ _ => by unfold Den; rfl
theorem sim_op {r : R2} {g : Sto → Dt → Dt → Option (Dt × Sto)} (ha : SimE T ta fa) (hb : SimE T tb fb) (ho : VO2 T r g) : SimE T (tOp r ta tb) (eOp2 g fa fb) := by
  intro Z L st H s rr d st' Q w e h q
  obtain ⟨⟨dx, st1⟩, h1, h⟩ := bind_some' h
  obtain ⟨⟨dy, st2⟩, h2, h⟩ := bind_some' h
  refine ha Z L st H s rr dx st1 _ w e h1 fun x H1 L1 f1 p1 => ?_
  refine hb Z L1 st1 H1 s rr dy st2 _ f1.wd (e.keep f1) h2 fun y H2 L2 f2 p2 => ?_
  exact ho Z L2 st2 H2 x y dx dy d st' Q f2.wd (p1.keep f2) p2 h fun v H3 L3 f3 p3 => q v H3 L3 (f1.trans (f2.trans f3)) p3
theorem sim_nil : SimA T tNil aNil := by
  intro Z L st H s r d st' Q w e h q
  cases h
  exact q [] H L (.refl w) .nil
theorem sim_cons {tr : TA} {fr : SA} (ha : SimE T ta fa) (hr : SimA T tr fr) : SimA T (tCons ta tr) (aCons fa fr) := by
  intro Z L st H s rr d st' Q w e h q
  obtain ⟨⟨dx, st1⟩, h1, h⟩ := bind_some' h
  obtain ⟨⟨dy, st2⟩, h2, h⟩ := bind_some' h
  cases h
  refine ha Z L st H s rr dx st1 _ w e h1 fun x H1 L1 f1 p1 => ?_
  refine hr Z L1 st1 H1 s rr dy st2 _ f1.wd (e.keep f1) h2 fun y H2 L2 f2 p2 => ?_
  exact q _ H2 L2 (f1.trans f2) (.cons (p1.keep f2) p2)
theorem sim_N {t : TA} {f : SA} {r : List V → Hp → VK → Prop} {g : Sto → List Dt → Option (Dt × Sto)} (ha : SimA T t f) (ho : VON T r g) : SimE T (tCB r t) (eN g f) := by
  intro Z L st H s rr d st' Q w e h q
  obtain ⟨⟨dx, st1⟩, h1, h⟩ := bind_some' h
  refine ha Z L st H s rr dx st1 _ w e h1 fun x H1 L1 f1 p1 => ?_
  exact ho Z L1 st1 H1 x dx d st' Q f1.wd p1 h fun v H3 L3 f3 p3 => q v H3 L3 (f1.trans f3) p3
theorem sim_if {t : TT} {c : ST} (hc : SimT T t c) (ha : SimE T ta fa) (hb : SimE T tb fb) : SimE T (tIf t ta tb) (eIf c fa fb) := by
  intro Z L st H s rr d st' Q w e h q
  obtain ⟨⟨b, st1⟩, h1, h⟩ := bind_some' h
  refine hc Z L st H s rr b st1 _ w e h1 fun H1 L1 f1 => ?_
  cases b with
  | true => exact ha Z L1 st1 H1 s rr d st' Q f1.wd (e.keep f1) h fun v H3 L3 f3 p3 => q v H3 L3 (f1.trans f3) p3
  | false => exact hb Z L1 st1 H1 s rr d st' Q f1.wd (e.keep f1) h fun v H3 L3 f3 p3 => q v H3 L3 (f1.trans f3) p3
theorem den_bl {L : List Addr} {B : Addr → Prop} {H : Hp} {b : Bool} {v : V} (h : Den L B H (.bl b) v) : v = .bl b := by unfold Den at h; exact h
theorem den_int {L : List Addr} {B : Addr → Prop} {H : Hp} {b : Int} {v : V} (h : Den L B H (.int b) v) : v = .int b := by unfold Den at h; exact h
theorem den_str {L : List Addr} {B : Addr → Prop} {H : Hp} {b : Str} {v : V} (h : Den L B H (.str b) v) : v = .str b := by unfold Den at h; exact h
theorem den_non {L : List Addr} {B : Addr → Prop} {H : Hp} {v : V} (h : Den L B H .non v) : v = .non := by unfold Den at h; exact h
theorem Den.int {L : List Addr} {B : Addr → Prop} {H : Hp} {i : Int} : Den L B H (.int i) (.int i) := by unfold Den; rfl
theorem Den.str {L : List Addr} {B : Addr → Prop} {H : Hp} {i : Str} : Den L B H (.str i) (.str i) := by unfold Den; rfl
theorem Den.bl {L : List Addr} {B : Addr → Prop} {H : Hp} {i : Bool} : Den L B H (.bl i) (.bl i) := by unfold Den; rfl
theorem Den.non {L : List Addr} {B : Addr → Prop} {H : Hp} : Den L B H .non .non := by unfold Den; rfl
theorem sim_chain {r r' : R2} {g g' : Sto → Dt → Dt → Option (Dt × Sto)} (ho : VO2 T r g) (ho' : VO2 T r' g') (ha : SimE T ta fa) (hb : SimE T tb fb) (hc : SimE T tc fc) : SimE T (tChain r r' ta tb tc) (eChain g g' fa fb fc) := by
  intro Z L st H s rr d st' Q w e h q
  obtain ⟨⟨dx, st1⟩, h1, h⟩ := bind_some' h
  obtain ⟨⟨dy, st2⟩, h2, h⟩ := bind_some' h
  obtain ⟨⟨dz, st3⟩, h3, h⟩ := bind_some' h
  refine ha Z L st H s rr dx st1 _ w e h1 fun x H1 L1 f1 p1 => ?_
  refine hb Z L1 st1 H1 s rr dy st2 _ f1.wd (e.keep f1) h2 fun y H2 L2 f2 p2 => ?_
  refine ho Z L2 st2 H2 x y dx dy dz st3 _ f2.wd (p1.keep f2) p2 h3 fun v H3 L3 f3 p3 => ?_
  cases dz with
  | bl b =>
    refine ⟨b, den_bl p3, ?_⟩
    cases b with
    | false =>
      cases h
      exact iteF (q _ H3 L3 (f1.trans (f2.trans f3)) Den.bl)
    | true =>
      obtain ⟨⟨dw, st4⟩, h4, h⟩ := bind_some' h
      refine iteT (hc Z L3 st3 H3 s rr dw st4 _ f3.wd (((e.keep f1).keep f2).keep f3) h4 fun u H4 L4 f4 p4 => ?_)
      exact ho' Z L4 st4 H4 y u dy dw d st' Q f4.wd ((p2.keep f3).keep f4) p4 h fun v H5 L5 f5 p5 => q v H5 L5 (f1.trans (f2.trans (f3.trans (f4.trans f5)))) p5
  | _ => cases h
theorem sim_andV (ha : SimE T ta fa) (hb : SimE T tb fb) : SimE T (tAndV ta tb) (eAndV fa fb) := by
  intro Z L st H s rr d st' Q w e h q
  obtain ⟨⟨dx, st1⟩, h1, h⟩ := bind_some' h
  refine ha Z L st H s rr dx st1 _ w e h1 fun x H1 L1 f1 p1 => ?_
  cases dx with
  | bl b =>
    refine ⟨b, den_bl p1, ?_⟩
    cases b with
    | false => cases h; exact iteF (q _ H1 L1 f1 Den.bl)
    | true => exact iteT (hb Z L1 st1 H1 s rr d st' Q f1.wd (e.keep f1) h fun v H3 L3 f3 p3 => q v H3 L3 (f1.trans f3) p3)
  | _ => cases h
theorem sim_orV (ha : SimE T ta fa) (hb : SimE T tb fb) : SimE T (tOrV ta tb) (eOrV fa fb) := by
  intro Z L st H s rr d st' Q w e h q
  obtain ⟨⟨dx, st1⟩, h1, h⟩ := bind_some' h
  refine ha Z L st H s rr dx st1 _ w e h1 fun x H1 L1 f1 p1 => ?_
  cases dx with
  | bl b =>
    refine ⟨b, den_bl p1, ?_⟩
    cases b with
    | true => cases h; exact iteT (q _ H1 L1 f1 Den.bl)
    | false => exact iteF (hb Z L1 st1 H1 s rr d st' Q f1.wd (e.keep f1) h fun v H3 L3 f3 p3 => q v H3 L3 (f1.trans f3) p3)
  | _ => cases h
theorem sim_notV (ha : SimE T ta fa) : SimE T (tNotV ta) (eNotV fa) := by
  intro Z L st H s rr d st' Q w e h q
  obtain ⟨⟨dx, st1⟩, h1, h⟩ := bind_some' h
  refine ha Z L st H s rr dx st1 _ w e h1 fun x H1 L1 f1 p1 => ?_
  cases dx with
  | bl b => cases h; exact ⟨b, den_bl p1, q _ H1 L1 f1 Den.bl⟩
  | _ => cases h
theorem sim_cB (ha : SimE T ta fa) : SimT T (tB ta) (cB fa) := by
  intro Z L st H s rr d st' Q w e h q
  obtain ⟨⟨dx, st1⟩, h1, h⟩ := bind_some' h
  refine ha Z L st H s rr dx st1 _ w e h1 fun x H1 L1 f1 p1 => ?_
  cases dx with
  | bl b => cases h; exact ⟨_, den_bl p1, q H1 L1 f1⟩
  | _ => cases h
theorem sim_cBT (ha : SimE T ta fa) : SimT T (tTest ta) (cB fa) := sim_cB ha
theorem sim_and {t u : TT} {c e : ST} (hc : SimT T t c) (he : SimT T u e) : SimT T (tAnd t u) (cAnd c e) := by
  intro Z L st H s rr d st' Q w ev h q
  obtain ⟨⟨b, st1⟩, h1, h⟩ := bind_some' h
  refine hc Z L st H s rr b st1 _ w ev h1 fun H1 L1 f1 => ?_
  cases b with
  | true => exact iteT (he Z L1 st1 H1 s rr d st' Q f1.wd (ev.keep f1) h fun H3 L3 f3 => q H3 L3 (f1.trans f3))
  | false => cases h; exact iteF (q H1 L1 f1)
theorem sim_or {t u : TT} {c e : ST} (hc : SimT T t c) (he : SimT T u e) : SimT T (tOr t u) (cOr c e) := by
  intro Z L st H s rr d st' Q w ev h q
  obtain ⟨⟨b, st1⟩, h1, h⟩ := bind_some' h
  refine hc Z L st H s rr b st1 _ w ev h1 fun H1 L1 f1 => ?_
  cases b with
  | true => cases h; exact iteT (q H1 L1 f1)
  | false => exact iteF (he Z L1 st1 H1 s rr d st' Q f1.wd (ev.keep f1) h fun H3 L3 f3 => q H3 L3 (f1.trans f3))
theorem sim_not {t : TT} {c : ST} (hc : SimT T t c) : SimT T (tNot t) (cNot c) := by
  intro Z L st H s rr d st' Q w ev h q
  obtain ⟨⟨b, st1⟩, h1, h⟩ := bind_some' h
  cases h
  exact hc Z L st H s rr b st1 _ w ev h1 fun H1 L1 f1 => q H1 L1 f1
theorem sim_yes : SimT T tYes cYes := by
  intro Z L st H s rr d st' Q w ev h q
  cases h
  exact q H L (.refl w)
end

/-! ### statements -/
def sNx : SS := fun r st => some (.nx r st)
def sBk : SS := fun r st => some (.bk r st)
def sCt : SS := fun r st => some (.ct r st)
def sRet (f : SE) : SS := fun r st => (f r st).bind fun x => some (.rt x.1 x.2)
def sRetN : SS := fun _ st => some (.rt .non st)
def sEx (f : SE) : SS := fun r st => (f r st).bind fun x => some (.nx r x.2)
def sSet (i : Nat) (f : SE) : SS := fun r st => (f r st).bind fun x => some (.nx (r.set i (some x.1)) x.2)
def sSeq (g k : SS) : SS := fun r st => (g r st).bind fun o => match o with
  | .nx r' st' => k r' st'
  | o => some o
def sIf (c : ST) (g k : SS) : SS := fun r st => (c r st).bind fun b => if b.1 = true then g r b.2 else k r b.2
def sNo : SS := fun _ _ => none
def sWh (c : ST) (g : SS) : Nat → SS
  | 0 => fun _ _ => none
  | n + 1 => fun r st => (c r st).bind fun b => if b.1 = true then (g r b.2).bind fun o => match o with
      | .nx r' st' => sWh c g n r' st'
      | .ct r' st' => sWh c g n r' st'
      | .bk r' st' => some (.nx r' st')
      | .rt d st' => some (.rt d st')
    else some (.nx r b.2)
/-- an object in the slot i is left to be -/
def sFrz (i : Nat) : SS := fun r st => match r[i]? with
  | some (some (.ref k)) => (match st[k]? with
    | some (some d) => some (.nx (r.set i (some d)) (st.set k none))
    | _ => none)
  | _ => none
section
variable {T : List (Addr × Str)} {ta tb tc : TE} {fa fb fc : SE}
theorem OuOk.after {Z : Addr → Prop} {L L1 : List Addr} {st st1 : Sto} {H H1 : Hp} {D : Ends} {o : Ou} (f : Af T Z L st H L1 st1 H1) (h : OuOk T Z L st H D o) : OuOk T Z L1 st1 H1 D o := by
  cases o with
  | nx r st' => exact fun s H' L' g e => h s H' L' (f.trans g) e
  | rt d st' => exact fun s H' L' g e => h s H' L' (f.trans g) e
  | bk r st' => exact fun s H' L' g e => h s H' L' (f.trans g) e
  | ct r st' => exact fun s H' L' g e => h s H' L' (f.trans g) e
theorem sim_nx : SimS T tNext sNx := by
  intro Z L st H s r o D w e h q
  cases h
  exact q s H L (.refl w) e
theorem sim_break : SimS T tBreak sBk := by
  intro Z L st H s r o D w e h q
  cases h
  exact q s H L (.refl w) e
theorem sim_cont : SimS T tCont sCt := by
  intro Z L st H s r o D w e h q
  cases h
  exact q s H L (.refl w) e
theorem sim_never : SimS T tNever sNo := by
  intro Z L st H s r o D w e h q
  cases h
theorem sim_ret (ha : SimE T ta fa) : SimS T (tRet ta) (sRet fa) := by
  intro Z L st H s r o D w e h q
  obtain ⟨⟨dx, st1⟩, h1, h⟩ := bind_some' h
  cases h
  exact ha Z L st H s r dx st1 _ w e h1 fun v H1 L1 f1 p1 => q v H1 L1 f1 p1
theorem sim_retN : SimS T tRetN sRetN := by
  intro Z L st H s r o D w e h q
  cases h
  exact q .non H L (.refl w) Den.non
theorem sim_ex (ha : SimE T ta fa) : SimS T (tDrop ta) (sEx fa) := by
  intro Z L st H s r o D w e h q
  obtain ⟨⟨dx, st1⟩, h1, h⟩ := bind_some' h
  cases h
  exact ha Z L st H s r dx st1 _ w e h1 fun v H1 L1 f1 p1 => q s H1 L1 f1 (e.keep f1)
theorem sim_set {i : Nat} (ha : SimE T ta fa) : SimS T (tAsg ta (gName i)) (sSet i fa) := by
  intro Z L st H s r o D w e h q
  obtain ⟨⟨dx, st1⟩, h1, h⟩ := bind_some' h
  cases h
  exact ha Z L st H s r dx st1 _ w e h1 fun v H1 L1 f1 p1 => q _ H1 L1 f1 ((e.keep f1).set i p1)
theorem sim_seq {t u : TS} {g k : SS} (h1 : SimS T t g) (h2 : SimS T u k) : SimS T (tSeq t u) (sSeq g k) := by
  intro Z L st H s r o D w e h q
  obtain ⟨o1, a1, h⟩ := bind_some' h
  refine h1 Z L st H s r o1 _ w e a1 ?_
  cases o1 with
  | nx r' st' => exact fun s1 H1 L1 f1 e1 => h2 Z L1 st' H1 s1 r' o D f1.wd e1 h (q.after f1)
  | rt d st' => cases h; exact q
  | bk r' st' => cases h; exact q
  | ct r' st' => cases h; exact q
theorem sim_ifS {t : TT} {c : ST} {u v : TS} {g k : SS} (hc : SimT T t c) (h1 : SimS T u g) (h2 : SimS T v k) : SimS T (tIfS t u v) (sIf c g k) := by
  intro Z L st H s r o D w e h q
  obtain ⟨⟨b, st1⟩, a1, h⟩ := bind_some' h
  refine hc Z L st H s r b st1 _ w e a1 fun H1 L1 f1 => ?_
  cases b with
  | true => exact iteT (h1 Z L1 st1 H1 s r o D f1.wd (e.keep f1) h (q.after f1))
  | false => exact iteF (h2 Z L1 st1 H1 s r o D f1.wd (e.keep f1) h (q.after f1))
theorem sim_wh {t : TT} {c : ST} {u : TS} {g : SS} (hc : SimT T t c) (hb : SimS T u g) (n : Nat) : SimS T (tWhile t u) (sWh c g n) := by
  intro Z L st H s r o D w e h q
  refine ⟨fun m s1 H1 => ∃ L1 st1 r1, Af T Z L st H L1 st1 H1 ∧ EnvOk L1 (Bad Z L1 st1) H1 r1 s1 ∧ sWh c g m r1 st1 = some o, ⟨n, L, st, r, .refl w, e, h⟩, ?_⟩
  rintro m s1 H1 ⟨L1, st1, r1, f1, e1, h1⟩
  cases m with
  | zero => cases h1
  | succ m =>
    obtain ⟨⟨b, st2⟩, a1, h2⟩ := bind_some' h1
    refine hc Z L1 st1 H1 s1 r1 b st2 _ f1.wd e1 a1 fun H2 L2 f2 => ?_
    cases b with
    | false =>
      rw [if_neg (by simp)] at h2
      cases h2
      exact iteF (q s1 H2 L2 (f1.trans f2) (e1.keep f2))
    | true =>
      rw [if_pos rfl] at h2
      obtain ⟨o1, a2, h3⟩ := bind_some' h2
      refine iteT ⟨fun s3 H3 => ∃ L3 st3 r3, Af T Z L st H L3 st3 H3 ∧ EnvOk L3 (Bad Z L3 st3) H3 r3 s3 ∧ sWh c g m r3 st3 = some o, fun s3 H3 x => ⟨m, Nat.lt_succ_self _, x⟩, ?_⟩
      refine hb Z L2 st2 H2 s1 r1 o1 _ f2.wd (e1.keep f2) a2 ?_
      cases o1 with
      | nx r' st' => exact fun s3 H3 L3 f3 e3 => ⟨L3, st', r', f1.trans (f2.trans f3), e3, h3⟩
      | ct r' st' => exact fun s3 H3 L3 f3 e3 => ⟨L3, st', r', f1.trans (f2.trans f3), e3, h3⟩
      | bk r' st' => cases h3; exact fun s3 H3 L3 f3 e3 => q s3 H3 L3 (f1.trans (f2.trans f3)) e3
      | rt d st' => cases h3; exact fun v H3 L3 f3 e3 => q v H3 L3 (f1.trans (f2.trans f3)) e3
/-- a ghost step ahead of a statement -/
theorem sim_frz {t : TS} {g : SS} {i : Nat} (h1 : SimS T t g) : SimS T t (sSeq (sFrz i) g) := by
  intro Z L st H s r o D w e h q
  obtain ⟨o1, a1, h⟩ := bind_some' h
  unfold sFrz at a1
  split at a1
  · rename_i k hk
    split at a1
    · rename_i d hd
      cases a1
      obtain ⟨v, v1, v2⟩ := e.2 i _ hk
      unfold Den at v2
      obtain ⟨a, la, rfl⟩ := v2
      obtain ⟨f, p⟩ := w.frz la hd
      refine h1 Z L (st.set k none) H s (r.set i (some d)) o D f.wd ?_ h (q.after f)
      have e2 := (e.keep f).set i p
      have e3 : s.set i (some (.ref a)) = s := by
        apply List.ext_getElem?
        intro j
        by_cases hj : i = j
        · subst hj
          rw [List.getElem?_set_self (List.getElem?_eq_some_iff.mp v1).1, v1]
        · rw [List.getElem?_set_ne hj]
      rw [e3] at e2
      exact e2
    · cases a1
  · cases a1
end
end HB

set_option Elab.async false
set_option linter.all false
set_option maxRecDepth 100000
set_option maxHeartbeats 1000000
/-! HB, part d: what is walked; for, comprehensions; defs. -/
namespace HB
open PySem PySem.Spec PyProof.Rows L2

/-- the walk gives the items one by one, in every later world -/
def WalkD (T : List (Addr × Str)) (Z : Addr → Prop) (L : List Addr) (st : Sto) (H : Hp) (J : It) (xs : List Dt) : Prop := ∀ Z1 L1 st1 H1, Afz T Z L st H Z1 L1 st1 H1 →
  J.stop xs.length H1 ∧ ∀ (i : Nat) (d : Dt), xs[i]? = some d → J.go i H1 ∧ ∀ x H2, J.yld i H1 x H2 → Afz T Z1 L1 st1 H1 Z1 L1 st1 H2 ∧ Den L1 (Bad Z1 L1 st1) H2 d x
def SimI (T : List (Addr × Str)) (t : TI) (f : SA) : Prop := ∀ Z L st H s r xs st' (Q : It → Hp → Prop), Wd T Z L st H → EnvOk L (Bad Z L st) H r s → f r st = some (xs, st') →
  (∀ J H' L', Af T Z L st H L' st' H' → WalkD T Z L' st' H' J xs → Q J H') → t s H Q
section
variable (T : List (Addr × Str)) (Z : Addr → Prop) (L : List Addr) (st : Sto) (H : Hp) (s : L2.St) (r : Evr)
/-- the same at one world -/
def EAt (t : TE) (f : SE) : Prop := ∀ d st' (Q : VK), f r st = some (d, st') → (∀ v H' L', Af T Z L st H L' st' H' → Den L' (Bad Z L' st') H' d v → Q v H') → t s H Q
def IAt (t : TI) (f : SA) : Prop := ∀ xs st' (Q : It → Hp → Prop), f r st = some (xs, st') → (∀ J H' L', Af T Z L st H L' st' H' → WalkD T Z L' st' H' J xs → Q J H') → t s H Q
end
theorem SimI.at {T : List (Addr × Str)} {t : TI} {f : SA} (h : SimI T t f) {Z : Addr → Prop} {L : List Addr} {st : Sto} {H : Hp} {s : L2.St} {r : Evr} (w : Wd T Z L st H) (e : EnvOk L (Bad Z L st) H r s) : IAt T Z L st H s r t f := fun xs st' Q a q => h Z L st H s r xs st' Q w e a q
/-- targets: is, the slots that may be set -/
abbrev SG := Dt → Evr → Option Evr
def SimG (T : List (Addr × Str)) (is : List Nat) (g : TG) (k : SG) : Prop := ∀ Z L st H s r v d r' (Q : L2.St → Hp → Prop), Wd T Z L st H → EnvOk L (Bad Z L st) H r s → Den L (Bad Z L st) H d v → k d r = some r' →
  (∀ s', EnvOk L (Bad Z L st) H r' s' → (∀ vs : List Nat, (∀ i ∈ is, i ∈ vs) → wipe s' vs = wipe s vs) → Q s' H) → g v s H Q
def SimGs (T : List (Addr × Str)) (is : List Nat) (g : TGs) (k : List Dt → Evr → Option Evr) : Prop := ∀ Z L st H s r vs ds r' (Q : L2.St → Hp → Prop), Wd T Z L st H → EnvOk L (Bad Z L st) H r s → Dens L (Bad Z L st) H ds vs → k ds r = some r' →
  (∀ s', EnvOk L (Bad Z L st) H r' s' → (∀ vs : List Nat, (∀ i ∈ is, i ∈ vs) → wipe s' vs = wipe s vs) → Q s' H) → g vs s H Q
theorem wipe_set {s : L2.St} {i : Nat} {x : Option V} : ∀ {vs : List Nat}, i ∈ vs → wipe (s.set i x) vs = wipe s vs
  | [], h => by simp at h
  | v :: vs, h => by
    unfold wipe
    by_cases hv : i = v
    · subst hv
      by_cases hm : i ∈ vs
      · rw [wipe_set hm]
      · have key : ∀ {us : List Nat}, i ∉ us → wipe (s.set i x) us = (wipe s us).set i x := by
          intro us
          induction us with
          | nil => intro _; rfl
          | cons u us ih =>
            intro hu
            simp only [List.mem_cons, not_or] at hu
            show (wipe (s.set i x) us).set u none = ((wipe s us).set u none).set i x
            rw [ih hu.2, List.set_comm _ _ hu.1]
        rw [key hm, List.set_set]
    · rcases List.mem_cons.mp h with e | hm
      · exact absurd e hv
      · rw [wipe_set hm]
theorem wipe_wipe (s : L2.St) : ∀ vs : List Nat, wipe (wipe s vs) vs = wipe s vs := by
  intro vs
  have key : ∀ (us : List Nat) (s : L2.St), (∀ u ∈ us, u ∈ vs) → wipe (wipe s us) vs = wipe s vs := by
    intro us
    induction us with
    | nil => intro s _; rfl
    | cons u us ih =>
      intro s h
      show wipe ((wipe s us).set u none) vs = wipe s vs
      rw [wipe_set (h u (by simp)), ih s (fun w hw => h w (by simp [hw]))]
  exact key vs s fun _ h => h
def wipeD (r : Evr) : List Nat → Evr
  | [] => r
  | v :: vs => (wipeD r vs).set v none
theorem EnvOk.forget {L : List Addr} {B : Addr → Prop} {H : Hp} {r : Evr} {s : L2.St} (e : EnvOk L B H r s) (i : Nat) : EnvOk L B H (r.set i none) (s.set i none) := by
  refine ⟨by rw [List.length_set, List.length_set]; exact e.1, fun j d h => ?_⟩
  by_cases hj : i = j
  · subst hj
    rw [List.getElem?_set, if_pos rfl] at h
    split at h <;> cases h
  · rw [List.getElem?_set_ne hj] at h
    obtain ⟨u, h1, h2⟩ := e.2 j d h
    exact ⟨u, by rw [List.getElem?_set_ne hj]; exact h1, h2⟩
theorem EnvOk.wipe {L : List Addr} {B : Addr → Prop} {H : Hp} {r : Evr} {s : L2.St} (e : EnvOk L B H r s) : ∀ vs : List Nat, EnvOk L B H (wipeD r vs) (L2.wipe s vs)
  | [] => e
  | v :: vs => (EnvOk.wipe e vs).forget v
def kName (i : Nat) : SG := fun d r => some (r.set i (some d))
def ksNil : List Dt → Evr → Option Evr := fun ds r => match ds with
  | [] => some r
  | _ => none
def ksCons (k : SG) (ks : List Dt → Evr → Option Evr) : List Dt → Evr → Option Evr := fun ds r => match ds with
  | d :: ds => (k d r).bind fun r' => ks ds r'
  | [] => none
def kTup (ks : List Dt → Evr → Option Evr) : SG := fun d r => match d with
  | .tup ds => ks ds r
  | _ => none
section
variable {T : List (Addr × Str)}
theorem sim_gname {i : Nat} : SimG T [i] (gName i) (kName i) := by
  intro Z L st H s r v d r' Q w e h k q
  cases k
  exact q _ (e.set i h) fun vs hv => wipe_set (hv i (by simp))
theorem sim_gnil : SimGs T [] gNil ksNil := by
  intro Z L st H s r vs ds r' Q w e h k q
  unfold ksNil at k
  cases ds with
  | nil =>
    cases k
    unfold Dens at h
    exact ⟨h, q s e fun _ _ => rfl⟩
  | cons d ds => cases k
theorem sim_gcons {is js : List Nat} {t : TG} {k : SG} {u : TGs} {ks : List Dt → Evr → Option Evr} (h1 : SimG T is t k) (h2 : SimGs T js u ks) : SimGs T (is ++ js) (gCons t u) (ksCons k ks) := by
  intro Z L st H s r vs ds r' Q w e h kk q
  unfold ksCons at kk
  cases ds with
  | nil => cases kk
  | cons d ds =>
    obtain ⟨r1, a1, a2⟩ := bind_some' kk
    obtain ⟨v, vr, rfl, p, t'⟩ := h.uncons
    refine ⟨v, vr, rfl, h1 Z L st H s r v d r1 _ w e p a1 fun s1 e1 w1 => ?_⟩
    exact h2 Z L st H s1 r1 vr ds r' Q w e1 t' a2 fun s2 e2 w2 => q s2 e2 fun vs hv => (w2 vs fun i hi => hv i (by simp [hi])).trans (w1 vs fun i hi => hv i (by simp [hi]))
theorem sim_gtup {K : PySem.W.Frag} {n : Nat} {is : List Nat} {t : TGs} {ks : List Dt → Evr → Option Evr} (h : SimGs T is t ks) (hn : ∀ ds r r', ks ds r = some r' → ds.length = n) : SimG T is (gTup K n t) (kTup ks) := by
  intro Z L st H s r v d r' Q w e hd k q
  unfold kTup at k
  cases d with
  | tup ds =>
    unfold Den at hd
    obtain ⟨a, vs, rfl, ea, t'⟩ := hd
    refine ⟨a, vs, rfl, SqT.of ea, ?_, h Z L st H s r vs ds r' Q w e t' k q⟩
    rw [← t'.len]
    exact hn ds r r' k
  | _ => cases k
end

/-! ### for -/
def sForGo (k : SG) (g : SS) : List Dt → SS
  | [] => fun r st => some (.nx r st)
  | x :: xs => fun r st => (k x r).bind fun r1 => (g r1 st).bind fun o => match o with
    | .nx r' st' => sForGo k g xs r' st'
    | .ct r' st' => sForGo k g xs r' st'
    | .bk r' st' => some (.nx r' st')
    | .rt d st' => some (.rt d st')
def sFor (f : SA) (k : SG) (g : SS) : SS := fun r st => (f r st).bind fun xs => sForGo k g xs.1 r xs.2
section
variable {T : List (Addr × Str)}
theorem for_run {is : List Nat} {wi : TI} {f : SA} {g : TG} {k : SG} {tb : TS} {gb : SS} {Z : Addr → Prop} {L : List Addr} {st : Sto} {H : Hp} {s : L2.St} {r : Evr} {o : Ou} {D : Ends} (hi : IAt T Z L st H s r wi f) (hg : SimG T is g k) (hb : SimS T tb gb) (w : Wd T Z L st H) (e : EnvOk L (Bad Z L st) H r s) (h : sFor f k gb r st = some o) (q : OuOk T Z L st H D o) : tFor wi g tb D s H := by
  obtain ⟨⟨xs, st1⟩, a1, h⟩ := bind_some' h
  refine hi xs st1 _ a1 fun J H1 L1 f1 wk => ?_
  refine ⟨fun i m s2 H2 => m = xs.length - i ∧ i ≤ xs.length ∧ ∃ L2 st2 r2, Af T Z L1 st1 H1 L2 st2 H2 ∧ EnvOk L2 (Bad Z L2 st2) H2 r2 s2 ∧ sForGo k gb (xs.drop i) r2 st2 = some o,
    ⟨xs.length, by simp, Nat.zero_le _, L1, st1, r, .refl f1.wd, e.keep f1, h⟩, ?_⟩
  rintro i m s2 H2 ⟨rfl, hle, L2, st2, r2, f2, e2, h2⟩
  obtain ⟨ws, wg⟩ := wk Z L2 st2 H2 f2
  by_cases hlt : i < xs.length
  · right
    obtain ⟨go, yl⟩ := wg i xs[i] (List.getElem?_eq_getElem hlt)
    refine ⟨go, fun s5 H5 => ∃ L5 st5 r5, Af T Z L1 st1 H1 L5 st5 H5 ∧ EnvOk L5 (Bad Z L5 st5) H5 r5 s5 ∧ sForGo k gb (xs.drop (i + 1)) r5 st5 = some o, fun s5 H5 x => ⟨xs.length - (i + 1), by omega, rfl, hlt, x⟩, fun x H3 y => ?_⟩
    obtain ⟨f3, p3⟩ := yl x H3 y
    rw [List.drop_eq_getElem_cons hlt] at h2
    obtain ⟨r3, b1, b2⟩ := bind_some' h2
    obtain ⟨o1, b3, b4⟩ := bind_some' b2
    refine hg Z L2 st2 H3 s2 r2 x _ r3 _ f3.wd (e2.keep f3) p3 b1 fun s3 e3 _ => ?_
    refine hb Z L2 st2 H3 s3 r3 o1 _ f3.wd e3 b3 ?_
    cases o1 with
    | nx r' st' => exact fun s4 H4 L4 f4 e4 => ⟨L4, st', r', f2.trans (f3.trans f4), e4, b4⟩
    | ct r' st' => exact fun s4 H4 L4 f4 e4 => ⟨L4, st', r', f2.trans (f3.trans f4), e4, b4⟩
    | bk r' st' => cases b4; exact fun s4 H4 L4 f4 e4 => q s4 H4 L4 (f1.trans (f2.trans (f3.trans f4))) e4
    | rt d st' => cases b4; exact fun v H4 L4 f4 e4 => q v H4 L4 (f1.trans (f2.trans (f3.trans f4))) e4
  · left
    have hx : i = xs.length := by omega
    subst hx
    rw [List.drop_length] at h2
    cases h2
    exact ⟨ws, q s2 H2 L2 (f1.trans f2) e2⟩
theorem sim_for {is : List Nat} {wi : TI} {f : SA} {g : TG} {k : SG} {tb : TS} {gb : SS} (hi : SimI T wi f) (hg : SimG T is g k) (hb : SimS T tb gb) : SimS T (tFor wi g tb) (sFor f k gb) :=
  fun Z L st H s r o D w e h q => for_run (hi.at w e) hg hb w e h q
end

/-! ### list comprehensions -/
def lcGo (k : SG) (c : ST) (f : SE) (r : Evr) : List Dt → Sto → Option (List Dt × Sto)
  | [], st => some ([], st)
  | x :: xs, st => (k x r).bind fun r1 => (c r1 st).bind fun b => if b.1 = true then (f r1 b.2).bind fun y => (lcGo k c f r xs y.2).bind fun z => some (y.1 :: z.1, z.2) else lcGo k c f r xs b.2
def lc (fi : SA) (own : List Nat) (k : SG) (c : ST) (f : SE) : SA := fun r st => (fi r st).bind fun xs => (lcGo k c f (wipeD r own) xs.1 xs.2).bind fun z => if z.1.length ≤ sizeLine then some z else none
/-- as a value, as a new live object -/
def toV (f : SA) : SE := fun r st => (f r st).bind fun z => some (.lst z.1, z.2)
def toR (f : SA) : SE := fun r st => (f r st).bind fun z => some (.ref z.2.length, z.2 ++ [some (.lst z.1)])
section
variable {T : List (Addr × Str)}
theorem lc_run {is own : List Nat} {wi : TI} {fi : SA} {g : TG} {k : SG} {tt : TT} {c : ST} {te : TE} {f : SE} {Z : Addr → Prop} {L : List Addr} {st : Sto} {H : Hp} {s : L2.St} {r : Evr} {zs : List Dt} {st' : Sto} {Q : VK} (hi : IAt T Z L st H s r wi fi) (hg : SimG T is g k) (hc : SimT T tt c) (hf : SimE T te f) (hs : ∀ i ∈ is, i ∈ own)
    (w : Wd T Z L st H) (e : EnvOk L (Bad Z L st) H r s) (h : lc fi own k c f r st = some (zs, st'))
    (q : ∀ D vs H' L', Afz T Z L st H (zAnd Z D) L' st' H' → H D = none → H' D = some (.lst vs) → Dens L' (Bad (zAnd Z D) L' st') H' zs vs → Q (.ref D) H') : tLc wi g tt te own s H Q := by
  obtain ⟨⟨xs, st1⟩, a1, h⟩ := bind_some' h
  obtain ⟨⟨ys, st9⟩, a2, h⟩ := bind_some' h
  split at h
  case isFalse => cases h
  case isTrue hz =>
  cases h
  refine hi xs st1 _ a1 fun J H1 L1 f1 wk D nD => ?_
  have nD0 : H D = none := by
    cases qq : H D with
    | none => rfl
    | some o => exact absurd nD (f1.trk D (by rw [qq]; simp))
  have m1 : Afz T Z L1 st1 H1 (zAnd Z D) L1 st1 (upd H1 D (.lst [])) := Afz.mine f1.wd nD
  refine ⟨fun i m H2 => m = xs.length - i ∧ i ≤ xs.length ∧ ∃ L2 st2 acc rest vs, Afz T Z L1 st1 H1 (zAnd Z D) L2 st2 H2 ∧ H2 D = some (.lst vs) ∧ Dens L2 (Bad (zAnd Z D) L2 st2) H2 acc vs ∧ lcGo k c f (wipeD r own) (xs.drop i) st2 = some (rest, st') ∧ acc ++ rest = zs,
    ⟨xs.length, by simp, Nat.zero_le _, L1, st1, [], zs, [], m1, upd_same, .nil, a2, rfl⟩, ?_⟩
  rintro i m H2 ⟨rfl, hle, L2, st2, acc, rest, vs, f2, hD, hacc, h2, ez⟩
  obtain ⟨ws, wg⟩ := wk (zAnd Z D) L2 st2 H2 f2
  by_cases hlt : i < xs.length
  · right
    obtain ⟨go, yl⟩ := wg i xs[i] (List.getElem?_eq_getElem hlt)
    rw [List.drop_eq_getElem_cons hlt] at h2
    obtain ⟨r3, b1, b2⟩ := bind_some' h2
    obtain ⟨⟨b, st3⟩, b3, b4⟩ := bind_some' b2
    refine ⟨go, fun H5 => ∃ L5 st5 acc5 rest5 vs5, Afz T Z L1 st1 H1 (zAnd Z D) L5 st5 H5 ∧ H5 D = some (.lst vs5) ∧ Dens L5 (Bad (zAnd Z D) L5 st5) H5 acc5 vs5 ∧ lcGo k c f (wipeD r own) (xs.drop (i + 1)) st5 = some (rest5, st') ∧ acc5 ++ rest5 = zs,
      fun H5 x => ⟨xs.length - (i + 1), by omega, rfl, hlt, x⟩, fun x H3 y => ?_⟩
    obtain ⟨f3, p3⟩ := yl x H3 y
    have e3 := (((e.keep f1).keep f2).keep f3).wipe own
    refine hg (zAnd Z D) L2 st2 H3 _ _ x _ r3 _ f3.wd e3 p3 b1 fun s4 e4 wp => ⟨?_, ?_⟩
    · rw [wp own hs, wipe_wipe]
    refine hc (zAnd Z D) L2 st2 H3 s4 r3 b st3 _ f3.wd e4 b3 fun H4 L4 f4 => ?_
    have keepD : ∀ {L' : List Addr} {st'' : Sto} {H' : Hp}, Afz T (zAnd Z D) L2 st2 H2 (zAnd Z D) L' st'' H' → H' D = some (.lst vs) := fun ff => ff.kp D _ hD (fun z => by
      obtain ⟨j, d, j1, j2⟩ := z
      exact (f2.wd.own j D d j1 j2).1 (.inr rfl)) (fun ps z => by cases z)
    cases b with
    | false =>
      rw [if_neg (by simp)] at b4
      exact iteF ⟨L4, st3, acc, rest, vs, f2.trans (f3.trans f4), keepD (f3.trans f4), (hacc.keep f3).keep f4, b4, ez⟩
    | true =>
      rw [if_pos rfl] at b4
      obtain ⟨⟨dy, st5⟩, c1, c2⟩ := bind_some' b4
      obtain ⟨⟨rest5, st6⟩, c3, c4⟩ := bind_some' c2
      cases c4
      refine iteT (hf (zAnd Z D) L4 st3 H4 s4 r3 dy st5 _ f4.wd (e4.keep f4) c1 fun y H5 L5 f5 p5 => ?_)
      have fall := f3.trans (f4.trans f5)
      have hacc5 := ((hacc.keep f3).keep f4).keep f5
      have hlen : vs.length < sizeLine := by
        rw [← hacc.len]
        have : (acc ++ dy :: rest5).length ≤ sizeLine := by rw [ez]; exact hz
        rw [List.length_append, List.length_cons] at this
        omega
      have zD : zAnd Z D D := .inr rfl
      have hD5 := keepD fall
      have tD5 : ∀ zs, H5 D ≠ some (.tup zs) := fun zs z => by rw [hD5] at z; cases z
      have wd6 : Wd T (zAnd Z D) L5 st5 (upd H5 D (.lst (vs ++ [y]))) := f5.wd.chg zD fun u eu => by rw [hD5] at eu; cases eu; exact .inl ⟨_, rfl⟩
      have fa := f2.trans fall
      refine ⟨vs, hD5, hlen, L5, st5, acc ++ [dy], rest5, vs ++ [y], ⟨wd6, fa.pre, fun b u eb nl nt => ?_, fa.nw, fun b n z => ?_, fun b us eb => ?_, fa.fr, fa.zs⟩, upd_same, (hacc5.append (.cons p5 .nil)).chg (.inl zD) tD5, c3, by rw [← ez]; simp⟩
      · rw [upd_ne (ne_of_none eb nD)]; exact fa.kp b u eb nl nt
      · by_cases hb : b = D
        · rw [hb, upd_same] at z; cases z
        · rw [upd_ne hb] at z; exact fa.trk b n z
      · rw [upd_ne (ne_of_none eb nD)]; exact fa.tp b us eb
  · left
    have hx : i = xs.length := by omega
    subst hx
    rw [List.drop_length] at h2
    cases h2
    rw [List.append_nil] at ez
    subst ez
    exact ⟨ws, q D vs H2 L2 (f1.trans f2) nD0 hD hacc⟩
theorem Afz.back {Z : Addr → Prop} {L L' : List Addr} {st st' : Sto} {H H' : Hp} {D : Addr} (f : Afz T Z L st H (zAnd Z D) L' st' H') : Af T Z L st H L' st' H' :=
  ⟨f.wd.less fun b z => .inl z, f.pre, f.kp, f.nw, f.trk, f.tp, f.fr, fun a z => .inl z⟩
theorem bad_zAnd {Z : Addr → Prop} {L : List Addr} {st : Sto} {D : Addr} : ∀ b, Bad Z L st b → Bad (zAnd Z D) L st b := fun b z => z.elim (fun y => .inl (.inl y)) .inr
theorem at_lcV {is own : List Nat} {wi : TI} {fi : SA} {g : TG} {k : SG} {tt : TT} {c : ST} {te : TE} {f : SE} {Z : Addr → Prop} {L : List Addr} {st : Sto} {H : Hp} {s : L2.St} {r : Evr} (hi : IAt T Z L st H s r wi fi) (hg : SimG T is g k) (hc : SimT T tt c) (hf : SimE T te f) (hs : ∀ i ∈ is, i ∈ own) (w : Wd T Z L st H) (e : EnvOk L (Bad Z L st) H r s) : EAt T Z L st H s r (tLc wi g tt te own) (toV (lc fi own k c f)) := by
  intro d st' Q h q
  obtain ⟨⟨zs, st1⟩, a1, h⟩ := bind_some' h
  cases h
  refine lc_run hi hg hc hf hs w e a1 fun D vs H' L' ff nD hD hv => ?_
  refine q _ H' L' ff.back ?_
  unfold Den
  refine ⟨D, vs, rfl, fun z => ?_, hD, hv.mono bad_zAnd⟩
  rcases z with z | ⟨j, d, j1, j2⟩
  · exact w.zt D z nD
  · exact (ff.wd.own j D d j1 j2).1 (.inr rfl)
theorem sim_lcV {is own : List Nat} {wi : TI} {fi : SA} {g : TG} {k : SG} {tt : TT} {c : ST} {te : TE} {f : SE} (hi : SimI T wi fi) (hg : SimG T is g k) (hc : SimT T tt c) (hf : SimE T te f) (hs : ∀ i ∈ is, i ∈ own := by decide) : SimE T (tLc wi g tt te own) (toV (lc fi own k c f)) := by
  intro Z L st H s r d st' Q w e h q
  obtain ⟨⟨zs, st1⟩, a1, h⟩ := bind_some' h
  cases h
  refine lc_run (hi.at w e) hg hc hf hs w e a1 fun D vs H' L' ff nD hD hv => ?_
  refine q _ H' L' ff.back ?_
  unfold Den
  refine ⟨D, vs, rfl, fun z => ?_, hD, hv.mono bad_zAnd⟩
  rcases z with z | ⟨j, d, j1, j2⟩
  · exact w.zt D z nD
  · exact (ff.wd.own j D d j1 j2).1 (.inr rfl)
/-- what was ours alone becomes a live object -/
theorem Afz.claim {Z : Addr → Prop} {L L' : List Addr} {st st' : Sto} {H H' : Hp} {D : Addr} {o : HO} {d : Dt} (f : Afz T Z L st H (zAnd Z D) L' st' H') (w0 : Wd T Z L st H) (nD : H D = none) (hD : H' D = some o) (ho : OwnO L' (Bad (zAnd Z D) L' st') H' o d) : Af T Z L st H (L' ++ [D]) (st' ++ [some d]) H' := by
  have w := f.wd
  have nl : ∀ (j : Nat) e, L'[j]? = some D → st'[j]? = some (some e) → False := fun j e j1 j2 => (w.own j D e j1 j2).1 (.inr rfl)
  have hb : ∀ b, Bad Z (L' ++ [D]) (st' ++ [some d]) b → H' b ≠ none → Bad (zAnd Z D) L' st' b := fun b z _ => by
    rcases z with z | z
    · exact .inl (.inl z)
    · rcases (liv_push w.len).mp z with z | ⟨rfl, _⟩
      · exact .inr z
      · exact .inl (.inr rfl)
  have tr : ∀ ds vs, Dens L' (Bad (zAnd Z D) L' st') H' ds vs → Dens (L' ++ [D]) (Bad Z (L' ++ [D]) (st' ++ [some d])) H' ds vs := fun ds vs q => Dens.push hb q
  have get : ∀ (k : Nat) (b : Addr) (e : Dt), (L' ++ [D])[k]? = some b → (st' ++ [some d])[k]? = some (some e) → (L'[k]? = some b ∧ st'[k]? = some (some e)) ∨ (k = L'.length ∧ b = D ∧ e = d) := by
    intro k b e h1 h2
    have hl := w.len
    by_cases hk : k < L'.length
    · rw [List.getElem?_append_left hk] at h1
      rw [List.getElem?_append_left (by omega)] at h2
      exact .inl ⟨h1, h2⟩
    · have hk2 : k = L'.length := by
        have := (List.getElem?_eq_some_iff.mp h1).1
        simp at this
        omega
      subst hk2
      simp at h1
      rw [hl] at h2
      simp at h2
      exact .inr ⟨rfl, h1.symm, h2.symm⟩
  refine ⟨⟨w.tabs, by simp [w.len], fun i j b x y h1 h2 h3 h4 => ?_, fun k b e h1 h2 => ?_, fun b z => w.zt b (.inl z)⟩, ?_, f.kp, fun b l => ?_, f.trk, f.tp, fun k b hl e => ?_, fun a z => .inl z⟩
  · rcases get i b x h1 h3 with ⟨a1, a2⟩ | ⟨i1, i2, _⟩ <;> rcases get j b y h2 h4 with ⟨b1, b2⟩ | ⟨j1, j2, _⟩
    · exact w.inj i j b x y a1 b1 a2 b2
    · subst j2; exact (nl i x a1 a2).elim
    · subst i2; exact (nl j y b1 b2).elim
    · omega
  · rcases get k b e h1 h2 with ⟨a1, a2⟩ | ⟨_, rfl, rfl⟩
    · obtain ⟨nz, u, eu, q⟩ := w.own k b e a1 a2
      exact ⟨fun z => nz (.inl z), u, eu, q.imp tr⟩
    · exact ⟨fun z => w0.zt b z nD, o, hD, ho.imp tr⟩
  · obtain ⟨M, rfl⟩ := f.pre
    exact ⟨M ++ [D], by simp⟩
  · rcases (liv_push w.len).mp l with z | ⟨rfl, _⟩
    · exact f.nw b z
    · exact .inr nD
  · by_cases hk : k < L'.length
    · rw [List.getElem?_append_left hk] at e
      exact f.fr k b hl e
    · have e2 : k = L'.length := by
        have := (List.getElem?_eq_some_iff.mp e).1
        simp at this
        omega
      subst e2
      simp at e
      rw [← e]; exact nD
theorem sim_lcR {is own : List Nat} {wi : TI} {fi : SA} {g : TG} {k : SG} {tt : TT} {c : ST} {te : TE} {f : SE} (hi : SimI T wi fi) (hg : SimG T is g k) (hc : SimT T tt c) (hf : SimE T te f) (hs : ∀ i ∈ is, i ∈ own := by decide) : SimE T (tLc wi g tt te own) (toR (lc fi own k c f)) := by
  intro Z L st H s r d st' Q w e h q
  obtain ⟨⟨zs, st1⟩, a1, h⟩ := bind_some' h
  cases h
  refine lc_run (hi.at w e) hg hc hf hs w e a1 fun D vs H' L' ff nD hD hv => ?_
  refine q _ H' (L' ++ [D]) (ff.claim w nD hD ⟨vs, rfl, hv⟩) ?_
  unfold Den
  exact ⟨D, by rw [← ff.wd.len]; simp, rfl⟩
end
end HB

set_option Elab.async false
set_option linter.all false
set_option maxRecDepth 100000
set_option maxHeartbeats 1000000
/-! HB, part e: defs that are called where no repr is under way; pure ones, ones that make a new object, ones that change one object. -/
namespace HB
open PySem PySem.Spec PyProof.Rows L2

theorem nodupIx {α : Type} {x : α} : ∀ {l : List α} {i j : Nat}, l.Nodup → l[i]? = some x → l[j]? = some x → i = j
  | [], _, _, _, h, _ => by simp at h
  | _ :: _, 0, 0, _, _, _ => rfl
  | y :: l, 0, j + 1, nd, h1, h2 => by
    simp at h1; subst h1
    exact absurd (List.mem_of_getElem? (by simpa using h2)) (List.nodup_cons.mp nd).1
  | y :: l, i + 1, 0, nd, h1, h2 => by
    simp at h2; subst h2
    exact absurd (List.mem_of_getElem? (by simpa using h1)) (List.nodup_cons.mp nd).1
  | y :: l, i + 1, j + 1, nd, h1, h2 => congrArg (· + 1) (nodupIx (List.nodup_cons.mp nd).2 (by simpa using h1) (by simpa using h2))
/-- the def at f keeps sp wherever no object is being shown -/
structure GFn (P : Program) (w : World) (K : PySem.W.Frag) (mg : Str → Option Value) (base : Heap) (k : Nat) (f : Addr) (fd : FuncData) (ps : List Str) (sp : Sp) : Prop where
  run : ∀ (A : Around) (outer : List Env) (s : Shared) (H : Hp) (args : Args) (us : List Value) (vs : List V) (Q : VK), Room k A → A.guards = some [] → Env0 P w K mg base A outer s H → BindsTo s fd args (ps.zip us) → us.length = ps.length → Vals vs us → sp vs H Q E0 →
    codeAny (model P w) A (.call (.ref f) args) (CR CX0 outer P w H s Q E0) s
/-- a global name that holds such a def -/
structure GCal (P : Program) (w : World) (K : PySem.W.Frag) (mg : Str → Option Value) (base : Heap) (k : Nat) (x : Str) (ps : List Str) (sp : Sp) : Prop where
  ex : ∃ (f : Addr) (fd : FuncData), mg x = some (.ref f) ∧ PySem.W.keepIn K (.ref f) = true ∧ GFn P w K mg base k f fd ps sp ∧
    (∀ (s : Shared) (us : List Value), us.length = ps.length → BindsTo s fd ⟨us, []⟩ (ps.zip us)) ∧
    ∀ (s : Shared) (p : List Nat) (ws : List Value), ws.length = ps.length → p.Perm (List.range ps.length) → BindsTo s fd ⟨[], (p.map fun i => ps.getD i "").zip (p.map fun i => ws.getD i .none)⟩ (ps.zip ws)
section
variable {P : Program} {w : World} {K : PySem.W.Frag} {mg : Str → Option Value} {base : Heap} {k j : Nat} {f : Addr} {fd : FuncData} {ps : List Str} {sp sp' : Sp}
theorem GFn.mono (F : GFn P w K mg base k f fd ps sp) (h : k ≤ j) : GFn P w K mg base j f fd ps sp := ⟨fun A outer s H args us vs Q hr => F.run A outer s H args us vs Q (hr.mono h)⟩
theorem GFn.imp (F : GFn P w K mg base k f fd ps sp) (h : ∀ vs H Q, sp' vs H Q E0 → sp vs H Q E0) : GFn P w K mg base k f fd ps sp' :=
  ⟨fun A outer s H args us vs Q hr hg e0 hb hl hv hs => F.run A outer s H args us vs Q hr hg e0 hb hl hv (h _ _ _ hs)⟩
end
section
variable {X : Cx} {k : Nat} {x : Str} {ps : List Str} {sp : Sp} {p pos : Pos} {e : Expr} {es : List Expr} {t : TA} {kws : List Keyword}
theorem run_g {f : Addr} {fd : FuncData} {pins : List (Addr × Obj)} {s1 : L2.St} {H : Hp} {s : Shared} {Q : VK} {us ws : List Value} {kw : List (Str × Value)} {vs : List V} (F : GFn X.prog X.w X.K X.mg X.base k f fd ps sp) (hr : Room k X.A) (hg : X.A.guards = some [])
    (hb : BindsTo s fd ⟨ws, kw⟩ (ps.zip us)) (hl : us.length = ps.length) (I : Inv X pins s1 H s) (r : Vals vs us) (h : sp vs H Q E0) : wpAny (model X.prog X.w) X.A (call (.ref f) ws kw) (EP X pins s1 Q) X.xe s := by
  refine wpAny_call (codeAny_mono (F.run X.A X.stack s H ⟨ws, kw⟩ us vs Q hr hg I.env0 hb hl r h) fun res s2 hq => ?_)
  match res, hq with
  | .error _, hq => exact False.elim hq
  | .ok (.ret _), hq => exact I.after hq
  | .ok .next, hq => exact False.elim hq
  | .ok .brk, hq => exact False.elim hq
  | .ok .cont, hq => exact False.elim hq
def tG (n : Nat) (sp : Sp) (t : TA) : TE := fun s H Q => t s H fun vs H1 => vs.length = n ∧ sp vs H1 Q E0
/-- f(e, ..) -/
theorem pe_g (c : GCal X.prog X.w X.K X.mg X.base k x ps sp) (hr : Room k X.A) (hg : X.A.guards = some []) (gl : Gl X x) (ha : PA X (e :: es) t) (hdb : (x == ("__debug__" : Str)) = false := by decide)
    (he : starEach (e :: es) X.env = (false, eval e X.env) :: starEach es X.env := by rfl) (hpl : (backTo pos (starEach es X.env)).any (·.1) = false := by rfl) : PE X (.Call (.Name x p) (e :: es) [] pos) (tG ps.length sp t) := by
  obtain ⟨f, fd, hm, hk, F, hb, _⟩ := c.ex
  constructor
  intro pins s s1 H Q I h
  refine wpAny_Call_Name_kw (ld_glob I gl hm ?_ hdb)
  refine PySem.W.callWith_K (h₀ := X.base) I.ok.mod.kin hk (thn (ha.run pos pins s s1 H _ I h) fun us s2 ⟨vs, H1, I1, r, hl, q⟩ => ⟨I1.kIn, ?_⟩) he hpl
  have hl' : us.length = ps.length := by rw [← r.length]; exact hl
  exact run_g F hr hg (hb s2 us hl') hl' I1 r q
/-- f(k = e, ..): q tells which parameter each keyword names -/
def tGk (n : Nat) (q : List Nat) (sp : Sp) (t : TA) : TE := fun s H Q => t s H fun vs H1 => ∃ us : List V, us.length = n ∧ vs = q.map (fun i => us.getD i .non) ∧ sp us H1 Q E0
theorem pe_gk {q : List Nat} (c : GCal X.prog X.w X.K X.mg X.base k x ps sp) (hr : Room k X.A) (hg : X.A.guards = some []) (gl : Gl X x) (hk : PK X kws t) (hq : q.Perm (List.range ps.length)) (hdb : (x == ("__debug__" : Str)) = false := by decide)
    (hall : (backToKw pos (keywordEach kws X.env)).all (·.1.isSome) = true := by rfl) (hks : (backToKw pos (keywordEach kws X.env)).filterMap (·.1) = q.map fun i => ps.getD i "" := by rfl)
    (hpl : ((backTo pos (starEach [] X.env)).any (·.1) || (backToKw pos (keywordEach kws X.env)).any (·.1.isNone)) = false := by rfl) : PE X (.Call (.Name x p) [] kws pos) (tGk ps.length q sp t) := by
  obtain ⟨f, fd, hm, hk', F, _, hb⟩ := c.ex
  constructor
  intro pins s s1 H Q I h
  refine wpAny_Call_Name_kw (ld_glob I gl hm ?_ hdb)
  refine PySem.W.callWith_KW0 (h₀ := X.base) I.ok.mod.kin hk' hall (thn (hk.run pos pins s s1 H _ I h) fun ws s2 ⟨vs, H1, I1, r, us, hl, ev, qq⟩ => ⟨I1.kIn, ?_⟩) hpl
  rw [hks]
  have hm' : ∀ i, i < us.length → ∃ j, q[j]? = some i := fun i hi => by
    have : i ∈ q := hq.mem_iff.mpr (by simp; omega)
    exact List.mem_iff_getElem?.mp this
  -- the values in the parameters' order
  have key : ∃ zs : List Value, Vals us zs ∧ ws = q.map fun i => zs.getD i .none := by
    have hex : ∀ i : Nat, ∃ z : Value, i < us.length → (RelV (us.getD i .non) z ∧ ∀ j : Nat, q[j]? = some i → ws[j]? = some z) := fun i => by
      by_cases hi : i < us.length
      · obtain ⟨j, hj⟩ := hm' i hi
        have hv : vs[j]? = some (us.getD i .non) := by rw [ev, List.getElem?_map, hj]; rfl
        obtain ⟨z, hz, rz⟩ := r.get hv
        refine ⟨z, fun _ => ⟨rz, fun j' hj' => ?_⟩⟩
        have nd : q.Nodup := hq.nodup_iff.mpr List.nodup_range
        have : j = j' := nodupIx nd hj hj'
        subst this
        exact hz
      · exact ⟨.none, fun h => absurd h hi⟩
    obtain ⟨z, hz⟩ := Classical.axiomOfChoice hex
    refine ⟨(List.range us.length).map z, ?_, ?_⟩
    · have all : ∀ (n : Nat) (us' : List V) (g : Nat → Value), us'.length = n → (∀ i, i < n → RelV (us'.getD i .non) (g i)) → Vals us' ((List.range n).map g) := by
        intro n
        induction n with
        | zero => intro us' g h1 _; rw [List.length_eq_zero_iff.mp h1]; exact .nil
        | succ n ih =>
          intro us' g h1 h2
          match us', h1 with
          | u :: us', h1 =>
            rw [List.range_succ_eq_map, List.map_cons, List.map_map]
            exact .cons (h2 0 (by omega)) (ih us' _ (by simpa using h1) fun i hi => by simpa using h2 (i + 1) (by omega))
      exact all us.length us z rfl fun i hi => (hz i hi).1
    · apply List.ext_getElem?
      intro j
      rw [List.getElem?_map]
      cases hj : q[j]? with
      | none =>
        have : q.length ≤ j := List.getElem?_eq_none_iff.mp hj
        rw [List.getElem?_eq_none]
        · rfl
        · have e1 := r.length
          have e2 : vs.length = q.length := by rw [ev, List.length_map]
          omega
      | some i =>
        have hi : i < us.length := by
          have : i ∈ q := List.mem_of_getElem? hj
          have := hq.mem_iff.mp this
          simp at this
          omega
        rw [(hz i hi).2 j hj]
        simp [hi]
  obtain ⟨zs, rz, ez⟩ := key
  have hlz : zs.length = ps.length := by rw [← rz.length]; exact hl
  rw [ez]
  exact run_g F hr hg (hb s2 q zs hlz hq) hlz I1 rz qq
end

/-! ### a def by its body -/
def startD (n : Nat) (ds : List Dt) : Evr := ds.map some ++ List.replicate (n - ds.length) none
def bodyF (g : SS) (n : Nat) : List Dt → Sto → Option (Dt × Sto) := fun ds st => (g (startD n ds) st).bind fun o => match o with
  | .rt d st' => some (d, st')
  | .nx _ st' => some (.non, st')
  | _ => none
def SpF (T : List (Addr × Str)) (n : Nat) (F : List Dt → Sto → Option (Dt × Sto)) : Sp := fun vs H Q _ => ∃ Z L st ds d st', vs.length = n ∧ Wd T Z L st H ∧ Dens L (Bad Z L st) H ds vs ∧ F ds st = some (d, st') ∧
  ∀ v H' L', Af T Z L st H L' st' H' → Den L' (Bad Z L' st') H' d v → Q v H'
theorem env_start {L : List Addr} {B : Addr → Prop} {H : Hp} {N : List Str} {ds : List Dt} {vs : List V} (h : Dens L B H ds vs) : EnvOk L B H (startD N.length ds) (L2.start N vs) := by
  have hl := h.len
  unfold startD L2.start
  refine ⟨by simp [hl], fun i d e => ?_⟩
  by_cases hi : i < ds.length
  · rw [List.getElem?_append_left (by simpa using hi), List.getElem?_map] at e
    cases q : ds[i]? with
    | none => rw [q] at e; cases e
    | some d' =>
      rw [q] at e
      cases e
      obtain ⟨v, hv, p⟩ := h.get q
      exact ⟨v, by rw [List.getElem?_append_left (by rw [List.length_map]; omega), List.getElem?_map, hv]; rfl, p⟩
  · rw [List.getElem?_append_right (by simpa using hi), List.getElem?_replicate] at e
    split at e <;> cases e
section
variable {T : List (Addr × Str)} {P : Program} {w : World} {K : PySem.W.Frag} {mg : Str → Option Value} {base : Heap}
/-- the context of a def's body -/
abbrev gX (P : Program) (w : World) (K : PySem.W.Frag) (mg : Str → Option Value) (base : Heap) (N : List Str) (x : Str) (sc : Scope) (f : Addr) (cdv : Value) (A : Around) (outer : List Env) (s : Shared) (H : Hp) : Cx := (cxOf CX0 P w K mg base N x sc f cdv A outer s H E0).nox
theorem gfn {x : Str} {args : Arguments} {body : List Stmt} {sc : Scope} {f : Addr} {fd : FuncData} {N ps : List Str} {k : Nat} {t : TS} {g : SS} (F : FunD K x x args body sc [] [] f fd) (S : FnScope N ps sc)
    (hb : ∀ A outer s H, Room k (gX P w K mg base N x sc f fd.code A outer s H).A → (gX P w K mg base N x sc f fd.code A outer s H).A.guards = some [] → PSs (gX P w K mg base N x sc f fd.code A outer s H) body t) (hs : SimS T t g) :
    GFn P w K mg base (k + 1) f fd ps (SpF T ps.length (bodyF g N.length)) := by
  obtain ⟨oc, od, dV, kV, doc, pm, an, cdv, ct, osl, rfl, lk, hcd, _, _⟩ := F.ex
  constructor
  intro A outer s H binds us vs Q hr hg e0 hbt hlu rv hsp
  obtain ⟨Z, L, st, ds, d, st', hlv, wd, dn, hF, q⟩ := hsp
  have keeps : ∀ b o, base.get? b = some o → s.heap.get? b = some o := fun b o e => (e0.bs b o e).1
  have inK : K.In s.heap := e0.mod.kin.keeps keeps
  have places : ∀ y ∈ ps.zip us, sc.names.lookup y.1 = some .local ∨ (sc.names.lookup y.1 = some .cell ∧ ((cellsFrom (s.heap.objs.size + 1) sc.names []).lookup y.1).isSome = true) := by
    intro y hy
    have hm := (List.of_mem_zip (a := y.1) (b := y.2) hy).1
    cases S.par y.1 hm with
    | inl z => exact .inl z
    | inr z => exact .inr ⟨z, PySem.W.cellsFrom_some _ _ _ (.inl z)⟩
  refine codeAny_call_function hr.depth (inK _ _ lk) rfl S.co S.gen rfl (PySem.W.codeRec_of inK hcd) (hbt _ _ _ _ ?_)
  refine wpAny_newFunctionEnv_cells S.kind places fun env he s1 ic => ?_
  subst he
  refine ⟨(e0.mod.nolimit.keeps keeps).keeps ic.toInCall.keep, codeAny_func ?_⟩
  have I : Inv (cxOf CX0 P w K mg base N x sc f cdv A outer s H E0) [] (L2.start N vs) H s1 := inv_start S hr.hd e0 hlv rv ic
  have ht := hb A outer s H (hr.deeper _) hg
  obtain ⟨o, a1, a2⟩ := bind_some' hF
  have reading : t { nx := fun _ H' => Q .non H', rt := Q } (L2.start N vs) H := by
    refine hs Z L st H _ _ o _ wd (env_start dn) a1 ?_
    cases o with
    | rt d1 st1 => cases a2; exact fun v H' L' f p => q v H' L' f p
    | nx r1 st1 => cases a2; exact fun s' H' L' f _ => q .non H' L' f Den.non
    | bk r1 st1 => cases a2
    | ct r1 st1 => cases a2
  refine wpAny_mono (ht.nox.run [] s1 (L2.start N vs) H _ I reading) (fun fl s2 hq => ?_) fun _ _ hx => hx
  match fl, hq with
  | .ret u, ⟨v, _, H', J, rv', qv⟩ => exact ⟨v, H', J.os, J.bare, J.base, J.hok, rv', qv⟩
  | .next, ⟨_, H', J, qv⟩ => exact ⟨.non, H', J.os, J.bare, J.base, J.hok, rfl, qv⟩
  | .brk, ⟨_, _, _, qv⟩ => exact False.elim qv
  | .cont, ⟨_, _, _, qv⟩ => exact False.elim qv
end

/-! ### pure defs -/
mutual
def noRef : Dt → Bool
  | .ref _ => false
  | .lst ds => noRefs ds
  | .tup ds => noRefs ds
  | .dic _ ds => noRefs ds
  | _ => true
def noRefs : List Dt → Bool
  | [] => true
  | d :: ds => noRef d && noRefs ds
end
mutual
theorem Den.anyL {L L' : List Addr} {B : Addr → Prop} {H : Hp} : ∀ {d : Dt} {v : V}, noRef d = true → Den L B H d v → Den L' B H d v
  | .non, _, _, q => by unfold Den at q ⊢; exact q
  | .bl _, _, _, q => by unfold Den at q ⊢; exact q
  | .int _, _, _, q => by unfold Den at q ⊢; exact q
  | .str _, _, _, q => by unfold Den at q ⊢; exact q
  | .ref _, _, n, q => by unfold noRef at n; cases n
  | .lst ds, _, n, q => by
    unfold noRef at n
    unfold Den at q ⊢
    obtain ⟨a, vs, r, nb, e, t⟩ := q
    exact ⟨a, vs, r, nb, e, Dens.anyL n t⟩
  | .tup ds, _, n, q => by
    unfold noRef at n
    unfold Den at q ⊢
    obtain ⟨a, vs, r, e, t⟩ := q
    exact ⟨a, vs, r, e, Dens.anyL n t⟩
  | .dic ks ds, _, n, q => by
    unfold noRef at n
    unfold Den at q ⊢
    obtain ⟨a, vs, r, nb, e, el, t⟩ := q
    exact ⟨a, vs, r, nb, e, el, Dens.anyL n t⟩
theorem Dens.anyL {L L' : List Addr} {B : Addr → Prop} {H : Hp} : ∀ {ds : List Dt} {vs : List V}, noRefs ds = true → Dens L B H ds vs → Dens L' B H ds vs
  | [], _, _, q => by unfold Dens at q ⊢; exact q
  | d :: ds, _, n, q => by
    unfold noRefs at n
    rw [Bool.and_eq_true] at n
    obtain ⟨v, r, rfl, p, t⟩ := q.uncons
    exact .cons (Den.anyL n.1 p) (Dens.anyL n.2 t)
end
/-! the data behind refs -/
mutual
def deref (st : Sto) : Nat → Dt → Option Dt
  | 0, d => if noRef d = true then some d else none
  | n + 1, d => if noRef d = true then some d else match d with
    | .ref k => (match st[k]? with
      | some (some c) => deref st n c
      | _ => none)
    | .lst ds => (derefs st n ds).map .lst
    | .tup ds => (derefs st n ds).map .tup
    | .dic ks ds => (derefs st n ds).map (.dic ks)
    | _ => none
def derefs (st : Sto) : Nat → List Dt → Option (List Dt)
  | _, [] => some []
  | 0, ds => if noRefs ds = true then some ds else none
  | n + 1, d :: ds => (deref st n d).bind fun e => (derefs st n ds).map fun es => e :: es
end
theorem OwnAt.den {L : List Addr} {Z B : Addr → Prop} {H : Hp} {a : Addr} {d : Dt} (h : OwnAt L B H a d) (nz : ¬ Z a) (hb : ∀ b, Z b → B b) : Den L Z H d (.ref a) := by
  obtain ⟨o, e, q⟩ := h
  cases d with
  | lst ds =>
    obtain ⟨vs, rfl, t⟩ := q
    unfold Den
    exact ⟨a, vs, rfl, nz, e, t.mono hb⟩
  | dic ks ds =>
    obtain ⟨vs, rfl, el, t⟩ := q
    unfold Den
    exact ⟨a, vs, rfl, nz, .inl e, el, t.mono hb⟩
  | _ => exact False.elim q
mutual
theorem deref_ok {T : List (Addr × Str)} {Z : Addr → Prop} {L L0 : List Addr} {st : Sto} {H : Hp} (w : Wd T Z L st H) : ∀ {n : Nat} {d c : Dt} {v : V}, deref st n d = some c → Den L Z H d v → Den L0 Z H c v
  | 0, d, c, v, h, q => by
    unfold deref at h
    split at h
    · rename_i hn
      cases h
      exact q.anyL hn
    · cases h
  | n + 1, d, c, v, h, q => by
    unfold deref at h
    split at h
    · rename_i hn
      cases h
      exact q.anyL hn
    · cases d with
      | ref k =>
        dsimp only at h
        unfold Den at q
        obtain ⟨a, ka, rfl⟩ := q
        split at h
        · rename_i c0 hk
          obtain ⟨nz, o⟩ := w.own k a c0 ka hk
          exact deref_ok w h (o.den nz fun b z => .inl z)
        · cases h
      | lst ds =>
        dsimp only at h
        obtain ⟨es, h1, rfl⟩ := Option.map_eq_some_iff.mp h
        unfold Den at q ⊢
        obtain ⟨a, vs, r, nb, e, t⟩ := q
        exact ⟨a, vs, r, nb, e, derefs_ok w h1 t⟩
      | tup ds =>
        dsimp only at h
        obtain ⟨es, h1, rfl⟩ := Option.map_eq_some_iff.mp h
        unfold Den at q ⊢
        obtain ⟨a, vs, r, e, t⟩ := q
        exact ⟨a, vs, r, e, derefs_ok w h1 t⟩
      | dic ks ds =>
        dsimp only at h
        obtain ⟨es, h1, rfl⟩ := Option.map_eq_some_iff.mp h
        unfold Den at q ⊢
        obtain ⟨a, vs, r, nb, e, el, t⟩ := q
        exact ⟨a, vs, r, nb, e, el, derefs_ok w h1 t⟩
      | _ => cases h
theorem derefs_ok {T : List (Addr × Str)} {Z : Addr → Prop} {L L0 : List Addr} {st : Sto} {H : Hp} (w : Wd T Z L st H) : ∀ {n : Nat} {ds es : List Dt} {vs : List V}, derefs st n ds = some es → Dens L Z H ds vs → Dens L0 Z H es vs
  | n, [], es, vs, h, q => by
    have e : es = [] := by
      cases n <;> (unfold derefs at h; cases h; rfl)
    subst e
    unfold Dens at q ⊢
    exact q
  | 0, d :: ds, es, vs, h, q => by
    unfold derefs at h
    split at h
    · rename_i hn
      cases h
      exact q.anyL hn
    · cases h
  | n + 1, d :: ds, es, vs, h, q => by
    unfold derefs at h
    obtain ⟨e, h1, h2⟩ := bind_some' h
    obtain ⟨es', h3, rfl⟩ := Option.map_eq_some_iff.mp h2
    obtain ⟨v, r, rfl, p, t⟩ := q.uncons
    exact .cons (deref_ok w h1 p) (derefs_ok w h3 t)
end
def fV (F : List Dt → Sto → Option (Dt × Sto)) : List Dt → Option Dt := fun ds => (F ds []).bind fun x => deref x.2 6 x.1
def fR (F : List Dt → Sto → Option (Dt × Sto)) : List Dt → Option Dt := fun ds => (F ds []).bind fun x => match x.1 with
  | .ref k => (match x.2[k]? with
    | some (some (.lst ds)) => (derefs (x.2.set k none) 6 ds).map .lst
    | some (some (.dic ks ds)) => (derefs (x.2.set k none) 6 ds).map (.dic ks)
    | _ => none)
  | _ => none
def liftV (f : List Dt → Option Dt) : List Dt → Sto → Option (Dt × Sto) := fun ds st => if noRefs ds = true then (f ds).map fun d => (d, st) else none
def liftR (f : List Dt → Option Dt) : List Dt → Sto → Option (Dt × Sto) := fun ds st => if noRefs ds = true then (f ds).map fun d => (.ref st.length, st ++ [some d]) else none
section
variable {T : List (Addr × Str)} {Z : Addr → Prop} {L : List Addr} {st : Sto} {H : Hp}
theorem bad_nil {a : Addr} : Bad Z [] [] a ↔ Z a := ⟨fun z => z.elim id fun ⟨k, d, h, _⟩ => by simp at h, .inl⟩
/-- a callee's world, in which all that is live here is not to be touched -/
theorem Wd.inner (w : Wd T Z L st H) : Wd T (Bad Z L st) [] [] H :=
  ⟨w.tabs, rfl, fun i j a d e h => by simp at h, fun k a d h => by simp at h, fun a z => z.elim (w.zt a) w.livTrk⟩
theorem bad_inner : Bad (Bad Z L st) [] [] = Bad Z L st := funext fun a => propext bad_nil
/-- .. and back -/
theorem Wd.outer {L' : List Addr} {st' : Sto} {H' : Hp} (w : Wd T Z L st H) (f : Af T (Bad Z L st) [] [] H L' st' H') : Af T Z L st H L st H' := by
  have nl : ∀ b, ¬ Liv ([] : List Addr) ([] : Sto) b := fun b ⟨k, d, h, _⟩ => by simp at h
  have st : ∀ b u, H b = some u → (∀ ps, u ≠ .tbl ps) → H' b = some u := fun b u e n => f.kp b u e (nl b) n
  refine ⟨⟨f.wd.tabs, w.len, w.inj, fun k a d h1 h2 => ?_, fun a z => f.trk a (w.zt a z)⟩, ⟨[], by simp⟩, fun b u e _ n => st b u e n, fun a l => .inl l, f.trk, f.tp, fun k a h e => absurd (List.getElem?_eq_some_iff.mp e).1 (by omega), fun a z => .inl z⟩
  obtain ⟨nz, o, e, q⟩ := w.own k a d h1 h2
  refine ⟨nz, o, st a o e fun ps z => ?_, q.imp fun ds vs t => t.stay st⟩
  rcases q.kind with ⟨xs, y⟩ | ⟨kvs, y⟩ <;> (rw [y] at z; cases z)
variable {P : Program} {w : World} {K : PySem.W.Frag} {mg : Str → Option Value} {base : Heap} {k n : Nat} {f : Addr} {fd : FuncData} {ps : List Str} {F : List Dt → Sto → Option (Dt × Sto)}
theorem gfn_V (G : GFn P w K mg base k f fd ps (SpF T n F)) : GFn P w K mg base k f fd ps (SpF T n (liftV (fV F))) := by
  refine G.imp fun vs H Q h => ?_
  obtain ⟨Z, L, st, ds, d, st', hl, wd, dn, hF, q⟩ := h
  unfold liftV at hF
  split at hF
  case isFalse => cases hF
  case isTrue hn =>
  obtain ⟨d1, e1, e2⟩ := Option.map_eq_some_iff.mp hF
  cases e2
  obtain ⟨⟨d0, st0⟩, e3, e4⟩ := bind_some' e1
  refine ⟨Bad Z L st, [], [], ds, d0, st0, hl, wd.inner, by rw [bad_inner]; exact dn.anyL hn, e3, fun v H' L' ff p => ?_⟩
  exact q v H' L (wd.outer ff) (deref_ok ff.wd e4 (p.mono fun b z => .inl z))
theorem set_none {st : Sto} {j i : Nat} {x : Dt} (c : (st.set j none)[i]? = some (some x)) : j ≠ i ∧ st[i]? = some (some x) := by
  by_cases hj : j = i
  · subst hj
    rw [List.getElem?_set, if_pos rfl] at c
    split at c <;> cases c
  · rw [List.getElem?_set_ne hj] at c; exact ⟨hj, c⟩
/-- a live object is set apart -/
theorem Wd.toZ {a : Addr} {j : Nat} {c : Dt} (w : Wd T Z L st H) (h1 : L[j]? = some a) (h2 : st[j]? = some (some c)) : Wd T (zAnd Z a) L (st.set j none) H ∧ OwnAt L (Bad (zAnd Z a) L (st.set j none)) H a c := by
  have eb : ∀ b, Bad (zAnd Z a) L (st.set j none) b → Bad Z L st b := fun b z => by
    rcases z with (z | z) | ⟨i, d, i1, i2⟩
    · exact .inl z
    · rw [z]; exact .inr ⟨j, c, h1, h2⟩
    · exact .inr ⟨i, d, i1, (set_none i2).2⟩
  have tr : ∀ ds vs, Dens L (Bad Z L st) H ds vs → Dens L (Bad (zAnd Z a) L (st.set j none)) H ds vs := fun ds vs t => t.mono eb
  refine ⟨⟨w.tabs, by rw [List.length_set]; exact w.len, fun i k b x y a1 a2 a3 a4 => w.inj i k b x y a1 a2 (set_none a3).2 (set_none a4).2, fun i b d a1 a2 => ?_, fun b z => ?_⟩, ?_⟩
  · obtain ⟨nj, a2⟩ := set_none a2
    obtain ⟨nz, o, e, q⟩ := w.own i b d a1 a2
    refine ⟨fun z => z.elim nz fun y => nj ?_, o, e, q.imp tr⟩
    subst y
    exact w.inj j i b c d h1 a1 h2 a2
  · rcases z with z | z
    · exact w.zt b z
    · rw [z]; exact w.livTrk ⟨j, c, h1, h2⟩
  · obtain ⟨nz, o, e, q⟩ := w.own j a c h1 h2
    exact ⟨o, e, q.imp tr⟩
theorem gfn_R (G : GFn P w K mg base k f fd ps (SpF T n F)) : GFn P w K mg base k f fd ps (SpF T n (liftR (fR F))) := by
  refine G.imp fun vs H Q h => ?_
  obtain ⟨Z, L, st, ds, d, st', hl, wd, dn, hF, q⟩ := h
  unfold liftR at hF
  split at hF
  case isFalse => cases hF
  case isTrue hn =>
  obtain ⟨d1, e1, e2⟩ := Option.map_eq_some_iff.mp hF
  cases e2
  obtain ⟨⟨d0, st0⟩, e3, e4⟩ := bind_some' e1
  refine ⟨Bad Z L st, [], [], ds, d0, st0, hl, wd.inner, by rw [bad_inner]; exact dn.anyL hn, e3, fun v H' L' ff p => ?_⟩
  cases d0 with
  | ref j =>
    dsimp only at e4
    have fo := wd.outer ff
    unfold Den at p
    obtain ⟨a, ja, rfl⟩ := p
    have na : H a = none := ff.fr j a (Nat.zero_le _) ja
    have nl : ∀ b, ¬ Liv ([] : List Addr) ([] : Sto) b := fun b ⟨k, d, h, _⟩ => by simp at h
    have stay : ∀ b u, H b = some u → (∀ ps, u ≠ .tbl ps) → H' b = some u := fun b u e n => ff.kp b u e (nl b) n
    have hz : ∀ b, zAnd (Bad Z L st) a b ↔ Bad (zAnd Z a) L st b := fun b => by
      constructor
      · rintro ((z | z) | z)
        · exact .inl (.inl z)
        · exact .inr z
        · exact .inl (.inr z)
      · rintro ((z | z) | z)
        · exact .inl (.inl z)
        · exact .inr z
        · exact .inl (.inr z)
    -- the caller's world with a set apart
    have fz : Afz T Z L st H (zAnd Z a) L st H' := by
      refine ⟨⟨fo.wd.tabs, wd.len, wd.inj, fun i b x a1 a2 => ?_, fun b z => ?_⟩, fo.pre, fo.kp, fo.nw, fo.trk, fo.tp, fo.fr, fun b z => z.elim .inl fun y => .inr (by rw [y]; exact na)⟩
      · obtain ⟨nz, o, e, qq⟩ := wd.own i b x a1 a2
        refine ⟨fun z => z.elim nz (ne_of_none e na), o, stay b o e fun ps z => ?_, qq.imp fun ds vs t => ?_⟩
        · rcases qq.kind with ⟨xs, y⟩ | ⟨kvs, y⟩ <;> (rw [y] at z; cases z)
        · exact ((t.away na).stay stay).mono fun b z => by
            rcases (hz b).mpr z with z | z
            · exact .inl z
            · exact .inr z
      · rcases z with z | z
        · exact fo.trk b (wd.zt b z)
        · split at e4
          · rename_i xs hx
            rw [z]; exact ff.wd.livTrk ⟨j, _, ja, hx⟩
          · rename_i ks xs hx
            rw [z]; exact ff.wd.livTrk ⟨j, _, ja, hx⟩
          · cases e4
    have fin : ∀ o, H' a = some o → OwnO L (Bad (zAnd Z a) L st) H' o d1 → Q (.ref a) H' := fun o ho hd => by
      refine q _ H' (L ++ [a]) (fz.claim wd na ho hd) ?_
      unfold Den
      exact ⟨a, by rw [← wd.len]; simp, rfl⟩
    split at e4
    · rename_i xs hx
      obtain ⟨es, e5, rfl⟩ := Option.map_eq_some_iff.mp e4
      obtain ⟨wz, o, ho, us, rfl, t⟩ := ff.wd.toZ ja hx
      refine fin _ ho ⟨us, rfl, ?_⟩
      exact (derefs_ok (L0 := L) wz e5 (t.mono fun b z => .inl z)).mono fun b z => (hz b).mpr z
    · rename_i ks xs hx
      obtain ⟨es, e5, rfl⟩ := Option.map_eq_some_iff.mp e4
      obtain ⟨wz, o, ho, us, rfl, el, t⟩ := ff.wd.toZ ja hx
      refine fin _ ho ⟨us, rfl, el, ?_⟩
      exact (derefs_ok (L0 := L) wz e5 (t.mono fun b z => .inl z)).mono fun b z => (hz b).mpr z
    · cases e4
  | _ => cases e4
end
mutual
theorem Den.stayB {L : List Addr} {B : Addr → Prop} {H H' : Hp} (k : ∀ b u, H b = some u → (∀ ps, u ≠ .tbl ps) → ((∃ xs, u = .tup xs) ∨ ¬ B b) → H' b = some u) : ∀ {d : Dt} {v : V}, Den L B H d v → Den L B H' d v
  | .non, _, q => by unfold Den at q ⊢; exact q
  | .bl _, _, q => by unfold Den at q ⊢; exact q
  | .int _, _, q => by unfold Den at q ⊢; exact q
  | .str _, _, q => by unfold Den at q ⊢; exact q
  | .ref _, _, q => by unfold Den at q ⊢; exact q
  | .lst ds, _, q => by
    unfold Den at q ⊢
    obtain ⟨b, vs, r, nb, e, t⟩ := q
    exact ⟨b, vs, r, nb, k _ _ e (fun ps z => by cases z) (.inr nb), Dens.stayB k t⟩
  | .tup ds, _, q => by
    unfold Den at q ⊢
    obtain ⟨b, vs, r, e, t⟩ := q
    exact ⟨b, vs, r, k _ _ e (fun ps z => by cases z) (.inl ⟨_, rfl⟩), Dens.stayB k t⟩
  | .dic ks ds, _, q => by
    unfold Den at q ⊢
    obtain ⟨b, vs, r, nb, e, el, t⟩ := q
    exact ⟨b, vs, r, nb, rd_of e fun o eo => k b o eo (fun ps z => by subst z; rcases e with e | ⟨x, e⟩ <;> rw [eo] at e <;> cases e) (.inr nb), el, Dens.stayB k t⟩
theorem Dens.stayB {L : List Addr} {B : Addr → Prop} {H H' : Hp} (k : ∀ b u, H b = some u → (∀ ps, u ≠ .tbl ps) → ((∃ xs, u = .tup xs) ∨ ¬ B b) → H' b = some u) : ∀ {ds : List Dt} {vs : List V}, Dens L B H ds vs → Dens L B H' ds vs
  | [], _, q => by unfold Dens at q ⊢; exact q
  | d :: ds, _, q => by
    obtain ⟨v, r, rfl, p, t⟩ := q.uncons
    exact .cons (Den.stayB k p) (Dens.stayB k t)
end
/-! ### defs that change their first argument -/
def fE (F : List Dt → Sto → Option (Dt × Sto)) : Dt → List Dt → Option (Dt × Dt) := fun c ds => (F (.ref 0 :: ds) [some c]).bind fun x => match x.2[0]? with
  | some (some c') => if noRef c' = true then (deref (x.2.set 0 none) 6 x.1).map fun d => (d, c') else none
  | _ => none
def liftE (f : Dt → List Dt → Option (Dt × Dt)) : List Dt → Sto → Option (Dt × Sto) := fun ds st => match ds with
  | .ref k :: ds => if noRefs ds = true then (match st[k]? with
    | some (some c) => if noRef c = true then (f c ds).map fun x => (x.1, st.set k (some x.2)) else none
    | _ => none) else none
  | _ => none
theorem OwnO.anyL {L L' : List Addr} {B : Addr → Prop} {H : Hp} {o : HO} : ∀ {d : Dt}, noRef d = true → OwnO L B H o d → OwnO L' B H o d
  | .lst _, n, h => by unfold noRef at n; obtain ⟨vs, e, t⟩ := h; exact ⟨vs, e, t.anyL n⟩
  | .dic _ _, n, h => by unfold noRef at n; obtain ⟨vs, e, el, t⟩ := h; exact ⟨vs, e, el, t.anyL n⟩
section
variable {T : List (Addr × Str)} {P : Program} {w : World} {K : PySem.W.Frag} {mg : Str → Option Value} {base : Heap} {k n : Nat} {f : Addr} {fd : FuncData} {ps : List Str} {F : List Dt → Sto → Option (Dt × Sto)}
theorem gfn_E (G : GFn P w K mg base k f fd ps (SpF T n F)) : GFn P w K mg base k f fd ps (SpF T n (liftE (fE F))) := by
  refine G.imp fun vs H Q h => ?_
  obtain ⟨Z, L, st, ds, d, st', hl, wd, dn, hF, q⟩ := h
  unfold liftE at hF
  split at hF
  case h_2 => cases hF
  case h_1 k ds =>
  split at hF
  case isFalse => cases hF
  case isTrue hn =>
  split at hF
  case h_2 => cases hF
  case h_1 c hc =>
  split at hF
  case isFalse => cases hF
  case isTrue hnc =>
  obtain ⟨⟨d1, c1⟩, e1, e2⟩ := Option.map_eq_some_iff.mp hF
  cases e2
  obtain ⟨⟨d0, st0⟩, e3, e4⟩ := bind_some' e1
  obtain ⟨v0, us, rfl, p0, dn'⟩ := dn.uncons
  unfold Den at p0
  obtain ⟨a, ka, rfl⟩ := p0
  have la : Liv L st a := ⟨k, c, ka, hc⟩
  obtain ⟨nza, oa, ea, qa⟩ := wd.own k a c ka hc
  have ta : ∀ xs, oa ≠ .tup xs := fun xs z => by
    rcases qa.kind with ⟨ys, y⟩ | ⟨kvs, y⟩ <;> (rw [y] at z; cases z)
  let Z1 : Addr → Prop := fun b => Bad Z L st b ∧ b ≠ a
  have l1 : ∀ b, Liv [a] [some c] b ↔ b = a := fun b => by
    constructor
    · rintro ⟨j, x, j1, j2⟩
      cases j with
      | zero => simp at j1; exact j1.symm
      | succ j => simp at j1
    · rintro rfl
      exact ⟨0, c, rfl, rfl⟩
  have b1 : ∀ b, Bad Z1 [a] [some c] b → Bad Z L st b := fun b z => by
    rcases z with z | z
    · exact z.1
    · rw [(l1 b).mp z]; exact .inr la
  have w1 : Wd T Z1 [a] [some c] H := by
    refine ⟨wd.tabs, rfl, fun i j b x y a1 a2 _ _ => ?_, fun j b x a1 a2 => ?_, fun b z => z.1.elim (wd.zt b) wd.livTrk⟩
    · cases i with
      | zero =>
        cases j with
        | zero => rfl
        | succ j => simp at a2
      | succ i => simp at a1
    · cases j with
      | zero =>
        simp at a1 a2
        subst a1; subst a2
        exact ⟨fun z => z.2 rfl, oa, ea, (qa.imp fun ds vs t => t.mono b1).anyL hnc⟩
      | succ j => simp at a1
  have da : Dens [a] (Bad Z1 [a] [some c]) H (.ref 0 :: ds) (.ref a :: us) := by
    refine .cons ?_ ((dn'.mono b1).anyL hn)
    unfold Den
    exact ⟨a, rfl, rfl⟩
  refine ⟨Z1, [a], [some c], .ref 0 :: ds, d0, st0, hl, w1, da, e3, fun v H' L' ff p => ?_⟩
  dsimp only at e4
  split at e4
  case h_2 => cases e4
  case h_1 c' hc' =>
  split at e4
  case isFalse => cases e4
  case isTrue hnc' =>
  obtain ⟨d2, e5, e6⟩ := Option.map_eq_some_iff.mp e4
  cases e6
  have a0 : L'[0]? = some a := ff.ix rfl
  have lst : ∀ b, Liv L (st.set k (some c1)) b → Liv L st b := fun b ⟨j, x, j1, j2⟩ => by
    by_cases hj : k = j
    · subst hj
      rw [ka] at j1; cases j1
      exact la
    · rw [List.getElem?_set_ne hj] at j2
      exact ⟨j, x, j1, j2⟩
  have bz : ∀ b, Bad Z L (st.set k (some c1)) b → zAnd Z1 a b := fun b z => by
    by_cases hb : b = a
    · exact .inr hb
    · exact .inl ⟨z.elim .inl fun z => .inr (lst b z), hb⟩
  have bz2 : ∀ b, zAnd Z1 a b → Bad Z1 L' st0 b := fun b z => by
    rcases z with z | z
    · exact .inl z
    · rw [z]; exact .inr ⟨0, c1, a0, hc'⟩
  have stay : ∀ b u, b ≠ a → H b = some u → (∀ ps, u ≠ .tbl ps) → H' b = some u := fun b u nb e nt => ff.kp b u e (fun z => nb ((l1 b).mp z)) nt
  have bs : ∀ b, Bad Z L (st.set k (some c1)) b → Bad Z L st b := fun b z => z.elim .inl fun z => .inr (lst b z)
  have trD : ∀ ds vs, Dens L (Bad Z L st) H ds vs → Dens L (Bad Z L (st.set k (some c1))) H' ds vs := fun ds vs t =>
    (t.stayB fun b u e nt z => stay b u (fun y => by
      rcases z with ⟨xs, z⟩ | z
      · subst y; rw [ea] at e; cases e; exact ta xs z
      · exact z (by rw [y]; exact .inr la)) e nt).mono bs
  have hlt : k < st.length := (List.getElem?_eq_some_iff.mp hc).1
  refine q v H' L ⟨⟨ff.wd.tabs, by rw [List.length_set]; exact wd.len, fun i j b x y a1 a2 a3 a4 => ?_, fun j b x a1 a2 => ?_, fun b z => ff.trk b (wd.zt b z)⟩, ⟨[], by simp⟩, fun b u e nl nt => stay b u (fun y => nl (by rw [y]; exact la)) e nt, fun b z => .inl (lst b z), ff.trk, ff.tp, fun j b h e => absurd (List.getElem?_eq_some_iff.mp e).1 (by omega), fun b z => .inl z⟩ ?_
  · have g : ∀ (i : Nat) x, L[i]? = some b → (st.set k (some c1))[i]? = some (some x) → ∃ x', st[i]? = some (some x') := fun i x g1 g2 => by
      by_cases hj : k = i
      · subst hj; exact ⟨c, hc⟩
      · rw [List.getElem?_set_ne hj] at g2; exact ⟨x, g2⟩
    obtain ⟨x', g1⟩ := g i x a1 a3
    obtain ⟨y', g2⟩ := g j y a2 a4
    exact wd.inj i j b x' y' a1 a2 g1 g2
  · by_cases hj : k = j
    · subst hj
      rw [ka] at a1; cases a1
      rw [List.getElem?_set_self hlt] at a2
      cases a2
      obtain ⟨_, o, eo, qo⟩ := ff.wd.own 0 a c1 a0 hc'
      exact ⟨nza, o, eo, (qo.imp fun ds vs t => t.mono fun b z => bz2 b (bz b z)).anyL hnc'⟩
    · rw [List.getElem?_set_ne hj] at a2
      obtain ⟨nz, o, eo, qo⟩ := wd.own j b x a1 a2
      have nb : b ≠ a := fun y => by
        subst y
        exact hj (wd.inj k j b c x ka a1 hc a2)
      refine ⟨nz, o, stay b o nb eo fun ps z => ?_, qo.imp trD⟩
      rcases qo.kind with ⟨ys, y⟩ | ⟨kvs, y⟩ <;> (rw [y] at z; cases z)
  · obtain ⟨wz, _⟩ := ff.wd.toZ a0 hc'
    exact (deref_ok (L0 := L) wz e5 (p.mono bz2)).mono bz
end
end HB

set_option Elab.async false
set_option linter.all false
set_option maxRecDepth 100000
set_option maxHeartbeats 1000000
/-! HB, part f: operators and built-ins by values. -/
namespace HB
open PySem PySem.Spec PyProof.Rows L2

/-! ### what may be read -/
def asL (st : Sto) : Dt → Option (List Dt)
  | .lst ds => some ds
  | .ref k => (match st[k]? with
    | some (some (.lst ds)) => some ds
    | _ => none)
  | _ => none
def asD (st : Sto) : Dt → Option (List Key × List Dt)
  | .dic ks ds => some (ks, ds)
  | .ref k => (match st[k]? with
    | some (some (.dic ks ds)) => some (ks, ds)
    | _ => none)
  | _ => none
section
variable {T : List (Addr × Str)} {Z : Addr → Prop} {L : List Addr} {st : Sto} {H : Hp} {d : Dt} {v : V}
theorem asL_ok {ds : List Dt} (w : Wd T Z L st H) (h : Den L (Bad Z L st) H d v) (e : asL st d = some ds) : ∃ a vs, v = .ref a ∧ H a = some (.lst vs) ∧ Dens L (Bad Z L st) H ds vs := by
  cases d with
  | lst xs =>
    cases e
    unfold Den at h
    obtain ⟨a, vs, r, _, e, t⟩ := h
    exact ⟨a, vs, r, e, t⟩
  | ref k =>
    unfold asL at e
    dsimp only at e
    split at e
    · rename_i xs hk
      cases e
      unfold Den at h
      obtain ⟨a, ka, r⟩ := h
      obtain ⟨_, o, eo, vs, rfl, t⟩ := w.own k a _ ka hk
      exact ⟨a, vs, r, eo, t⟩
    · cases e
  | _ => cases e
theorem asD_ok {ks : List Key} {ds : List Dt} (w : Wd T Z L st H) (h : Den L (Bad Z L st) H d v) (e : asD st d = some (ks, ds)) : ∃ a vs, v = .ref a ∧ Rd H a (.dK (ks.zip vs)) ∧ ks.length = vs.length ∧ Dens L (Bad Z L st) H ds vs := by
  cases d with
  | dic xs ys =>
    cases e
    unfold Den at h
    obtain ⟨a, vs, r, _, e, el, t⟩ := h
    exact ⟨a, vs, r, e, el, t⟩
  | ref k =>
    unfold asD at e
    dsimp only at e
    split at e
    · rename_i xs ys hk
      cases e
      unfold Den at h
      obtain ⟨a, ka, r⟩ := h
      obtain ⟨_, o, eo, vs, rfl, el, t⟩ := w.own k a _ ka hk
      exact ⟨a, vs, r, .inl eo, el, t⟩
    · cases e
  | _ => cases e
end

/-! ### several rules for one operator -/
theorem OpR.or {X : Cx} {f : Value → Value → Sem Value} {r r' : R2} (h : OpR X f r) (h' : OpR X f r') : OpR X f (fun x y H Q => r x y H Q ∨ r' x y H Q) := by
  intro pins s s1 H x y v u Q I rx ry q
  rcases q with q | q
  · exact h pins s s1 H x y v u Q I rx ry q
  · exact h' pins s s1 H x y v u Q I rx ry q
theorem CallR.or {X : Cx} {f : Value} {r r' : List V → Hp → VK → Prop} (h : CallR X f r) (h' : CallR X f r') : CallR X f (fun x H Q => r x H Q ∨ r' x H Q) := by
  intro pins s s1 H x v Q I rx q
  rcases q with q | q
  · exact h pins s s1 H x v Q I rx q
  · exact h' pins s s1 H x v Q I rx q
/-! ### numbers -/
def gI (C : Int → Int → Bool) (f : Int → Int → Int) : Sto → Dt → Dt → Option (Dt × Sto) := fun st x y => match x, y with
  | .int i, .int j => if C i j = true then some (.int (f i j), st) else none
  | _, _ => none
def gIb (f : Int → Int → Bool) : Sto → Dt → Dt → Option (Dt × Sto) := fun st x y => match x, y with
  | .int i, .int j => some (.bl (f i j), st)
  | _, _ => none
section
variable {T : List (Addr × Str)}
theorem vo_I {C : Int → Int → Prop} {Cb : Int → Int → Bool} {f : Int → Int → Int} (hC : ∀ i j, Cb i j = true → C i j) : VO2 T (rI C fun i j => .int (f i j)) (gI Cb f) := by
  intro Z L st H x y dx dy d st' Q w hx hy h q
  unfold gI at h
  split at h
  · rename_i i j
    split at h
    · rename_i hc
      cases h
      exact ⟨i, j, den_int hx, den_int hy, hC i j hc, q _ H L (.refl w) Den.int⟩
    · cases h
  · cases h
theorem vo_I0 {f : Int → Int → Int} : VO2 T (rI0 fun i j => .int (f i j)) (gI (fun _ _ => true) f) := by
  intro Z L st H x y dx dy d st' Q w hx hy h q
  unfold gI at h
  split at h
  · rename_i i j
    cases h
    exact ⟨i, j, den_int hx, den_int hy, q _ H L (.refl w) Den.int⟩
  · cases h
theorem vo_Ib {f : Int → Int → Bool} : VO2 T (rI0 fun i j => .bl (f i j)) (gIb f) := by
  intro Z L st H x y dx dy d st' Q w hx hy h q
  unfold gIb at h
  split at h
  · rename_i i j
    cases h
    exact ⟨i, j, den_int hx, den_int hy, q _ H L (.refl w) Den.bl⟩
  · cases h
end
/-- great powers -/
def CPowW (i j : Int) : Prop := 0 ≤ j ∧ (Builtin.Int.intBits i : Int) * j ≤ 2 ^ 27
theorem op_powW {X : Cx} : OpR X (binaryOp .Pow) (rI CPowW fun i j => .int (i ^ j.toNat)) := opI fun _ _ _ _ _ _ _ hc q => pow_int hc.1 hc.2 q

/-! ### + -/
def rAddS : R2 := fun x y H Q => ∃ i j, x = .str i ∧ y = .str j ∧ i.length + j.length ≤ sizeLine ∧ Q (.str (i ++ j)) H
def rAdd : R2 := fun x y H Q => rI0 (fun i j => .int (i + j)) x y H Q ∨ rAddS x y H Q ∨ rCat x y H Q
theorem op_Add {X : Cx} : OpR X (binaryOp .Add) rAdd := OpR.or op_add (OpR.or op_add_str op_cat)
def gAdd (st : Sto) (x y : Dt) : Option (Dt × Sto) := match x, y with
  | .int i, .int j => some (.int (i + j), st)
  | .str i, .str j => if i.length + j.length ≤ sizeLine then some (.str (i ++ j), st) else none
  | x, y => (match asL st x, asL st y with
    | some a, some b => if a.length + b.length ≤ sizeLine then some (.lst (a ++ b), st) else none
    | _, _ => none)
section
variable {T : List (Addr × Str)}
theorem vo_Add : VO2 T rAdd gAdd := by
  intro Z L st H x y dx dy d st' Q w hx hy h q
  unfold gAdd at h
  split at h
  · cases h
    exact .inl ⟨_, _, den_int hx, den_int hy, q _ H L (.refl w) Den.int⟩
  · split at h
    · rename_i hl
      cases h
      exact .inr (.inl ⟨_, _, den_str hx, den_str hy, hl, q _ H L (.refl w) Den.str⟩)
    · cases h
  · split at h
    · rename_i a b ha hb
      split at h
      · rename_i hl
        cases h
        obtain ⟨p1, vs, rfl, e1, t1⟩ := asL_ok w hx ha
        obtain ⟨p2, us, rfl, e2, t2⟩ := asL_ok w hy hb
        refine .inr (.inr ⟨p1, p2, vs, us, rfl, rfl, e1, e2, by rw [← t1.len, ← t2.len]; exact hl, fun p np => q _ _ L (.new w np) (.newL w np (t1.append t2))⟩)
      · cases h
    · cases h
end

/-! ### flat data -/
def flatD : Dt → Option V
  | .non => some .non
  | .bl b => some (.bl b)
  | .int i => some (.int i)
  | .str x => some (.str x)
  | _ => none
theorem flatD_ok {L : List Addr} {B : Addr → Prop} {H : Hp} {d : Dt} {v x : V} (h : Den L B H d v) (e : flatD d = some x) : v = x ∧ flatV x = true := by
  cases d <;> (unfold flatD at e; first | (cases e; done) | (cases e; unfold Den at h; exact ⟨h, rfl⟩))
def flats : List Dt → Option (List V)
  | [] => some []
  | d :: ds => (flatD d).bind fun x => (flats ds).map fun xs => x :: xs
theorem flats_ok {L : List Addr} {B : Addr → Prop} {H : Hp} : ∀ {ds : List Dt} {vs xs : List V}, Dens L B H ds vs → flats ds = some xs → vs = xs ∧ xs.all flatV = true
  | [], vs, xs, h, e => by
    cases e
    unfold Dens at h
    exact ⟨h, rfl⟩
  | d :: ds, vs, xs, h, e => by
    obtain ⟨v, r, rfl, p, t⟩ := h.uncons
    obtain ⟨x, e1, e2⟩ := bind_some' e
    obtain ⟨ys, e3, rfl⟩ := Option.map_eq_some_iff.mp e2
    obtain ⟨h1, h2⟩ := flatD_ok p e1
    obtain ⟨h3, h4⟩ := flats_ok t e3
    subst h1; subst h3
    exact ⟨rfl, by rw [List.all_cons, h2, h4]; rfl⟩
theorem flatD_str (x : Str) : flatD (.str x) = some (.str x) := rfl
theorem flats_map {α : Type} (f : α → Dt) (g : α → V) (h : ∀ a, flatD (f a) = some (g a)) : ∀ l : List α, flats (l.map f) = some (l.map g)
  | [] => rfl
  | a :: l => by
    show (flatD (f a)).bind _ = _
    rw [h a, Option.bind_some, flats_map f g h l]
    rfl
/-! ### nested data as the library's -/
def py (st : Sto) : Nat → Dt → Option PyData
  | 0, _ => none
  | n + 1, d => match d with
    | .non => some .none
    | .bl b => some (.bool b)
    | .int i => some (.int i)
    | .str x => some (.str x)
    | .ref k => (match st[k]? with
      | some (some c) => py st n c
      | _ => none)
    | .lst ds => (ds.mapM (py st n)).map .list
    | .tup ds => (ds.mapM (py st n)).map .tuple
    | .dic _ _ => none
theorem py_ok {T : List (Addr × Str)} {Z B : Addr → Prop} {L : List Addr} {st : Sto} {H : Hp} {K : PySem.W.Frag} (w : Wd T Z L st H) : ∀ {n : Nat} {d : Dt} {p : PyData} {v : V}, py st n d = some p → Den L Z H d v → Dp K H v p
  | 0, d, p, v, h, q => by cases h
  | n + 1, d, p, v, h, q => by
    have all : ∀ {ds : List Dt} {ps : List PyData} {vs : List V}, ds.mapM (py st n) = some ps → Dens L Z H ds vs → DpAll K H vs ps := by
      intro ds
      induction ds with
      | nil =>
        intro ps vs h q
        cases h
        unfold Dens at q
        subst q
        exact .nil
      | cons d ds ih =>
        intro ps vs h q
        rw [List.mapM_cons] at h
        obtain ⟨p, h1, h2⟩ := bind_some' h
        obtain ⟨ps', h3, h4⟩ := bind_some' h2
        cases h4
        obtain ⟨v, r, rfl, a, t⟩ := q.uncons
        exact .cons (py_ok (B := B) w h1 a) (ih h3 t)
    unfold py at h
    cases d with
    | non => cases h; unfold Den at q; subst q; exact .non
    | bl b => cases h; unfold Den at q; subst q; exact .bl b
    | int i => cases h; unfold Den at q; subst q; exact .int i
    | str x => cases h; unfold Den at q; subst q; exact .str x
    | ref k =>
      dsimp only at h
      unfold Den at q
      obtain ⟨a, ka, rfl⟩ := q
      split at h
      · rename_i c hk
        obtain ⟨nz, o⟩ := w.own k a c ka hk
        exact py_ok (B := B) w h (o.den nz fun b z => .inl z)
      · cases h
    | lst ds =>
      dsimp only at h
      obtain ⟨ps, h1, rfl⟩ := Option.map_eq_some_iff.mp h
      unfold Den at q
      obtain ⟨a, vs, rfl, nb, e, t⟩ := q
      exact .lst (SqL.of e) (all h1 t)
    | tup ds =>
      dsimp only at h
      obtain ⟨ps, h1, rfl⟩ := Option.map_eq_some_iff.mp h
      unfold Den at q
      obtain ⟨a, vs, rfl, e, t⟩ := q
      exact .tup (SqT.of e) (all h1 t)
    | dic ks ds => cases h

/-! ### == and != -/
def rEqA (K : PySem.W.Frag) : R2 := fun x y H Q => rEq x y H Q ∨ rEqD K x y H Q
def rNeA (K : PySem.W.Frag) : R2 := fun x y H Q => rNe x y H Q ∨ rNeD K x y H Q
theorem op_EqA {X : Cx} (hu : X.A.units + 64 < cLine) : OpR X (compareOp .Eq) (rEqA X.K) := OpR.or op_eq (op_eqD hu)
theorem op_NeA {X : Cx} (hu : X.A.units + 64 < cLine) : OpR X (compareOp .NotEq) (rNeA X.K) := OpR.or op_ne (op_neD hu)
def eqD (st : Sto) (x y : Dt) : Option Bool := match flatD x, flatD y with
  | some a, some b => if scal a b = true then some (decide (a = b)) else none
  | _, _ => (py st 8 x).bind fun a => (py st 8 y).bind fun b => if (SeqAt.shaped a && SeqAt.shaped b) = true then some (PyData.eqv a b) else none
def gEq (st : Sto) (x y : Dt) : Option (Dt × Sto) := (eqD st x y).map fun b => (.bl b, st)
def gNe (st : Sto) (x y : Dt) : Option (Dt × Sto) := (eqD st x y).map fun b => (.bl (!b), st)
section
variable {T : List (Addr × Str)} {K : PySem.W.Frag}
theorem vo_Eq : VO2 T (rEqA K) gEq := by
  intro Z L st H x y dx dy d st' Q w hx hy h q
  obtain ⟨b, h1, h2⟩ := Option.map_eq_some_iff.mp h
  cases h2
  have q' := q _ H L (.refl w) Den.bl
  unfold eqD at h1
  split at h1
  · rename_i a c ha hc
    split at h1
    · rename_i hs
      cases h1
      obtain ⟨rfl, _⟩ := flatD_ok hx ha
      obtain ⟨rfl, _⟩ := flatD_ok hy hc
      exact .inl ⟨hs, q'⟩
    · cases h1
  · obtain ⟨a, e1, e2⟩ := bind_some' h1
    obtain ⟨c, e3, e4⟩ := bind_some' e2
    split at e4
    · rename_i hs
      cases e4
      rw [Bool.and_eq_true] at hs
      exact .inr ⟨a, c, py_ok (B := Z) w e1 (hx.mono fun b z => .inl z), py_ok (B := Z) w e3 (hy.mono fun b z => .inl z), hs.1, hs.2, q'⟩
    · cases e4
theorem vo_Ne : VO2 T (rNeA K) gNe := by
  intro Z L st H x y dx dy d st' Q w hx hy h q
  obtain ⟨b, h1, h2⟩ := Option.map_eq_some_iff.mp h
  cases h2
  have q' := q _ H L (.refl w) Den.bl
  unfold eqD at h1
  split at h1
  · rename_i a c ha hc
    split at h1
    · rename_i hs
      cases h1
      obtain ⟨rfl, _⟩ := flatD_ok hx ha
      obtain ⟨rfl, _⟩ := flatD_ok hy hc
      exact .inl ⟨hs, q'⟩
    · cases h1
  · obtain ⟨a, e1, e2⟩ := bind_some' h1
    obtain ⟨c, e3, e4⟩ := bind_some' e2
    split at e4
    · rename_i hs
      cases e4
      rw [Bool.and_eq_true] at hs
      exact .inr ⟨a, c, py_ok (B := Z) w e1 (hx.mono fun b z => .inl z), py_ok (B := Z) w e3 (hy.mono fun b z => .inl z), hs.1, hs.2, q'⟩
    · cases e4
end

/-! ### tables by parallel lists -/
def keyD : Dt → Option Key
  | .int i => some (.inl i)
  | .str x => some (.inr x)
  | _ => none
theorem keyD_ok {L : List Addr} {B : Addr → Prop} {H : Hp} {d : Dt} {v : V} {k : Key} (h : Den L B H d v) (e : keyD d = some k) : v = kV k := by
  cases d <;> (unfold keyD at e; first | (cases e; done) | (cases e; unfold Den at h; exact h))
def pGet {α : Type} (k : Key) : List Key → List α → Option α
  | k' :: ks, x :: xs => if k' = k then some x else pGet k ks xs
  | _, _ => none
def pSet {α : Type} (k : Key) (x : α) : List Key → List α → List α
  | k' :: ks, y :: ys => (if k' = k then x else y) :: pSet k x ks ys
  | _, _ => []
def pPut {α : Type} (k : Key) (x : α) (ks : List Key) (ys : List α) : List Key × List α := if (ks.any fun j => decide (j = k)) = true then (ks, pSet k x ks ys) else (ks ++ [k], ys ++ [x])
theorem pGet_val (k : Key) : ∀ (ks : List Key) (vs : List V), valV (ks.zip vs) k = pGet k ks vs
  | [], _ => rfl
  | _ :: _, [] => rfl
  | k' :: ks, v :: vs => by
    rw [List.zip_cons_cons]
    unfold pGet
    by_cases e : k' = k
    · rw [if_pos e]; exact valV_pos (p := (k', v)) e
    · rw [if_neg e, valV_neg (p := (k', v)) e, pGet_val k ks vs]
theorem pSet_len {α : Type} (k : Key) (x : α) : ∀ (ks : List Key) (ys : List α), ks.length = ys.length → (pSet k x ks ys).length = ys.length
  | [], [], _ => rfl
  | [], _ :: _, h => by simp at h
  | _ :: _, [], h => by simp at h
  | k' :: ks, y :: ys, h => by simp [pSet, pSet_len k x ks ys (by simpa using h)]
theorem pPut_len {α : Type} (k : Key) (x : α) {ks : List Key} {ys : List α} (h : ks.length = ys.length) : (pPut k x ks ys).1.length = (pPut k x ks ys).2.length := by
  unfold pPut
  split
  · simp [pSet_len k x ks ys h, h]
  · simp [h]
theorem pPut_keys {α β : Type} (k : Key) (x : α) (y : β) (ks : List Key) (xs : List α) (ys : List β) : (pPut k x ks xs).1 = (pPut k y ks ys).1 := by
  unfold pPut
  split <;> rfl
theorem zip_any (k : Key) : ∀ (ks : List Key) (vs : List V), ks.length = vs.length → ((ks.zip vs).any fun kv => decide (kv.1 = k)) = ks.any fun j => decide (j = k)
  | [], [], _ => by simp
  | [], _ :: _, h => by simp at h
  | _ :: _, [], h => by simp at h
  | k' :: ks, y :: ys, h => by
    rw [List.zip_cons_cons, List.any_cons, List.any_cons, zip_any k ks ys (by simpa using h)]
theorem zip_put (k : Key) (v : V) : ∀ (ks : List Key) (vs : List V), ks.length = vs.length → (ks.zip vs).map (fun kv => if kv.1 = k then (kv.1, v) else kv) = ks.zip (pSet k v ks vs)
  | [], [], _ => rfl
  | [], _ :: _, h => by simp at h
  | _ :: _, [], h => by simp at h
  | k' :: ks, y :: ys, h => by
    rw [List.zip_cons_cons, List.map_cons, zip_put k v ks ys (by simpa using h)]
    show _ = (k' :: ks).zip ((if k' = k then v else y) :: pSet k v ks ys)
    rw [List.zip_cons_cons]
    by_cases e : k' = k
    · rw [if_pos e, if_pos e]
    · rw [if_neg e, if_neg e]
theorem pPut_zip (k : Key) (v : V) {ks : List Key} {vs : List V} (h : ks.length = vs.length) : putK (ks.zip vs) k v = (pPut k v ks vs).1.zip (pPut k v ks vs).2 := by
  unfold putK pPut
  rw [zip_any k ks vs h]
  split
  · exact zip_put k v ks vs h
  · show ks.zip vs ++ [(k, v)] = (ks ++ [k]).zip (vs ++ [v])
    rw [List.zip_append h]
    rfl
theorem Dens.pSet {L : List Addr} {B : Addr → Prop} {H : Hp} {d : Dt} {v : V} (q : Den L B H d v) (k : Key) : ∀ {ks : List Key} {ds : List Dt} {vs : List V}, Dens L B H ds vs → Dens L B H (pSet k d ks ds) (pSet k v ks vs)
  | [], ds, vs, h => by unfold HB.pSet; exact .nil
  | k' :: ks, [], vs, h => by unfold Dens at h; subst h; exact .nil
  | k' :: ks, e :: ds, vs, h => by
    obtain ⟨w, r, rfl, p, t⟩ := h.uncons
    unfold HB.pSet
    refine .cons ?_ (Dens.pSet q k t)
    split
    · exact q
    · exact p
theorem Dens.pPut {L : List Addr} {B : Addr → Prop} {H : Hp} {d : Dt} {v : V} (q : Den L B H d v) (k : Key) {ks : List Key} {ds : List Dt} {vs : List V} (h : Dens L B H ds vs) : Dens L B H (pPut k d ks ds).2 (pPut k v ks vs).2 := by
  unfold HB.pPut
  split
  · exact h.pSet q k
  · exact h.append (.cons q .nil)
theorem Dens.pGet {L : List Addr} {B : Addr → Prop} {H : Hp} (k : Key) : ∀ {ks : List Key} {ds : List Dt} {vs : List V}, Dens L B H ds vs → (pGet k ks ds = none ∧ pGet k ks vs = none) ∨ ∃ d v, pGet k ks ds = some d ∧ pGet k ks vs = some v ∧ Den L B H d v
  | [], ds, vs, h => .inl ⟨rfl, rfl⟩
  | k' :: ks, [], vs, h => by unfold Dens at h; subst h; exact .inl ⟨rfl, rfl⟩
  | k' :: ks, e :: ds, vs, h => by
    obtain ⟨w, r, rfl, p, t⟩ := h.uncons
    unfold HB.pGet
    split
    · exact .inr ⟨e, w, rfl, rfl, p⟩
    · exact Dens.pGet k t
end HB

set_option Elab.async false
set_option linter.all false
set_option maxRecDepth 100000
set_option maxHeartbeats 1000000
/-! HB, part g: subscripts, slices, in, len, isinstance, displays, methods, what is walked. -/
namespace HB
open PySem PySem.Spec PyProof.Rows L2

/-! ### in -/
def rDIn (neg : Bool) : R2 := fun x y H Q => ∃ a o, y = .ref a ∧ DGet H a x o ∧ Q (.bl (if neg then !o.isSome else o.isSome)) H
theorem op_dIn {X : Cx} (hu : X.A.units + 1 < cLine) : OpR X (compareOp .In) (rDIn false) := by
  intro pins s s1 H x y v u Q I rx ry q
  obtain ⟨a, o, rfl, g, q⟩ := q
  cases ry
  exact d_in hu I g rx fun s' I' => ⟨.bl _, H, I', rfl, q⟩
theorem op_dNotIn {X : Cx} (hu : X.A.units + 1 < cLine) : OpR X (compareOp .NotIn) (rDIn true) := by
  intro pins s s1 H x y v u Q I rx ry q
  obtain ⟨a, o, rfl, g, q⟩ := q
  cases ry
  exact d_notIn hu I g rx fun s' I' => ⟨.bl _, H, I', rfl, q⟩
def rSIn (neg : Bool) : R2 := fun x y H Q => ∃ i j, x = .str i ∧ y = .str j ∧ Q (.bl (if neg then (Builtin.Str.occurrences j i 0 j.length 1).isEmpty else !(Builtin.Str.occurrences j i 0 j.length 1).isEmpty)) H
def rInA (K : PySem.W.Frag) (neg : Bool) : R2 := fun x y H Q => rIn K neg x y H Q ∨ rDIn neg x y H Q
theorem op_InA {X : Cx} (hu : X.A.units + 1 < cLine) : OpR X (compareOp .In) (rInA X.K false) := OpR.or op_in_seq (op_dIn hu)
theorem op_NotInA {X : Cx} (hu : X.A.units + 1 < cLine) : OpR X (compareOp .NotIn) (rInA X.K true) := OpR.or op_notIn_seq (op_dNotIn hu)
def inD (st : Sto) (x y : Dt) : Option Bool := match asL st y with
  | some ds => (flatD x).bind fun a => (flats ds).map fun vs => inV a vs
  | none => (match asD st y with
    | some (ks, ds) => (keyD x).map fun k => (pGet k ks ds).isSome
    | none => none)
def gIn (neg : Bool) (st : Sto) (x y : Dt) : Option (Dt × Sto) := (inD st x y).map fun b => (.bl (if neg then !b else b), st)
section
variable {T : List (Addr × Str)} {K : PySem.W.Frag}
theorem vo_In {neg : Bool} : VO2 T (rInA K neg) (gIn neg) := by
  intro Z L st H x y dx dy d st' Q w hx hy h q
  obtain ⟨b, h1, h2⟩ := Option.map_eq_some_iff.mp h
  cases h2
  have q' := q _ H L (.refl w) Den.bl
  unfold inD at h1
  split at h1
  · rename_i ds hd
    obtain ⟨a, e1, e2⟩ := bind_some' h1
    obtain ⟨vs, e3, rfl⟩ := Option.map_eq_some_iff.mp e2
    obtain ⟨p, us, rfl, ep, t⟩ := asL_ok w hy hd
    obtain ⟨rfl, f1⟩ := flatD_ok hx e1
    obtain ⟨rfl, f2⟩ := flats_ok t e3
    exact .inl ⟨p, us, rfl, .inl (SqL.of ep), f1, f2, q'⟩
  · split at h1
    · rename_i ks ds hd
      obtain ⟨k, e1, rfl⟩ := Option.map_eq_some_iff.mp h1
      obtain ⟨p, us, rfl, ep, el, t⟩ := asD_ok w hy hd
      have ek := keyD_ok hx e1
      have hg : (pGet k ks us).isSome = (pGet k ks ds).isSome := by
        rcases t.pGet k (ks := ks) with ⟨z1, z2⟩ | ⟨d, v, z1, z2, _⟩ <;> rw [z1, z2] <;> rfl
      rw [← hg] at q'
      exact .inr ⟨p, pGet k ks us, rfl, .inl ⟨_, k, ep, ek, (pGet_val k ks us).symm⟩, q'⟩
    · cases h1
end

/-! ### order -/
def rLeS : R2 := fun x y H Q => ∃ i j, x = .str i ∧ y = .str j ∧ Q (.bl (!decide (j.cps.toList < i.cps.toList))) H
def rLeA : R2 := fun x y H Q => rI0 (fun i j => .bl (decide (i ≤ j))) x y H Q ∨ rLeS x y H Q
theorem op_LeA {X : Cx} : OpR X (compareOp .LtE) rLeA := OpR.or op_le op_le_str
def gLe (st : Sto) (x y : Dt) : Option (Dt × Sto) := match x, y with
  | .int i, .int j => some (.bl (decide (i ≤ j)), st)
  | .str i, .str j => some (.bl (!decide (j.cps.toList < i.cps.toList)), st)
  | _, _ => none
section
variable {T : List (Addr × Str)} {K : PySem.W.Frag}
theorem vo_Le : VO2 T rLeA gLe := by
  intro Z L st H x y dx dy d st' Q w hx hy h q
  unfold gLe at h
  split at h
  · cases h; exact .inl ⟨_, _, den_int hx, den_int hy, q _ H L (.refl w) Den.bl⟩
  · cases h; exact .inr ⟨_, _, den_str hx, den_str hy, q _ H L (.refl w) Den.bl⟩
  · cases h
end

/-! ### subscripts -/
def rIxDic : R2 := fun x y H Q => ∃ a v, x = .ref a ∧ DGet H a y (some v) ∧ Q v H
def rIxA (K : PySem.W.Frag) : R2 := fun x y H Q => rIx K x y H Q ∨ rIxDic x y H Q
def gIx (st : Sto) (x y : Dt) : Option (Dt × Sto) := match x with
  | .tup ds => (match y with
    | .int i => (atI ds i).map fun d => (d, st)
    | _ => none)
  | .str z => (match y with
    | .int i => if z.length ≤ sizeLine then (atI z.cps.toList i).map fun c => (.str ⟨#[c]⟩, st) else none
    | _ => none)
  | x => (match asL st x with
    | some ds => (match y with
      | .int i => (atI ds i).map fun d => (d, st)
      | _ => none)
    | none => (match asD st x with
      | some (ks, ds) => (keyD y).bind fun k => (pGet k ks ds).map fun d => (d, st)
      | none => none))
theorem dens_atI {L : List Addr} {B : Addr → Prop} {H : Hp} {ds : List Dt} {vs : List V} {i : Int} {d : Dt} (t : Dens L B H ds vs) (e : atI ds i = some d) : ∃ v, atI vs i = some v ∧ Den L B H d v := by
  unfold atI at e ⊢
  rw [← t.len]
  obtain ⟨j, e1, e2⟩ := bind_some' e
  obtain ⟨v, h1, h2⟩ := t.get e2
  exact ⟨v, by rw [e1]; exact h1, h2⟩
section
variable {T : List (Addr × Str)} {K : PySem.W.Frag}
theorem vo_Ix : VO2 T (rIxA K) gIx := by
  intro Z L st H x y dx dy d st' Q w hx hy h q
  unfold gIx at h
  split at h
  · rename_i ds
    split at h
    · obtain ⟨d', e1, e2⟩ := Option.map_eq_some_iff.mp h
      cases e2
      unfold Den at hx
      obtain ⟨a, vs, rfl, ea, t⟩ := hx
      obtain ⟨v, h1, h2⟩ := dens_atI t e1
      exact .inl (.inr (.inl ⟨a, vs, _, v, rfl, den_int hy, SqT.of ea, h1, q v H L (.refl w) h2⟩))
    · cases h
  · split at h
    · split at h
      · rename_i hz
        obtain ⟨c, e1, e2⟩ := Option.map_eq_some_iff.mp h
        cases e2
        exact .inl (.inr (.inr ⟨_, _, c, den_str hx, den_int hy, hz, e1, q _ H L (.refl w) Den.str⟩))
      · cases h
    · cases h
  · split at h
    · rename_i ds hd
      split at h
      · obtain ⟨d', e1, e2⟩ := Option.map_eq_some_iff.mp h
        cases e2
        obtain ⟨a, vs, rfl, ea, t⟩ := asL_ok w hx hd
        obtain ⟨v, h1, h2⟩ := dens_atI t e1
        exact .inl (.inl ⟨a, vs, _, v, rfl, den_int hy, SqL.of ea, h1, q v H L (.refl w) h2⟩)
      · cases h
    · split at h
      · rename_i ks ds hd
        obtain ⟨k, e1, e2⟩ := bind_some' h
        obtain ⟨d', e3, e4⟩ := Option.map_eq_some_iff.mp e2
        cases e4
        obtain ⟨p, us, rfl, ep, el, t⟩ := asD_ok w hx hd
        rcases t.pGet k (ks := ks) with ⟨z1, z2⟩ | ⟨d2, v, z1, z2, z3⟩
        · rw [z1] at e3; cases e3
        · rw [z1] at e3; cases e3
          exact .inr ⟨p, v, rfl, .inl ⟨_, k, ep, keyD_ok hy e1, by rw [pGet_val, z2]⟩, q v H L (.refl w) z3⟩
      · cases h
end
/-! ### slices -/
def cutL {α : Type} (xs : List α) (lo hi : Option Int) : List α := (xs.drop (HT.sIx xs.length 0 lo)).take (HT.sIx xs.length xs.length hi - HT.sIx xs.length 0 lo)
def rSlA (K : PySem.W.Frag) : V → Option Int → Option Int → Hp → VK → Prop := fun x lo hi H Q => rSlL K x lo hi H Q ∨ rSlS x lo hi H Q
theorem sl_any {X : Cx} : SlR X (rSlA X.K) := SlR.or sl_list sl_str
abbrev SO := Evr → Sto → Option (Option Int × Sto)
def SimO (T : List (Addr × Str)) (t : TO) (f : SO) : Prop := ∀ Z L st H s r o st' (Q : Option Int → Hp → Prop), Wd T Z L st H → EnvOk L (Bad Z L st) H r s → f r st = some (o, st') →
  (∀ H' L', Af T Z L st H L' st' H' → Q o H') → t s H Q
def oNo : SO := fun _ st => some (none, st)
def oE (f : SE) : SO := fun r st => (f r st).bind fun x => match x.1 with
  | .int i => some (some i, x.2)
  | _ => none
def gSl (st : Sto) (x : Dt) (lo hi : Option Int) : Option Dt := match x with
  | .str z => if z.length ≤ sizeLine then some (.str (cutS z lo hi)) else none
  | x => (asL st x).map fun ds => .lst (cutL ds lo hi)
def eSl (f : SE) (l h : SO) : SE := fun r st => (f r st).bind fun x => (l r x.2).bind fun a => (h r a.2).bind fun b => (gSl b.2 x.1 a.1 b.1).map fun d => (d, b.2)
section
variable {T : List (Addr × Str)} {K : PySem.W.Frag}
theorem sim_oNo : SimO T tNoPart oNo := by
  intro Z L st H s r o st' Q w e h q
  cases h
  exact q H L (.refl w)
theorem sim_oE {te : TE} {f : SE} (hf : SimE T te f) : SimO T (tPart te) (oE f) := by
  intro Z L st H s r o st' Q w e h q
  obtain ⟨⟨dx, st1⟩, h1, h⟩ := bind_some' h
  refine hf Z L st H s r dx st1 _ w e h1 fun x H1 L1 f1 p1 => ?_
  cases dx with
  | int i => cases h; exact ⟨i, den_int p1, q H1 L1 f1⟩
  | _ => cases h
theorem sim_sl {te : TE} {tl th : TO} {f : SE} {l h : SO} (hf : SimE T te f) (hl : SimO T tl l) (hh : SimO T th h) : SimE T (tSl (rSlA K) te tl th) (eSl f l h) := by
  intro Z L st H s r d st' Q w e hq q
  obtain ⟨⟨dx, st1⟩, h1, hq⟩ := bind_some' hq
  obtain ⟨⟨lo, st2⟩, h2, hq⟩ := bind_some' hq
  obtain ⟨⟨hi, st3⟩, h3, hq⟩ := bind_some' hq
  obtain ⟨d', h4, h5⟩ := Option.map_eq_some_iff.mp hq
  cases h5
  refine hf Z L st H s r dx st1 _ w e h1 fun x H1 L1 f1 p1 => ?_
  refine hl Z L1 st1 H1 s r lo st2 _ f1.wd (e.keep f1) h2 fun H2 L2 f2 => ?_
  refine hh Z L2 st2 H2 s r hi st3 _ f2.wd ((e.keep f1).keep f2) h3 fun H3 L3 f3 => ?_
  have p3 := (p1.keep f2).keep f3
  have fa := f1.trans (f2.trans f3)
  dsimp only at h4
  unfold gSl at h4
  split at h4
  · split at h4
    · rename_i hz
      cases h4
      exact .inr ⟨_, den_str p3, hz, q _ H3 L3 fa Den.str⟩
    · cases h4
  · obtain ⟨ds, h5, rfl⟩ := Option.map_eq_some_iff.mp h4
    obtain ⟨a, vs, rfl, ea, t⟩ := asL_ok f3.wd p3 h5
    refine .inl ⟨a, vs, rfl, SqL.of ea, fun p np => q _ _ L3 (fa.trans (.new f3.wd np)) ?_⟩
    refine .newL f3.wd np ?_
    show Dens _ _ _ (cutL ds lo hi) (cutV vs lo hi)
    unfold cutL cutV
    rw [t.len]
    exact (t.drop _).take _
end

/-! ### len, isinstance, int, all, any -/
def rLenA (K : PySem.W.Frag) : List V → Hp → VK → Prop := fun xs H Q => ((∃ p ys, xs = [.ref p] ∧ (SqL K H p ys ∨ SqT K H p ys) ∧ Q (.int ys.length) H) ∨ (∃ z, xs = [.str z] ∧ z.length ≤ sizeLine ∧ Q (.int z.length) H)) ∨ ∃ a kvs, xs = [.ref a] ∧ Rd H a (.dK kvs) ∧ Q (.int kvs.length) H
theorem call_lenA {X : Cx} : CallR X (.builtin "len") (rLenA X.K) := by
  refine CallR.or (CallR.or call_len_seq call_len_str) ?_
  intro pins s s1 H xs us Q I r q
  obtain ⟨a, kvs, rfl, hd, q⟩ := q
  obtain rfl := Vals.ref1 r
  exact d_len I hd fun t s' I' => ⟨.int _, H, I', ⟨t, rfl⟩, q⟩
def gLen (st : Sto) (xs : List Dt) : Option (Dt × Sto) := match xs with
  | [.str z] => if z.length ≤ sizeLine then some (.int z.length, st) else none
  | [.tup ds] => some (.int ds.length, st)
  | [x] => (match asL st x with
    | some ds => some (.int ds.length, st)
    | none => (asD st x).map fun y => (.int y.1.length, st))
  | _ => none
theorem dens1 {L : List Addr} {B : Addr → Prop} {H : Hp} {d : Dt} {vs : List V} (h : Dens L B H [d] vs) : ∃ v, vs = [v] ∧ Den L B H d v := by
  obtain ⟨v, r, rfl, p, t⟩ := h.uncons
  unfold Dens at t
  subst t
  exact ⟨v, rfl, p⟩
theorem dens2 {L : List Addr} {B : Addr → Prop} {H : Hp} {d e : Dt} {vs : List V} (h : Dens L B H [d, e] vs) : ∃ v u, vs = [v, u] ∧ Den L B H d v ∧ Den L B H e u := by
  obtain ⟨v, r, rfl, p, t⟩ := h.uncons
  obtain ⟨u, rfl, q⟩ := dens1 t
  exact ⟨v, u, rfl, p, q⟩
section
variable {T : List (Addr × Str)} {K : PySem.W.Frag}
theorem vo_len : VON T (rLenA K) gLen := by
  intro Z L st H xs dxs d st' Q w hx h q
  unfold gLen at h
  split at h
  · obtain ⟨v, rfl, p⟩ := dens1 hx
    split at h
    · rename_i hz
      cases h
      exact .inl (.inr ⟨_, by rw [den_str p], hz, q _ H L (.refl w) Den.int⟩)
    · cases h
  · obtain ⟨v, rfl, p⟩ := dens1 hx
    cases h
    unfold Den at p
    obtain ⟨a, vs, rfl, ea, t⟩ := p
    refine .inl (.inl ⟨a, vs, rfl, .inr (SqT.of ea), ?_⟩)
    rw [← t.len]
    exact q _ H L (.refl w) Den.int
  · obtain ⟨v, rfl, p⟩ := dens1 hx
    split at h
    · rename_i ds hd
      cases h
      obtain ⟨a, vs, rfl, ea, t⟩ := asL_ok w p hd
      refine .inl (.inl ⟨a, vs, rfl, .inl (SqL.of ea), ?_⟩)
      rw [← t.len]
      exact q _ H L (.refl w) Den.int
    · obtain ⟨⟨ks, ds⟩, e1, e2⟩ := Option.map_eq_some_iff.mp h
      cases e2
      obtain ⟨a, us, rfl, ea, el, t⟩ := asD_ok w p e1
      refine .inr ⟨a, _, rfl, ea, ?_⟩
      have e3 : (ks.zip us).length = ks.length := by rw [List.length_zip]; omega
      rw [e3]
      exact q _ H L (.refl w) Den.int
  · cases h
def gInt (st : Sto) (xs : List Dt) : Option (Dt × Sto) := match xs with
  | [.int i] => some (.int i, st)
  | _ => none
theorem vo_int : VON T (fun xs H Q => (∃ i, xs = [.int i] ∧ Q (.int i) H) ∨ ∃ k, xs = [.bl k] ∧ Q (.int (if k then 1 else 0)) H) gInt := by
  intro Z L st H xs dxs d st' Q w hx h q
  unfold gInt at h
  split at h
  · obtain ⟨v, rfl, p⟩ := dens1 hx
    cases h
    exact .inl ⟨_, by rw [den_int p], q _ H L (.refl w) Den.int⟩
  · cases h
def bools : List Dt → Option (List Bool)
  | [] => some []
  | .bl b :: ds => (bools ds).map fun bs => b :: bs
  | _ => none
theorem bools_ok {L : List Addr} {B : Addr → Prop} {H : Hp} : ∀ {ds : List Dt} {vs : List V} {bs : List Bool}, Dens L B H ds vs → bools ds = some bs → vs = bs.map V.bl
  | [], vs, bs, h, e => by
    cases e
    unfold Dens at h
    exact h
  | .bl b :: ds, vs, bs, h, e => by
    obtain ⟨v, r, rfl, p, t⟩ := h.uncons
    unfold bools at e
    obtain ⟨bs', e1, rfl⟩ := Option.map_eq_some_iff.mp e
    rw [den_bl p, bools_ok t e1]
    rfl
  | .non :: _, _, _, _, e => by cases e
  | .int _ :: _, _, _, _, e => by cases e
  | .str _ :: _, _, _, _, e => by cases e
  | .ref _ :: _, _, _, _, e => by cases e
  | .lst _ :: _, _, _, _, e => by cases e
  | .tup _ :: _, _, _, _, e => by cases e
  | .dic _ _ :: _, _, _, _, e => by cases e
theorem bools_map {α : Type} (f : α → Bool) : ∀ l : List α, bools (l.map fun a => .bl (f a)) = some (l.map f)
  | [] => rfl
  | a :: l => by
    show (bools (l.map fun a => .bl (f a))).map _ = _
    rw [bools_map f l]
    rfl
def gAll (st : Sto) (xs : List Dt) : Option (Dt × Sto) := match xs with
  | [x] => (asL st x).bind fun ds => (bools ds).map fun bs => (.bl (bs.all id), st)
  | _ => none
def gAny (st : Sto) (xs : List Dt) : Option (Dt × Sto) := match xs with
  | [x] => (asL st x).bind fun ds => (bools ds).map fun bs => (.bl (bs.any id), st)
  | _ => none
theorem vo_all : VON T (rAll K) gAll := by
  intro Z L st H xs dxs d st' Q w hx h q
  unfold gAll at h
  split at h
  · obtain ⟨v, rfl, p⟩ := dens1 hx
    obtain ⟨ds, e1, e2⟩ := bind_some' h
    obtain ⟨bs, e3, e4⟩ := Option.map_eq_some_iff.mp e2
    cases e4
    obtain ⟨a, vs, rfl, ea, t⟩ := asL_ok w p e1
    rw [bools_ok t e3] at ea
    exact ⟨a, bs, rfl, SqL.of ea, q _ H L (.refl w) Den.bl⟩
  · cases h
theorem vo_any : VON T (rAny K) gAny := by
  intro Z L st H xs dxs d st' Q w hx h q
  unfold gAny at h
  split at h
  · obtain ⟨v, rfl, p⟩ := dens1 hx
    obtain ⟨ds, e1, e2⟩ := bind_some' h
    obtain ⟨bs, e3, e4⟩ := Option.map_eq_some_iff.mp e2
    cases e4
    obtain ⟨a, vs, rfl, ea, t⟩ := asL_ok w p e1
    rw [bools_ok t e3] at ea
    exact ⟨a, bs, rfl, SqL.of ea, q _ H L (.refl w) Den.bl⟩
  · cases h
end

/-! ### displays -/
def toT (f : SA) : SE := fun r st => (f r st).bind fun z => if z.1.length ≤ sizeLine then some (.tup z.1, z.2) else none
def small (f : SA) : SA := fun r st => (f r st).bind fun z => if z.1.length ≤ sizeLine then some z else none
section
variable {T : List (Addr × Str)} {K : PySem.W.Frag}
theorem sim_lstV {t : TA} {f : SA} (hf : SimA T t f) : SimE T (tLst t) (toV (small f)) := by
  intro Z L st H s r d st' Q w e h q
  obtain ⟨⟨zs, st1⟩, h1, h2⟩ := bind_some' h
  cases h2
  obtain ⟨⟨ys, st2⟩, h3, h4⟩ := bind_some' h1
  split at h4
  · rename_i hz
    cases h4
    refine hf Z L st H s r _ _ _ w e h3 fun vs H1 L1 f1 p1 => ⟨by rw [← p1.len]; exact hz, fun p np => ?_⟩
    exact q _ _ L1 (f1.trans (.new f1.wd np)) (.newL f1.wd np p1)
  · cases h4
theorem sim_lstR {t : TA} {f : SA} (hf : SimA T t f) : SimE T (tLst t) (toR (small f)) := by
  intro Z L st H s r d st' Q w e h q
  obtain ⟨⟨zs, st1⟩, h1, h2⟩ := bind_some' h
  cases h2
  obtain ⟨⟨ys, st2⟩, h3, h4⟩ := bind_some' h1
  split at h4
  · rename_i hz
    cases h4
    refine hf Z L st H s r _ _ _ w e h3 fun vs H1 L1 f1 p1 => ⟨by rw [← p1.len]; exact hz, fun p np => ?_⟩
    refine q _ _ (L1 ++ [p]) (f1.trans (.newR f1.wd np ⟨vs, rfl, p1⟩)) ?_
    unfold Den
    exact ⟨p, by rw [← f1.wd.len]; simp, rfl⟩
  · cases h4
theorem sim_tup {t : TA} {f : SA} (hf : SimA T t f) : SimE T (tTup t) (toT f) := by
  intro Z L st H s r d st' Q w e h q
  obtain ⟨⟨zs, st1⟩, h1, h4⟩ := bind_some' h
  split at h4
  · rename_i hz
    cases h4
    refine hf Z L st H s r _ _ _ w e h1 fun vs H1 L1 f1 p1 => ⟨by rw [← p1.len]; exact hz, fun p np => ?_⟩
    exact q _ _ L1 (f1.trans (.new f1.wd np)) (.newT f1.wd np p1)
  · cases h4
/-- {} -/
def eDR : SE := fun _ st => some (.ref st.length, st ++ [some (.dic [] [])])
theorem sim_dnewR : SimE T tDNewK eDR := by
  intro Z L st H s r d st' Q w e h q
  cases h
  intro p np
  refine q _ _ (L ++ [p]) (.newR w np ⟨[], rfl, rfl, .nil⟩) ?_
  unfold Den
  exact ⟨p, by rw [← w.len]; simp, rfl⟩
/-- d[k] = v of a live dict -/
def sDP (fd fk fv : SE) : SS := fun r st => (fv r st).bind fun x => (fd r x.2).bind fun y => (fk r y.2).bind fun z => match y.1 with
  | .ref i => (match z.2[i]? with
    | some (some (.dic ks ds)) => if ks.length < sizeLine then (keyD z.1).map fun k => .nx r (z.2.set i (some (.dic (pPut k x.1 ks ds).1 (pPut k x.1 ks ds).2))) else none
    | _ => none)
  | _ => none
theorem sim_dput {td ty tv : TE} {fd fk fv : SE} (hd : SimE T td fd) (hk : SimE T ty fk) (hv : SimE T tv fv) : SimS T (sDPut td ty tv) (sDP fd fk fv) := by
  intro Z L st H s r o D w e h q
  obtain ⟨⟨dv, st1⟩, h1, h⟩ := bind_some' h
  obtain ⟨⟨dd, st2⟩, h2, h⟩ := bind_some' h
  obtain ⟨⟨dk, st3⟩, h3, h⟩ := bind_some' h
  refine hv Z L st H s r dv st1 _ w e h1 fun v H1 L1 f1 p1 => ?_
  refine hd Z L1 st1 H1 s r dd st2 _ f1.wd (e.keep f1) h2 fun x H2 L2 f2 p2 => ?_
  refine hk Z L2 st2 H2 s r dk st3 _ f2.wd ((e.keep f1).keep f2) h3 fun y H3 L3 f3 p3 => ?_
  cases dd with
  | ref i =>
    dsimp only at h
    split at h
    · rename_i ks ds hi
      split at h
      · rename_i hz
        obtain ⟨k, e1, e2⟩ := Option.map_eq_some_iff.mp h
        cases e2
        have p2' := p2.keep f3
        unfold Den at p2'
        obtain ⟨a, ia, rfl⟩ := p2'
        obtain ⟨nz, oo, eo, vs, rfl, el, t⟩ := f3.wd.own i a _ ia hi
        have ek := keyD_ok p3 e1
        have pv := (p1.keep f2).keep f3
        refine ⟨a, _, rfl, .inl ⟨ks.zip vs, k, eo, ek, by rw [List.length_zip]; omega, rfl⟩, ?_⟩
        have dl : ds.length = vs.length := t.len
        have af := Afz.wr (o := .dK (putK (ks.zip vs) k v)) (d' := .dic (pPut k dv ks ds).1 (pPut k dv ks ds).2) f3.wd ia hi ⟨(pPut k v ks vs).2, by
          rw [pPut_zip k v el, pPut_keys k v dv ks vs ds], by
          rw [pPut_keys k dv v ks ds vs]; exact pPut_len k v el, Dens.pPut pv k t⟩
        exact q s _ L3 (f1.trans (f2.trans (f3.trans af))) ((((e.keep f1).keep f2).keep f3).keep af)
      · cases h
    · cases h
  | _ => cases h
end

/-! ### methods -/
def eM (ok : Sto → Dt → Bool) (g : Sto → Dt → List Dt → Option (Dt × Sto)) (fo : SE) (fa : SA) : SE := fun r st => (fo r st).bind fun x => if ok x.2 x.1 = true then (fa r x.2).bind fun y => g y.2 x.1 y.1 else none
def isS (_ : Sto) : Dt → Bool
  | .str _ => true
  | _ => false
def isL (st : Sto) (d : Dt) : Bool := (asL st d).isSome
section
variable {T : List (Addr × Str)} {K : PySem.W.Frag}
theorem sim_bmS {r : V → List V → Hp → VK → Prop} {to : TE} {t : TA} {fo : SE} {fa : SA} {g : Sto → Dt → List Dt → Option (Dt × Sto)} (ho : SimE T to fo) (ha : SimA T t fa) (hg : VOM T r g) : SimE T (tBM K "str" r to t) (eM isS g fo fa) := by
  intro Z L st H s rr d st' Q w e h q
  obtain ⟨⟨dx, st1⟩, h1, h⟩ := bind_some' h
  split at h
  case isFalse => cases h
  case isTrue hs =>
  obtain ⟨⟨dy, st2⟩, h2, h⟩ := bind_some' h
  refine ho Z L st H s rr dx st1 _ w e h1 fun x H1 L1 f1 p1 => ⟨?_, ?_⟩
  · cases dx with
    | str z => rw [den_str p1]; rfl
    | _ => cases hs
  refine ha Z L1 st1 H1 s rr dy st2 _ f1.wd (e.keep f1) h2 fun ys H2 L2 f2 p2 => ?_
  exact hg Z L2 st2 H2 x ys dx dy d st' Q f2.wd (p1.keep f2) p2 h fun v H3 L3 f3 p3 => q v H3 L3 (f1.trans (f2.trans f3)) p3
theorem sim_bmL {r : V → List V → Hp → VK → Prop} {to : TE} {t : TA} {fo : SE} {fa : SA} {g : Sto → Dt → List Dt → Option (Dt × Sto)} (ho : SimE T to fo) (ha : SimA T t fa) (hg : VOM T r g) : SimE T (tBM K "list" r to t) (eM isL g fo fa) := by
  intro Z L st H s rr d st' Q w e h q
  obtain ⟨⟨dx, st1⟩, h1, h⟩ := bind_some' h
  split at h
  case isFalse => cases h
  case isTrue hs =>
  obtain ⟨⟨dy, st2⟩, h2, h⟩ := bind_some' h
  refine ho Z L st H s rr dx st1 _ w e h1 fun x H1 L1 f1 p1 => ⟨?_, ?_⟩
  · obtain ⟨ds, hd⟩ := Option.isSome_iff_exists.mp hs
    obtain ⟨a, vs, rfl, ea, t⟩ := asL_ok f1.wd p1 hd
    exact .inl ⟨rfl, vs, SqL.of ea⟩
  refine ha Z L1 st1 H1 s rr dy st2 _ f1.wd (e.keep f1) h2 fun ys H2 L2 f2 p2 => ?_
  exact hg Z L2 st2 H2 x ys dx dy d st' Q f2.wd (p1.keep f2) p2 h fun v H3 L3 f3 p3 => q v H3 L3 (f1.trans (f2.trans f3)) p3
/-- xs.append(y) of a live list -/
def gApp (st : Sto) (x : Dt) (ys : List Dt) : Option (Dt × Sto) := match x, ys with
  | .ref k, [y] => (match st[k]? with
    | some (some (.lst ds)) => if ds.length < sizeLine then some (.non, st.set k (some (.lst (ds ++ [y])))) else none
    | _ => none)
  | _, _ => none
theorem vo_append : VOM T rAppend gApp := by
  intro Z L st H x xs dx dxs d st' Q w hx hxs h q
  unfold gApp at h
  split at h
  · rename_i k y
    split at h
    · rename_i ds hk
      split at h
      · rename_i hz
        cases h
        obtain ⟨v, rfl, p⟩ := dens1 hxs
        unfold Den at hx
        obtain ⟨a, ka, rfl⟩ := hx
        obtain ⟨nz, o, eo, vs, rfl, t⟩ := w.own k a _ ka hk
        refine ⟨a, vs, v, rfl, rfl, eo, by rw [← t.len]; exact hz, ?_⟩
        exact q _ _ L (Afz.wr (o := .lst (vs ++ [v])) w ka hk ⟨vs ++ [v], rfl, t.append (.cons p .nil)⟩) Den.non
      · cases h
    · cases h
  · cases h
def gEnds (st : Sto) (x : Dt) (ys : List Dt) : Option (Dt × Sto) := match x, ys with
  | .str a, [.str b] => some (.bl (Txt.endswith a b), st)
  | _, _ => none
theorem vo_ends : VOM T (fun x xs H Q => ∃ a b, x = .str a ∧ xs = [.str b] ∧ Q (.bl (Txt.endswith a b)) H) gEnds := by
  intro Z L st H x xs dx dxs d st' Q w hx hxs h q
  unfold gEnds at h
  split at h
  · cases h
    obtain ⟨v, rfl, p⟩ := dens1 hxs
    exact ⟨_, _, den_str hx, by rw [den_str p], q _ H L (.refl w) Den.bl⟩
  · cases h
def strs' : List Dt → Option (List Str)
  | [] => some []
  | .str b :: ds => (strs' ds).map fun bs => b :: bs
  | _ => none
theorem strs_ok {L : List Addr} {B : Addr → Prop} {H : Hp} : ∀ {ds : List Dt} {vs : List V} {bs : List Str}, Dens L B H ds vs → strs' ds = some bs → vs = bs.map V.str
  | [], vs, bs, h, e => by
    cases e
    unfold Dens at h
    exact h
  | .str b :: ds, vs, bs, h, e => by
    obtain ⟨v, r, rfl, p, t⟩ := h.uncons
    unfold strs' at e
    obtain ⟨bs', e1, rfl⟩ := Option.map_eq_some_iff.mp e
    rw [den_str p, strs_ok t e1]
    rfl
  | .non :: _, _, _, _, e => by cases e
  | .int _ :: _, _, _, _, e => by cases e
  | .bl _ :: _, _, _, _, e => by cases e
  | .ref _ :: _, _, _, _, e => by cases e
  | .lst _ :: _, _, _, _, e => by cases e
  | .tup _ :: _, _, _, _, e => by cases e
  | .dic _ _ :: _, _, _, _, e => by cases e
theorem strs_map {α : Type} (f : α → Str) : ∀ l : List α, strs' (l.map fun a => .str (f a)) = some (l.map f)
  | [] => rfl
  | a :: l => by
    show (strs' (l.map fun a => .str (f a))).map _ = _
    rw [strs_map f l]
    rfl
def gJoin (st : Sto) (x : Dt) (y : Dt) : Option (Dt × Sto) := match x with
  | .str a => (asL st y).bind fun ds => (strs' ds).bind fun ys => if (ys.map (·.length)).sum + ys.length * a.length ≤ 16777216 then some (.str (Txt.join a ys), st) else none
  | _ => none
def eM1 (g : Sto → Dt → Dt → Option (Dt × Sto)) (fo fe : SE) : SE := fun r st => (fo r st).bind fun x => if isS x.2 x.1 = true then (fe r x.2).bind fun y => g y.2 x.1 y.1 else none
theorem sim_join {to te : TE} {fo fe : SE} (ho : SimE T to fo) (he : SimE T te fe) : SimE T (tM1 (fun x xs H Q => ∃ a p, ∃ ys : List Str, x = .str a ∧ xs = [.ref p] ∧ (SqL K H p (ys.map V.str) ∨ SqT K H p (ys.map V.str)) ∧
    (ys.map (·.length)).sum + ys.length * a.length ≤ 16777216 ∧ Q (.str (Txt.join a ys)) H) to te) (eM1 gJoin fo fe) := by
  intro Z L st H s rr d st' Q w e h q
  obtain ⟨⟨dx, st1⟩, h1, h⟩ := bind_some' h
  split at h
  case isFalse => cases h
  case isTrue hs =>
  obtain ⟨⟨dy, st2⟩, h2, h⟩ := bind_some' h
  refine ho Z L st H s rr dx st1 _ w e h1 fun x H1 L1 f1 p1 => ⟨?_, ?_⟩
  · cases dx with
    | str z => exact ⟨z, den_str p1⟩
    | _ => cases hs
  refine he Z L1 st1 H1 s rr dy st2 _ f1.wd (e.keep f1) h2 fun y H2 L2 f2 p2 => ?_
  dsimp only at h
  unfold gJoin at h
  split at h
  · obtain ⟨ds, e1, e2⟩ := bind_some' h
    obtain ⟨ys, e3, e4⟩ := bind_some' e2
    split at e4
    · rename_i hz
      cases e4
      obtain ⟨p, vs, rfl, ep, t⟩ := asL_ok f2.wd p2 e1
      rw [strs_ok t e3] at ep
      exact ⟨_, p, ys, den_str p1, rfl, .inl (SqL.of ep), hz, q _ H2 L2 (f1.trans f2) Den.str⟩
    · cases e4
  · cases h
end

/-! ### isinstance -/
def tyD (st : Sto) : Dt → Option String
  | .non => some "NoneType"
  | .bl _ => some "bool"
  | .int _ => some "int"
  | .str _ => some "str"
  | .lst _ => some "list"
  | .tup _ => some "tuple"
  | .dic _ _ => none
  | .ref k => (match st[k]? with
    | some (some (.lst _)) => some "list"
    | some (some (.dic _ _)) => some "dict"
    | _ => none)
def gIsi (c : String) (st : Sto) (xs : List Dt) : Option (Dt × Sto) := match xs with
  | [x] => (tyD st x).bind fun t => (kitB t c).map fun b => (.bl b, st)
  | _ => none
end HB

set_option Elab.async false
set_option linter.all false
set_option maxRecDepth 100000
set_option maxHeartbeats 1000000
/-! HB, part h: isinstance, what is walked, dict comprehensions, promises as calls. -/
namespace HB
open PySem PySem.Spec PyProof.Rows L2

section
variable {T : List (Addr × Str)} {K : PySem.W.Frag}
/-! ### isinstance -/
def tyD2 (st : Sto) : Dt → Option String
  | .dic _ _ => some "dict"
  | d => tyD st d
def gIs (c : String) (st : Sto) (xs : List Dt) : Option (Dt × Sto) := match xs with
  | [x] => (tyD2 st x).bind fun t => (kitB t c).map fun b => (.bl b, st)
  | _ => none
theorem tyD_ok {Z : Addr → Prop} {L : List Addr} {st : Sto} {H : Hp} {d : Dt} {v : V} {n : String} (w : Wd T Z L st H) (h : Den L (Bad Z L st) H d v) (e : tyD2 st d = some n) : TyX K H v (.type n) := by
  cases d with
  | non => cases e; rw [den_non h]; exact .base .non
  | bl b => cases e; rw [den_bl h]; exact .base (.bl b)
  | int b => cases e; rw [den_int h]; exact .base (.int b)
  | str b => cases e; rw [den_str h]; exact .base (.str b)
  | lst ds =>
    cases e
    unfold Den at h
    obtain ⟨a, vs, rfl, _, ea, _⟩ := h
    exact .base (.lst ea)
  | tup ds =>
    cases e
    unfold Den at h
    obtain ⟨a, vs, rfl, ea, _⟩ := h
    exact .base (.tup ea)
  | dic ks ds =>
    cases e
    unfold Den at h
    obtain ⟨a, vs, rfl, _, ea, _⟩ := h
    rcases ea with ea | ⟨o, ea⟩
    · exact .base (.dK ea)
    · exact .fDict ea
  | ref k =>
    unfold tyD2 tyD at e
    dsimp only at e
    unfold Den at h
    obtain ⟨a, ka, rfl⟩ := h
    split at e
    · rename_i hk
      cases e
      obtain ⟨_, o, eo, vs, rfl, _⟩ := w.own k a _ ka hk
      exact .base (.lst eo)
    · rename_i hk
      cases e
      obtain ⟨_, o, eo, vs, rfl, _⟩ := w.own k a _ ka hk
      exact .base (.dK eo)
    · cases e
theorem sim_isi {te : TE} {f : SE} {c : String} (hf : SimE T te f) : SimE T (tCB (rIsi K) (tCons te (tCons (tC (.ty c)) tNil))) (eN (gIs c) (aCons f aNil)) := by
  intro Z L st H s r d st' Q w e h q
  obtain ⟨⟨ds, st1⟩, h1, h⟩ := bind_some' h
  obtain ⟨⟨dx, st2⟩, h2, h3⟩ := bind_some' h1
  cases h3
  refine hf Z L st H s r dx _ _ w e h2 fun x H1 L1 f1 p1 => ?_
  dsimp only at h
  unfold gIs at h
  obtain ⟨t, e1, e2⟩ := bind_some' h
  obtain ⟨b, e3, e4⟩ := Option.map_eq_some_iff.mp e2
  cases e4
  exact ⟨x, .ty c, .type t, .type c, b, rfl, .ty c, tyD_ok f1.wd p1 e1, kit_ty e3, q _ H1 L1 f1 Den.bl⟩

/-! ### promises as calls -/
def gF (n : Nat) (F : List Dt → Sto → Option (Dt × Sto)) (st : Sto) (ds : List Dt) : Option (Dt × Sto) := if ds.length = n then F ds st else none
theorem sim_g {n : Nat} {F : List Dt → Sto → Option (Dt × Sto)} {t : TA} {f : SA} (hf : SimA T t f) : SimE T (tG n (SpF T n F) t) (eN (gF n F) f) := by
  intro Z L st H s r d st' Q w e h q
  obtain ⟨⟨ds, st1⟩, h1, h⟩ := bind_some' h
  refine hf Z L st H s r ds st1 _ w e h1 fun vs H1 L1 f1 p1 => ?_
  dsimp only at h
  unfold gF at h
  split at h
  · rename_i hl
    have hv : vs.length = n := by rw [← p1.len]; exact hl
    exact ⟨hv, Z, L1, st1, ds, d, st', hv, f1.wd, p1, h, fun v H2 L2 f2 p2 => q v H2 L2 (f1.trans f2) p2⟩
  · cases h
/-- by keywords: p tells which parameter each keyword names -/
def gFk (n : Nat) (p : List Nat) (F : List Dt → Sto → Option (Dt × Sto)) (st : Sto) (ds : List Dt) : Option (Dt × Sto) :=
  if ds.length = p.length ∧ p.length = n then F ((List.range n).map fun i => ds.getD (p.idxOf i) .non) st else none
theorem dens_getD {L : List Addr} {B : Addr → Prop} {H : Hp} {ds : List Dt} {vs : List V} (h : Dens L B H ds vs) (i : Nat) : Den L B H (ds.getD i .non) (vs.getD i .non) := by
  rw [List.getD_eq_getElem?_getD, List.getD_eq_getElem?_getD]
  cases e : ds[i]? with
  | none =>
    have : vs[i]? = none := by rw [List.getElem?_eq_none_iff] at e ⊢; rw [← h.len]; exact e
    rw [this]
    exact Den.non
  | some d =>
    obtain ⟨v, h1, h2⟩ := h.get e
    rw [h1]
    exact h2
theorem dens_mapR {L : List Addr} {B : Addr → Prop} {H : Hp} {f : Nat → Dt} {g : Nat → V} (h : ∀ i, Den L B H (f i) (g i)) : ∀ l : List Nat, Dens L B H (l.map f) (l.map g)
  | [] => .nil
  | i :: l => .cons (h i) (dens_mapR h l)
theorem sim_gk {n : Nat} {p : List Nat} {F : List Dt → Sto → Option (Dt × Sto)} {t : TA} {f : SA} (hf : SimA T t f) (hp : p.Perm (List.range n)) : SimE T (tGk n p (SpF T n F) t) (eN (gFk n p F) f) := by
  intro Z L st H s r d st' Q w e h q
  obtain ⟨⟨ds, st1⟩, h1, h⟩ := bind_some' h
  refine hf Z L st H s r ds st1 _ w e h1 fun vs H1 L1 f1 p1 => ?_
  dsimp only at h
  unfold gFk at h
  split at h
  · rename_i hl
    have hv : vs.length = p.length := by rw [← p1.len]; exact hl.1
    have nd : p.Nodup := hp.nodup_iff.mpr List.nodup_range
    refine ⟨(List.range n).map fun i => vs.getD (p.idxOf i) .non, by simp, ?_, Z, L1, st1, (List.range n).map fun i => ds.getD (p.idxOf i) .non, d, st', by simp, f1.wd, dens_mapR (fun i => dens_getD p1 _) _, h, fun v H2 L2 f2 p2 => q v H2 L2 (f1.trans f2) p2⟩
    apply List.ext_getElem
    · rw [List.length_map, hv]
    · intro j h1 h2
      rw [List.getElem_map]
      have hj : j < p.length := by rw [List.length_map] at h2; exact h2
      have hin : p[j] < n := by
        have : p[j] ∈ p := List.getElem_mem _
        have := hp.mem_iff.mp this
        simpa using this
      have hid : p.idxOf p[j] = j := by
        have := List.idxOf_lt_length_iff.mpr (List.getElem_mem (l := p) (n := j) hj)
        have e2 : p[p.idxOf p[j]] = p[j] := List.getElem_idxOf this
        exact nodupIx nd (List.getElem?_eq_some_iff.mpr ⟨this, e2⟩) (List.getElem?_eq_some_iff.mpr ⟨hj, rfl⟩)
      simp [List.getD_eq_getElem?_getD, hin, hid, h1]
  · cases h

/-! ### what is walked -/
def iE (g : Sto → Dt → Option (List Dt)) (f : SE) : SA := fun r st => (f r st).bind fun x => (g x.2 x.1).map fun xs => (xs, x.2)
/-- a list that is not live -/
def itL (_ : Sto) : Dt → Option (List Dt)
  | .lst ds => some ds
  | _ => none
theorem sim_iL {te : TE} {f : SE} (hf : SimE T te f) : SimI T (iList K te) (iE itL f) := by
  intro Z L st H s r xs st' Q w e h q
  obtain ⟨⟨dx, st1⟩, h1, h2⟩ := bind_some' h
  obtain ⟨ys, h3, h4⟩ := Option.map_eq_some_iff.mp h2
  cases h4
  refine hf Z L st H s r dx _ _ w e h1 fun x H1 L1 f1 p1 => ?_
  cases dx with
  | lst ds =>
    cases h3
    have p1' := p1
    unfold Den at p1'
    obtain ⟨a, vs, rfl, nb, ea, t⟩ := p1'
    refine ⟨a, rfl, ⟨vs, SqL.of ea⟩, q _ H1 L1 f1 fun Z2 L2 st2 H2 f2 => ?_⟩
    have ea2 : H2 a = some (.lst vs) := f2.kp a _ ea (fun z => nb (.inr z)) (fun ps z => by cases z)
    have t2 := t.keep f2
    refine ⟨⟨vs, SqL.of ea2, Nat.le_of_eq t.len.symm⟩, fun i d hd => ?_⟩
    obtain ⟨v, hv, pv⟩ := t2.get hd
    refine ⟨⟨vs, v, SqL.of ea2, hv⟩, fun x H3 y => ?_⟩
    obtain ⟨rfl, y⟩ := y
    have := y vs (SqL.of ea2)
    rw [hv] at this
    cases this
    exact ⟨.refl f2.wd, pv⟩
  | _ => cases h3
/-- a text, sign by sign -/
def itS (_ : Sto) : Dt → Option (List Dt)
  | .str z => some (z.cps.toList.map fun c => .str ⟨#[c]⟩)
  | _ => none
theorem sim_iS {te : TE} {f : SE} (hf : SimE T te f) : SimI T (iStr te) (iE itS f) := by
  intro Z L st H s r xs st' Q w e h q
  obtain ⟨⟨dx, st1⟩, h1, h2⟩ := bind_some' h
  obtain ⟨ys, h3, h4⟩ := Option.map_eq_some_iff.mp h2
  cases h4
  refine hf Z L st H s r dx _ _ w e h1 fun x H1 L1 f1 p1 => ?_
  cases dx with
  | str z =>
    cases h3
    refine ⟨z, den_str p1, q _ H1 L1 f1 fun Z2 L2 st2 H2 f2 => ⟨?_, fun i d hd => ?_⟩⟩
    · show z.cps.size ≤ _
      rw [List.length_map, Array.length_toList]
      exact Nat.le_refl _
    · rw [List.getElem?_map] at hd
      obtain ⟨c, hc, rfl⟩ := Option.map_eq_some_iff.mp hd
      have hc' : z.cps[i]? = some c := by rw [Array.getElem?_toList] at hc; exact hc
      refine ⟨(Array.getElem?_eq_some_iff.mp hc').1, fun x H3 y => ?_⟩
      obtain ⟨rfl, c', y1, rfl⟩ := y
      rw [hc'] at y1
      cases y1
      exact ⟨.refl f2.wd, Den.str⟩
  | _ => cases h3
/-- range(n), range(a, b) -/
def rngL (lo : Int) (n : Nat) : List Dt := (List.range n).map fun i => .int (lo + (i : Nat))
theorem walk_rng {Z : Addr → Prop} {L : List Addr} {st : Sto} {H : Hp} (lo : Int) (n : Nat) : WalkD T Z L st H (Itr lo n) (rngL lo n) := by
  intro Z2 L2 st2 H2 f2
  refine ⟨?_, fun i d hd => ?_⟩
  · show n ≤ (rngL lo n).length
    unfold rngL
    simp
  · unfold rngL at hd
    rw [List.getElem?_map] at hd
    obtain ⟨j, hj, rfl⟩ := Option.map_eq_some_iff.mp hd
    obtain ⟨h1, h2⟩ := List.getElem?_eq_some_iff.mp hj
    simp at h1 h2
    subst h2
    refine ⟨h1, fun x H3 y => ?_⟩
    obtain ⟨rfl, rfl⟩ := y
    exact ⟨.refl f2.wd, Den.int⟩
def iR (g : List Dt → Option (List Dt)) (f : SA) : SA := fun r st => (f r st).bind fun x => (g x.1).map fun xs => (xs, x.2)
def rg1 : List Dt → Option (List Dt)
  | [.int j] => if -(2 ^ 62) ≤ j ∧ j < 2 ^ 62 then some (rngL 0 j.toNat) else none
  | _ => none
def rg2 : List Dt → Option (List Dt)
  | [.int i, .int j] => if -(2 ^ 62) ≤ i ∧ i < 2 ^ 62 ∧ -(2 ^ 62) ≤ j ∧ j < 2 ^ 62 then some (rngL i (j - i).toNat) else none
  | _ => none
theorem sim_rg1 {ta : TA} {f : SA} (hf : SimA T ta f) : SimI T (iRng1 ta) (iR rg1 f) := by
  intro Z L st H s r xs st' Q w e h q
  obtain ⟨⟨ds, st1⟩, h1, h2⟩ := bind_some' h
  obtain ⟨ys, h3, h4⟩ := Option.map_eq_some_iff.mp h2
  cases h4
  refine hf Z L st H s r ds _ _ w e h1 fun vs H1 L1 f1 p1 => ?_
  dsimp only at h3
  unfold rg1 at h3
  split at h3
  · split at h3
    · rename_i j hz
      cases h3
      obtain ⟨v, rfl, p⟩ := dens1 p1
      exact ⟨j, by rw [den_int p], hz.1, hz.2, q _ H1 L1 f1 (walk_rng 0 _)⟩
    · cases h3
  · cases h3
theorem sim_rg2 {ta : TA} {f : SA} (hf : SimA T ta f) : SimI T (iRng2 ta) (iR rg2 f) := by
  intro Z L st H s r xs st' Q w e h q
  obtain ⟨⟨ds, st1⟩, h1, h2⟩ := bind_some' h
  obtain ⟨ys, h3, h4⟩ := Option.map_eq_some_iff.mp h2
  cases h4
  refine hf Z L st H s r ds _ _ w e h1 fun vs H1 L1 f1 p1 => ?_
  dsimp only at h3
  unfold rg2 at h3
  split at h3
  · split at h3
    · rename_i i j hz
      cases h3
      obtain ⟨v, u, rfl, p, p'⟩ := dens2 p1
      exact ⟨i, j, by rw [den_int p, den_int p'], ⟨hz.1, hz.2.1, hz.2.2.1, hz.2.2.2⟩, q _ H1 L1 f1 (walk_rng i _)⟩
    · cases h3
  · cases h3
/-- enumerate(list) -/
def enumL (ds : List Dt) : List Dt := ds.zipIdx.map fun x => .tup [.int (x.2 : Nat), x.1]
def en : List Dt → Option (List Dt)
  | [.lst ds] => some (enumL ds)
  | _ => none
theorem sim_enum {ta : TA} {f : SA} (hf : SimA T ta f) : SimI T (iEnum K ta) (iR en f) := by
  intro Z L st H s r xs st' Q w e h q
  obtain ⟨⟨dx, st1⟩, h1, h2⟩ := bind_some' h
  obtain ⟨ys, h3, h4⟩ := Option.map_eq_some_iff.mp h2
  cases h4
  refine hf Z L st H s r dx _ _ w e h1 fun vs0 H1 L1 f1 p1 => ?_
  dsimp only at h3
  unfold en at h3
  split at h3
  · rename_i ds
    cases h3
    obtain ⟨v, rfl, p⟩ := dens1 p1
    unfold Den at p
    obtain ⟨a, vs, rfl, nb, ea, t⟩ := p
    refine ⟨a, vs, rfl, SqL.of ea, q _ H1 L1 f1 fun Z2 L2 st2 H2 f2 => ?_⟩
    have ea2 : H2 a = some (.lst vs) := f2.kp a _ ea (fun z => nb (.inr z)) (fun ps z => by cases z)
    have t2 := t.keep f2
    have wk := walk_enum (K := K) (a := a) (xs := vs)
    refine ⟨?_, fun i d hd => ?_⟩
    · have : (enumL ds).length = vs.length := by unfold enumL; simp [t.len]
      rw [this]
      exact wk.stops H2 (SqL.of ea2)
    · unfold enumL at hd
      rw [List.getElem?_map] at hd
      obtain ⟨⟨d0, j⟩, hj, rfl⟩ := Option.map_eq_some_iff.mp hd
      rw [List.getElem?_zipIdx] at hj
      obtain ⟨d1, hd1, e1⟩ := Option.map_eq_some_iff.mp hj
      simp at e1
      obtain ⟨rfl, rfl⟩ := e1
      obtain ⟨v, hv, pv⟩ := t2.get hd1
      have hi : i < vs.length := (List.getElem?_eq_some_iff.mp hv).1
      refine ⟨wk.goes i H2 hi (SqL.of ea2), fun x H3 y => ?_⟩
      obtain ⟨TT, x1, y1, rfl, nT, rfl, hx1, hy1⟩ := wk.yields i H2 x H3 hi (SqL.of ea2) y
      simp at hx1
      have hy2 : vs[i]? = some y1 := hy1
      rw [hv] at hy2
      cases hy2
      subst hx1
      exact ⟨.new f2.wd nT, .newT f2.wd nT (.cons Den.int (.cons pv .nil))⟩
  · cases h3
end

/-! ### dict comprehensions -/
def dcGo (k : SG) (c : ST) (fk fv : SE) (r : Evr) : List Dt → Sto → List Key → List Dt → Option ((List Key × List Dt) × Sto)
  | [], st, ks, ds => some ((ks, ds), st)
  | x :: xs, st, ks, ds => (k x r).bind fun r1 => (c r1 st).bind fun b => if b.1 = true then (fk r1 b.2).bind fun y => (fv r1 y.2).bind fun z => (keyD y.1).bind fun kk =>
      if ks.length < sizeLine then dcGo k c fk fv r xs z.2 (pPut kk z.1 ks ds).1 (pPut kk z.1 ks ds).2 else none
    else dcGo k c fk fv r xs b.2 ks ds
def dc (fi : SA) (own : List Nat) (k : SG) (c : ST) (fk fv : SE) : Evr → Sto → Option ((List Key × List Dt) × Sto) := fun r st => (fi r st).bind fun xs => dcGo k c fk fv (wipeD r own) xs.1 xs.2 [] []
def dToV (f : Evr → Sto → Option ((List Key × List Dt) × Sto)) : SE := fun r st => (f r st).bind fun z => some (.dic z.1.1 z.1.2, z.2)
def dToR (f : Evr → Sto → Option ((List Key × List Dt) × Sto)) : SE := fun r st => (f r st).bind fun z => some (.ref z.2.length, z.2 ++ [some (.dic z.1.1 z.1.2)])
section
variable {T : List (Addr × Str)}
theorem dc_run {is own : List Nat} {wi : TI} {fi : SA} {g : TG} {k : SG} {tt : TT} {c : ST} {tk tv : TE} {fk fv : SE} (hi : SimI T wi fi) (hg : SimG T is g k) (hc : SimT T tt c) (hk : SimE T tk fk) (hv : SimE T tv fv) (hs : ∀ i ∈ is, i ∈ own)
    {Z : Addr → Prop} {L : List Addr} {st : Sto} {H : Hp} {s : L2.St} {r : Evr} {ks : List Key} {zs : List Dt} {st' : Sto} {Q : VK} (w : Wd T Z L st H) (e : EnvOk L (Bad Z L st) H r s) (h : dc fi own k c fk fv r st = some ((ks, zs), st'))
    (q : ∀ D vs H' L', Afz T Z L st H (zAnd Z D) L' st' H' → H D = none → H' D = some (.dK (ks.zip vs)) → ks.length = vs.length → Dens L' (Bad (zAnd Z D) L' st') H' zs vs → Q (.ref D) H') : tDc wi g tt tk tv own s H Q := by
  obtain ⟨⟨xs, st1⟩, a1, a2⟩ := bind_some' h
  refine hi Z L st H s r xs st1 _ w e a1 fun J H1 L1 f1 wk D nD => ?_
  have nD0 : H D = none := by
    cases qq : H D with
    | none => rfl
    | some o => exact absurd nD (f1.trk D (by rw [qq]; simp))
  have m1 : Afz T Z L1 st1 H1 (zAnd Z D) L1 st1 (upd H1 D (.dK [])) := Afz.mine f1.wd nD
  refine ⟨fun i m H2 => m = xs.length - i ∧ i ≤ xs.length ∧ ∃ L2 st2 kc acc vs, Afz T Z L1 st1 H1 (zAnd Z D) L2 st2 H2 ∧ H2 D = some (.dK (kc.zip vs)) ∧ kc.length = vs.length ∧ Dens L2 (Bad (zAnd Z D) L2 st2) H2 acc vs ∧ dcGo k c fk fv (wipeD r own) (xs.drop i) st2 kc acc = some ((ks, zs), st'),
    ⟨xs.length, by simp, Nat.zero_le _, L1, st1, [], [], [], m1, upd_same, rfl, .nil, a2⟩, ?_⟩
  rintro i m H2 ⟨rfl, hle, L2, st2, kc, acc, vs, f2, hD, hl, hacc, h2⟩
  obtain ⟨ws, wg⟩ := wk (zAnd Z D) L2 st2 H2 f2
  by_cases hlt : i < xs.length
  · right
    obtain ⟨go, yl⟩ := wg i xs[i] (List.getElem?_eq_getElem hlt)
    rw [List.drop_eq_getElem_cons hlt] at h2
    obtain ⟨r3, b1, b2⟩ := bind_some' h2
    obtain ⟨⟨b, st3⟩, b3, b4⟩ := bind_some' b2
    refine ⟨go, fun H5 => ∃ L5 st5 kc5 acc5 vs5, Afz T Z L1 st1 H1 (zAnd Z D) L5 st5 H5 ∧ H5 D = some (.dK (kc5.zip vs5)) ∧ kc5.length = vs5.length ∧ Dens L5 (Bad (zAnd Z D) L5 st5) H5 acc5 vs5 ∧ dcGo k c fk fv (wipeD r own) (xs.drop (i + 1)) st5 kc5 acc5 = some ((ks, zs), st'),
      fun H5 x => ⟨xs.length - (i + 1), by omega, rfl, hlt, x⟩, fun x H3 y => ?_⟩
    obtain ⟨f3, p3⟩ := yl x H3 y
    have e3 := (((e.keep f1).keep f2).keep f3).wipe own
    refine hg (zAnd Z D) L2 st2 H3 _ _ x _ r3 _ f3.wd e3 p3 b1 fun s4 e4 wp => ⟨?_, ?_⟩
    · rw [wp own hs, wipe_wipe]
    refine hc (zAnd Z D) L2 st2 H3 s4 r3 b st3 _ f3.wd e4 b3 fun H4 L4 f4 => ?_
    have keepD : ∀ {L' : List Addr} {st'' : Sto} {H' : Hp}, Afz T (zAnd Z D) L2 st2 H2 (zAnd Z D) L' st'' H' → H' D = some (.dK (kc.zip vs)) := fun ff => ff.kp D _ hD (fun z => by
      obtain ⟨j, d, j1, j2⟩ := z
      exact (f2.wd.own j D d j1 j2).1 (.inr rfl)) (fun ps z => by cases z)
    cases b with
    | false =>
      rw [if_neg (by simp)] at b4
      exact iteF ⟨L4, st3, kc, acc, vs, f2.trans (f3.trans f4), keepD (f3.trans f4), hl, (hacc.keep f3).keep f4, b4⟩
    | true =>
      rw [if_pos rfl] at b4
      obtain ⟨⟨dy, st5⟩, c1, c2⟩ := bind_some' b4
      obtain ⟨⟨dz, st6⟩, c3, c4⟩ := bind_some' c2
      obtain ⟨kk, c5, c6⟩ := bind_some' c4
      split at c6
      case isFalse => cases c6
      case isTrue hz =>
      refine iteT (hk (zAnd Z D) L4 st3 H4 s4 r3 dy st5 _ f4.wd (e4.keep f4) c1 fun y H5 L5 f5 p5 => ?_)
      refine hv (zAnd Z D) L5 st5 H5 s4 r3 dz st6 _ f5.wd ((e4.keep f4).keep f5) c3 fun z H6 L6 f6 p6 => ?_
      have fall := f3.trans (f4.trans (f5.trans f6))
      have hacc6 := (((hacc.keep f3).keep f4).keep f5).keep f6
      have zD : zAnd Z D D := .inr rfl
      have hD6 := keepD fall
      have tD6 : ∀ zs, H6 D ≠ some (.tup zs) := fun zs z => by rw [hD6] at z; cases z
      have wd7 : Wd T (zAnd Z D) L6 st6 (upd H6 D (.dK (putK (kc.zip vs) kk z))) := f6.wd.chg zD fun u eu => by rw [hD6] at eu; cases eu; exact .inr ⟨_, rfl⟩
      have fa := f2.trans fall
      have ek : y = kV kk := keyD_ok p5 c5
      refine ⟨kc.zip vs, kk, ek, hD6, by rw [List.length_zip]; omega, L6, st6, (pPut kk dz kc acc).1, (pPut kk dz kc acc).2, (pPut kk z kc vs).2, ⟨wd7, fa.pre, fun b u eb nl nt => ?_, fa.nw, fun b n z => ?_, fun b us eb => ?_, fa.fr, fa.zs⟩, ?_, ?_, (Dens.pPut p6 kk hacc6).chg (.inl zD) tD6, c6⟩
      · rw [upd_ne (ne_of_none eb nD)]; exact fa.kp b u eb nl nt
      · by_cases hb : b = D
        · rw [hb, upd_same] at z; cases z
        · rw [upd_ne hb] at z; exact fa.trk b n z
      · rw [upd_ne (ne_of_none eb nD)]; exact fa.tp b us eb
      · rw [upd_same, pPut_zip kk z hl, pPut_keys kk z dz kc vs acc]
      · rw [pPut_keys kk dz z kc acc vs]; exact pPut_len kk z hl
  · left
    have hx : i = xs.length := by omega
    subst hx
    rw [List.drop_length] at h2
    cases h2
    exact ⟨ws, q D vs H2 L2 (f1.trans f2) nD0 hD hl hacc⟩
theorem sim_dcV {is own : List Nat} {wi : TI} {fi : SA} {g : TG} {k : SG} {tt : TT} {c : ST} {tk tv : TE} {fk fv : SE} (hi : SimI T wi fi) (hg : SimG T is g k) (hc : SimT T tt c) (hk : SimE T tk fk) (hv : SimE T tv fv) (hs : ∀ i ∈ is, i ∈ own := by decide) : SimE T (tDc wi g tt tk tv own) (dToV (dc fi own k c fk fv)) := by
  intro Z L st H s r d st' Q w e h q
  obtain ⟨⟨⟨ks, zs⟩, st1⟩, a1, h⟩ := bind_some' h
  cases h
  refine dc_run hi hg hc hk hv hs w e a1 fun D vs H' L' ff nD hD hl hv => ?_
  refine q _ H' L' ff.back ?_
  unfold Den
  refine ⟨D, vs, rfl, fun z => ?_, .inl hD, hl, hv.mono bad_zAnd⟩
  rcases z with z | ⟨j, d, j1, j2⟩
  · exact w.zt D z nD
  · exact (ff.wd.own j D d j1 j2).1 (.inr rfl)
theorem sim_dcR {is own : List Nat} {wi : TI} {fi : SA} {g : TG} {k : SG} {tt : TT} {c : ST} {tk tv : TE} {fk fv : SE} (hi : SimI T wi fi) (hg : SimG T is g k) (hc : SimT T tt c) (hk : SimE T tk fk) (hv : SimE T tv fv) (hs : ∀ i ∈ is, i ∈ own := by decide) : SimE T (tDc wi g tt tk tv own) (dToR (dc fi own k c fk fv)) := by
  intro Z L st H s r d st' Q w e h q
  obtain ⟨⟨⟨ks, zs⟩, st1⟩, a1, h⟩ := bind_some' h
  cases h
  refine dc_run hi hg hc hk hv hs w e a1 fun D vs H' L' ff nD hD hl hv => ?_
  refine q _ H' (L' ++ [D]) (ff.claim w nD hD ⟨vs, rfl, hl, hv⟩) ?_
  unfold Den
  exact ⟨D, by rw [← ff.wd.len]; simp, rfl⟩
end
end HB

set_option Elab.async false
set_option linter.all false
set_option maxRecDepth 100000
set_option maxHeartbeats 1000000
/-! HB, part i: repr of nested data. -/
namespace HB
open PySem PySem.Spec PyProof.Rows L2

mutual
def repT : Dt → Str
  | .non => "None"
  | .bl b => if b then "True" else "False"
  | .int i => toString i
  | .str x => reprText x
  | .ref _ => ""
  | .lst ds => listText (repTs ds)
  | .tup ds => tupleText (repTs ds)
  | .dic ks ds => dictText (repKs ks ds)
def repTs : List Dt → List Str
  | [] => []
  | d :: ds => repT d :: repTs ds
def repKs : List Key → List Dt → List Str
  | k :: ks, d :: ds => ((match k with
    | .inl i => toString i
    | .inr x => reprText x) ++ ": " ++ repT d) :: repKs ks ds
  | _, [] => []
  | [], _ :: _ => []
end
mutual
def repOk : Dt → Bool
  | .int i => decide (i.natAbs.log2 < 1920)
  | .ref _ => false
  | .lst ds => repOks ds
  | .tup ds => repOks ds
  | .dic ks ds => ks.all (fun k => match k with
    | .inl i => decide (i.natAbs.log2 < 1920)
    | .inr _ => true) && repOks ds
  | _ => true
def repOks : List Dt → Bool
  | [] => true
  | d :: ds => repOk d && repOks ds
end
mutual
def depD : Dt → Nat
  | .lst ds => depDs ds + 1
  | .tup ds => depDs ds + 1
  | .dic _ ds => depDs ds + 1
  | _ => 0
def depDs : List Dt → Nat
  | [] => 0
  | d :: ds => max (depD d) (depDs ds)
end
/-- one object tells one data -/
theorem zip_inj {ks ls : List Key} {vs us : List V} (h1 : ks.length = vs.length) (h2 : ls.length = us.length) (e : ks.zip vs = ls.zip us) : ks = ls ∧ vs = us := by
  have a := congrArg List.unzip e
  rw [List.unzip_zip h1, List.unzip_zip h2] at a
  exact ⟨congrArg Prod.fst a, congrArg Prod.snd a⟩
theorem rd_one {H : Hp} {a : Addr} {u u' : HO} (nf : ∀ o x, u ≠ .frz o x) (nf' : ∀ o x, u' ≠ .frz o x) (h : Rd H a u) (h' : Rd H a u') : u = u' := by
  rcases h with h | ⟨o, h⟩ <;> rcases h' with h' | ⟨o', h'⟩ <;> rw [h] at h' <;> cases h'
  · rfl
  · exact absurd rfl (nf _ _)
  · exact absurd rfl (nf' _ _)
  · rfl
mutual
theorem Den.one {L L' : List Addr} {B B' : Addr → Prop} {H : Hp} : ∀ {d e : Dt} {v : V}, noRef d = true → noRef e = true → Den L B H d v → Den L' B' H e v → d = e
  | .non, e, v, n, m, h, g => by
    rw [den_non h] at g
    cases e <;> (unfold Den at g; first | rfl | (cases g; done) | (obtain ⟨_, _, g, _⟩ := g; cases g; done) | (unfold noRef at m; cases m))
  | .bl b, e, v, n, m, h, g => by
    rw [den_bl h] at g
    cases e <;> (unfold Den at g; first | (cases g; done) | (cases g; rfl) | (obtain ⟨_, _, g, _⟩ := g; cases g; done) | (unfold noRef at m; cases m))
  | .int b, e, v, n, m, h, g => by
    rw [den_int h] at g
    cases e <;> (unfold Den at g; first | (cases g; done) | (cases g; rfl) | (obtain ⟨_, _, g, _⟩ := g; cases g; done) | (unfold noRef at m; cases m))
  | .str b, e, v, n, m, h, g => by
    rw [den_str h] at g
    cases e <;> (unfold Den at g; first | (cases g; done) | (cases g; rfl) | (obtain ⟨_, _, g, _⟩ := g; cases g; done) | (unfold noRef at m; cases m))
  | .ref _, e, v, n, m, h, g => by unfold noRef at n; cases n
  | .lst ds, e, v, n, m, h, g => by
    unfold noRef at n
    unfold Den at h
    obtain ⟨a, vs, rfl, _, ea, t⟩ := h
    cases e with
    | lst es =>
      unfold noRef at m
      unfold Den at g
      obtain ⟨a', vs', e1, _, ea', t'⟩ := g
      cases e1
      rw [ea] at ea'; cases ea'
      rw [Dens.one n m t t']
    | tup es =>
      unfold Den at g
      obtain ⟨a', vs', e1, ea', _⟩ := g
      cases e1
      rw [ea] at ea'; cases ea'
    | dic ks es =>
      unfold Den at g
      obtain ⟨a', vs', e1, _, ea', _⟩ := g
      cases e1
      rcases ea' with ea' | ⟨o, ea'⟩ <;> rw [ea] at ea' <;> cases ea'
    | ref k => unfold noRef at m; cases m
    | _ => unfold Den at g; cases g
  | .tup ds, e, v, n, m, h, g => by
    unfold noRef at n
    unfold Den at h
    obtain ⟨a, vs, rfl, ea, t⟩ := h
    cases e with
    | tup es =>
      unfold noRef at m
      unfold Den at g
      obtain ⟨a', vs', e1, ea', t'⟩ := g
      cases e1
      rw [ea] at ea'; cases ea'
      rw [Dens.one n m t t']
    | lst es =>
      unfold Den at g
      obtain ⟨a', vs', e1, _, ea', _⟩ := g
      cases e1
      rw [ea] at ea'; cases ea'
    | dic ks es =>
      unfold Den at g
      obtain ⟨a', vs', e1, _, ea', _⟩ := g
      cases e1
      rcases ea' with ea' | ⟨o, ea'⟩ <;> rw [ea] at ea' <;> cases ea'
    | ref k => unfold noRef at m; cases m
    | _ => unfold Den at g; cases g
  | .dic ks ds, e, v, n, m, h, g => by
    unfold noRef at n
    unfold Den at h
    obtain ⟨a, vs, rfl, _, ea, el, t⟩ := h
    cases e with
    | dic ls es =>
      unfold noRef at m
      unfold Den at g
      obtain ⟨a', vs', e1, _, ea', el', t'⟩ := g
      cases e1
      have ez := rd_one (fun o x z => by cases z) (fun o x z => by cases z) ea ea'
      injection ez with ez
      obtain ⟨rfl, rfl⟩ := zip_inj el el' ez
      rw [Dens.one n m t t']
    | lst es =>
      unfold Den at g
      obtain ⟨a', vs', e1, _, ea', _⟩ := g
      cases e1
      rcases ea with ea | ⟨o, ea⟩ <;> rw [ea'] at ea <;> cases ea
    | tup es =>
      unfold Den at g
      obtain ⟨a', vs', e1, ea', _⟩ := g
      cases e1
      rcases ea with ea | ⟨o, ea⟩ <;> rw [ea'] at ea <;> cases ea
    | ref k => unfold noRef at m; cases m
    | _ => unfold Den at g; cases g
theorem Dens.one {L L' : List Addr} {B B' : Addr → Prop} {H : Hp} : ∀ {ds es : List Dt} {vs : List V}, noRefs ds = true → noRefs es = true → Dens L B H ds vs → Dens L' B' H es vs → ds = es
  | [], es, vs, n, m, h, g => by
    have h1 := h.len; have h2 := g.len
    rw [← h1] at h2
    exact (List.length_eq_zero_iff.mp h2).symm
  | d :: ds, [], vs, n, m, h, g => by
    have := h.len; have := g.len
    simp at *; omega
  | d :: ds, e :: es, vs, n, m, h, g => by
    unfold noRefs at n m
    rw [Bool.and_eq_true] at n m
    obtain ⟨v, r, rfl, p, t⟩ := h.uncons
    obtain ⟨v', r', e1, p', t'⟩ := g.uncons
    cases e1
    rw [Den.one n.1 m.1 p p', Dens.one n.2 m.2 t t']
end
section
variable {X : Cx} {pins : List (Addr × Obj)} {s1 : L2.St} {H : Hp} {s : Shared} {L : List Addr} {B : Addr → Prop}
/-- the addresses as are those of parts of some data of at most n in size -/
def PartsOf (L : List Addr) (B : Addr → Prop) (H : Hp) (n : Nat) (as : List Addr) : Prop := ∀ b ∈ as, ∃ d, sizeOf d ≤ n ∧ noRef d = true ∧ Den L B H d (.ref b)
theorem all_get {prog : Program} {w : World} {as : List Addr} {h0 : Heap} {n : Nat} : ∀ {l : List Value} {ts : List Str}, ReprAllK prog w as h0 n l ts → ∀ (i : Nat) (y : Value), l.toArray[i]? = some y → ∃ t, ts[i]? = some t ∧ ReprK prog w as h0 n y t
  | [], _, .nil, i, y, e => by simp at e
  | x :: l, t :: ts, .cons h r, 0, y, e => by
    simp at e; subst e
    exact ⟨t, rfl, h⟩
  | x :: l, t :: ts, .cons h r, i + 1, y, e => by
    obtain ⟨t', h1, h2⟩ := all_get r i y (by simpa using e)
    exact ⟨t', by simpa using h1, h2⟩
theorem all_more {prog : Program} {w : World} {as as' : List Addr} {h0 : Heap} {n : Nat} (hs : ∀ b ∈ as, b ∈ as') : ∀ {l : List Value} {ts : List Str}, ReprAllK prog w as h0 n l ts → ReprAllK prog w as' h0 n l ts
  | _, _, .nil => .nil
  | _, _, .cons h r => .cons (h.more hs) (all_more hs r)
theorem repTs_len : ∀ ds : List Dt, (repTs ds).length = ds.length
  | [] => rfl
  | d :: ds => by unfold repTs; simp [repTs_len ds]
def keyT : Key → Str
  | .inl i => toString i
  | .inr x => reprText x
def keyOk : Key → Bool
  | .inl i => decide (i.natAbs.log2 < 1920)
  | .inr _ => true
theorem app_len (x y : Str) : (x ++ y).length = x.length + y.length := strLen_append x y
theorem key_rep {prog : Program} {w : World} {as : List Addr} {h0 : Heap} {n : Nat} {k : Key} {u : Value} (h : (mixKind prog w).is k u = true) (ho : keyOk k = true) (hz : (keyT k).length ≤ sizeLine) : ReprK prog w as h0 n u (keyT k) := by
  rcases keyIs_shape h with ⟨i, t, rfl, rfl⟩ | ⟨x, t, rfl, rfl⟩
  · exact ReprK.of_is (ReprIs.int t (of_decide_eq_true ho)) _ _ _
  · exact ReprK.of_is (ReprIs.str x t hz) _ _ _
theorem entries_rep {prog : Program} {w : World} {as : List Addr} {h0 : Heap} {n : Nat} : ∀ {es : List DictEntry} {ws : List (Key × Value)} {ks : List Key} {ds : List Dt}, Pairs (mixKind prog w) es ws → ks = ws.map (·.1) → ReprAllK prog w as h0 n (ws.map (·.2)) (repTs ds) → ks.all keyOk = true → piled (repKs ks ds) ≤ sizeLine → ReprEntriesK prog w as h0 n es (repKs ks ds)
  | [], [], ks, ds, .nil, e, h, _, _ => by
    subst e
    cases ds with
    | nil => unfold repKs; exact .nil
    | cons d ds => unfold repKs; exact .nil
  | e :: es, kv :: ws, ks, ds, .cons h1 h2 r, ek, h, ho, hz => by
    subst ek
    cases ds with
    | nil => unfold repTs at h; cases h
    | cons d ds =>
      unfold repTs at h
      cases h with
      | cons a1 a2 =>
        rw [List.map_cons] at ho hz ⊢
        rw [List.all_cons, Bool.and_eq_true] at ho
        unfold repKs at hz ⊢
        rw [piled_cons] at hz
        have e1 : ((match kv.1 with
          | .inl i => toString i
          | .inr x => reprText x) : Str) = keyT kv.1 := by
          cases kv.1 <;> rfl
        rw [e1] at hz ⊢
        rw [app_len, app_len] at hz
        refine .cons (key_rep h1 ho.1 (by omega)) (by rw [h2]; exact a1) (entries_rep r rfl a2 ho.2 (by omega))
theorem piled_vals : ∀ (ks : List Key) (ds : List Dt), ks.length = ds.length → piled (repTs ds) ≤ piled (repKs ks ds)
  | [], [], _ => by unfold repTs repKs; exact Nat.le_refl _
  | [], _ :: _, h => by simp at h
  | _ :: _, [], h => by simp at h
  | k :: ks, d :: ds, h => by
    unfold repTs repKs
    rw [piled_cons, piled_cons, app_len, app_len]
    have := piled_vals ks ds (by simpa using h)
    omega
theorem kv_split : ∀ {ks : List Key} {vs : List V} {ws : List (Key × Value)}, ks.length = vs.length → KV (ks.zip vs) ws → ks = ws.map (·.1) ∧ Vals vs (ws.map (·.2))
  | [], [], _, _, h => by
    cases h
    exact ⟨rfl, .nil⟩
  | [], _ :: _, _, h, _ => by simp at h
  | _ :: _, [], _, h, _ => by simp at h
  | k :: ks, v :: vs, _, hl, h => by
    rw [List.zip_cons_cons] at h
    cases h with
    | cons a b =>
      obtain ⟨h1, h2⟩ := kv_split (by simpa using hl) b
      obtain ⟨h3, h4⟩ := a
      exact ⟨by rw [h1, List.map_cons, ← h3], .cons h4 h2⟩
mutual
theorem rep_ok (I : Inv X pins s1 H s) : ∀ (d : Dt) (v : V) (u : Value) (n : Nat), noRef d = true → repOk d = true → depD d ≤ n → (repT d).length ≤ sizeLine → Den L B H d v → RelV v u → ∃ as, ReprK X.prog X.w as s.heap n u (repT d) ∧ PartsOf L B H (sizeOf d) as
  | .non, v, u, n, hn, ho, hd, hz, q, r => by
    rw [den_non q] at r; cases r
    exact ⟨[], ReprK.of_is ReprIs.none _ _ _, fun b hb => by simp at hb⟩
  | .bl b, v, u, n, hn, ho, hd, hz, q, r => by
    rw [den_bl q] at r; cases r
    unfold repT
    have := ReprK.of_is (prog := X.prog) (w := X.w) (ReprIs.bool b) [] s.heap n
    refine ⟨[], ?_, fun b hb => by simp at hb⟩
    cases b <;> exact this
  | .int i, v, u, n, hn, ho, hd, hz, q, r => by
    rw [den_int q] at r; obtain ⟨t, rfl⟩ := r
    unfold repOk at ho
    unfold repT
    exact ⟨[], ReprK.of_is (ReprIs.int t (of_decide_eq_true ho)) _ _ _, fun b hb => by simp at hb⟩
  | .str x, v, u, n, hn, ho, hd, hz, q, r => by
    rw [den_str q] at r; obtain ⟨t, rfl⟩ := r
    unfold repT at hz ⊢
    exact ⟨[], ReprK.of_is (ReprIs.str x t hz) _ _ _, fun b hb => by simp at hb⟩
  | .ref _, v, u, n, hn, ho, hd, hz, q, r => by unfold noRef at hn; cases hn
  | .lst ds, v, u, n, hn, ho, hd, hz, q, r => by
    have q0 := q
    have hn0 := hn
    unfold noRef at hn
    unfold repOk at ho
    unfold depD at hd
    unfold repT at hz ⊢
    unfold Den at q
    obtain ⟨a, vs, rfl, nb, ea, t⟩ := q
    cases r
    obtain ⟨its, rv, ⟨o, k, h1, h2, h3, h4⟩, _⟩ := I.list (SqL.of (K := X.K) ea)
    obtain ⟨m, rfl⟩ : ∃ m, n = m + 1 := ⟨n - 1, by omega⟩
    have hp := piled_le_listText (repTs ds)
    obtain ⟨as, hR, hP⟩ := reps_ok I ds vs its m hn ho (by omega) (by omega) t rv
    cases its with
    | nil =>
      cases rv
      have e0 : ds = [] := List.length_eq_zero_iff.mp t.len
      subst e0
      exact ⟨[], ReprK.listEmpty h1 h2 h4, fun b hb => by simp at hb⟩
    | cons y l =>
      have na : a ∉ as := fun z => by
        obtain ⟨d', z1, z2, z3⟩ := hP a z
        have e := Den.one hn0 z2 q0 z3
        rw [← e] at z1
        simp at z1
        omega
      refine ⟨a :: as, ReprK.list h1 h2 h4 na ?_ (all_get hR), fun b hb => ?_⟩
      · rw [repTs_len, t.len, rv.length]; simp
      · rcases List.mem_cons.mp hb with rfl | hb
        · exact ⟨.lst ds, Nat.le_refl _, hn0, q0⟩
        · obtain ⟨d', z1, z2, z3⟩ := hP b hb
          exact ⟨d', by simp; omega, z2, z3⟩
  | .tup ds, v, u, n, hn, ho, hd, hz, q, r => by
    have q0 := q
    have hn0 := hn
    unfold noRef at hn
    unfold repOk at ho
    unfold depD at hd
    unfold repT at hz ⊢
    unfold Den at q
    obtain ⟨a, vs, rfl, ea, t⟩ := q
    cases r
    obtain ⟨its, rv, ⟨o, h1, h2, k, h4⟩, _⟩ := I.tuple (SqT.of (K := X.K) ea)
    obtain ⟨m, rfl⟩ : ∃ m, n = m + 1 := ⟨n - 1, by omega⟩
    have hp := piled_le_tupleText (repTs ds)
    obtain ⟨as, hR, hP⟩ := reps_ok I ds vs its m hn ho (by omega) (by omega) t rv
    have na : a ∉ as := fun z => by
      obtain ⟨d', z1, z2, z3⟩ := hP a z
      have e := Den.one hn0 z2 q0 z3
      rw [← e] at z1
      simp at z1
      omega
    refine ⟨a :: as, ReprK.tuple h1 h2 h4 na hR, fun b hb => ?_⟩
    rcases List.mem_cons.mp hb with rfl | hb
    · exact ⟨.tup ds, Nat.le_refl _, hn0, q0⟩
    · obtain ⟨d', z1, z2, z3⟩ := hP b hb
      exact ⟨d', by simp; omega, z2, z3⟩
  | .dic ks ds, v, u, n, hn, ho, hd, hz, q, r => by
    have q0 := q
    have hn0 := hn
    unfold noRef at hn
    unfold repOk at ho
    rw [Bool.and_eq_true] at ho
    unfold depD at hd
    unfold repT at hz ⊢
    unfold Den at q
    obtain ⟨a, vs, rfl, nb, ea, el, t⟩ := q
    cases r
    obtain ⟨_, hsys, ws, kv, o, es, ep, h1, h2, h3, h4, h5, h6⟩ := dk_rd I.hok ea
    obtain ⟨m, rfl⟩ : ∃ m, n = m + 1 := ⟨n - 1, by omega⟩
    have hp := piled_le_dictText (repKs ks ds)
    obtain ⟨ek, rv⟩ := kv_split el kv
    have hpv := piled_vals ks ds (by rw [el, t.len])
    obtain ⟨as, hR, hP⟩ := reps_ok I ds vs (ws.map (·.2)) m hn ho.2 (by omega) (by omega) t rv
    have na : a ∉ as := fun z => by
      obtain ⟨d', z1, z2, z3⟩ := hP a z
      have e := Den.one hn0 z2 q0 z3
      rw [← e] at z1
      simp at z1
      omega
    have hko : ks.all keyOk = true := by
      have h9 := ho.1
      rw [List.all_eq_true] at h9 ⊢
      intro k hk
      have := h9 k hk
      cases k <;> exact this
    refine ⟨a :: as, ReprK.dict h1 h2.1 h3 hsys na (entries_rep h5 ek hR hko (by omega)), fun b hb => ?_⟩
    rcases List.mem_cons.mp hb with rfl | hb
    · exact ⟨.dic ks ds, Nat.le_refl _, hn0, q0⟩
    · obtain ⟨d', z1, z2, z3⟩ := hP b hb
      exact ⟨d', by simp; omega, z2, z3⟩
theorem reps_ok (I : Inv X pins s1 H s) : ∀ (ds : List Dt) (vs : List V) (us : List Value) (n : Nat), noRefs ds = true → repOks ds = true → depDs ds ≤ n → piled (repTs ds) ≤ sizeLine → Dens L B H ds vs → Vals vs us → ∃ as, ReprAllK X.prog X.w as s.heap n us (repTs ds) ∧ PartsOf L B H (sizeOf ds) as
  | [], vs, us, n, hn, ho, hd, hz, q, r => by
    unfold Dens at q
    subst q
    cases r
    exact ⟨[], .nil, fun b hb => by simp at hb⟩
  | d :: ds, vs, us, n, hn, ho, hd, hz, q, r => by
    unfold noRefs at hn
    unfold repOks at ho
    rw [Bool.and_eq_true] at hn ho
    unfold depDs at hd
    unfold repTs at hz ⊢
    rw [piled_cons] at hz
    obtain ⟨v, w, rfl, p, t⟩ := q.uncons
    cases r with
    | cons r1 r2 =>
      obtain ⟨as, h1, h2⟩ := rep_ok I d v _ n hn.1 ho.1 (by omega) (by omega) p r1
      obtain ⟨bs, h3, h4⟩ := reps_ok I ds w _ n hn.2 ho.2 (by omega) (by omega) t r2
      refine ⟨as ++ bs, .cons (h1.more fun b hb => by simp [hb]) (all_more (fun b hb => by simp [hb]) h3), fun b hb => ?_⟩
      rcases List.mem_append.mp hb with hb | hb
      · obtain ⟨d', z1, z2, z3⟩ := h2 b hb
        exact ⟨d', by simp; omega, z2, z3⟩
      · obtain ⟨d', z1, z2, z3⟩ := h4 b hb
        exact ⟨d', by simp; omega, z2, z3⟩
end
def rRep : List V → Hp → VK → Prop := fun xs H Q => ∃ (L : List Addr) (B : Addr → Prop) (d : Dt) (v : V), xs = [v] ∧ noRef d = true ∧ repOk d = true ∧ depD d ≤ 32 ∧ (repT d).length ≤ sizeLine ∧ Den L B H d v ∧ Q (.str (repT d)) H
theorem call_rep (hg : X.A.guards = some []) (hu : X.A.units + 64 < cLine) : CallR X (.builtin "repr") rRep := by
  intro pins s s1 H xs us Q I r h
  obtain ⟨L, B, d, v, rfl, hn, ho, hd, hz, q, qq⟩ := h
  obtain ⟨u, rfl, ru⟩ := vals1 r
  have fin : ∀ (h' : Heap) (t : Tok) (tk : Nat), (∀ b o, s.heap.get? b = some o → h'.get? b = some o) → EP X pins s1 Q (.str (repT d) t) { s with heap := h', toks := tk } := fun h' t tk hk => ⟨.str _, H, I.kept hk, ⟨t, rfl⟩, qq⟩
  have kk : ∀ b o, s.heap.get? b = some o → s.heap.get? b = some o := fun _ _ e => e
  have cl : ∀ as : List Addr, ∀ b ∈ as, Clear [] b := fun as b _ => Clear.nil b
  cases d with
  | non =>
    rw [den_non q] at ru; cases ru
    exact PySem.P.repr_of_none ⟨.str _, H, I.tok _, ⟨_, rfl⟩, qq⟩
  | bl b =>
    rw [den_bl q] at ru; cases ru
    refine PySem.P.repr_of_bool ⟨.str _, H, I.tok _, ⟨_, rfl⟩, ?_⟩
    unfold repT at qq
    cases b <;> exact qq
  | int i =>
    rw [den_int q] at ru; obtain ⟨t, rfl⟩ := ru
    unfold repOk at ho
    unfold repT at qq
    exact PySem.P.repr_of_int (of_decide_eq_true ho) ⟨.str _, H, I.tok _, ⟨_, rfl⟩, qq⟩
  | str x =>
    rw [den_str q] at ru; obtain ⟨t, rfl⟩ := ru
    unfold repT at qq hz
    exact PySem.P.repr_of_str ⟨.str _, H, I.tok _, ⟨_, rfl⟩, qq⟩ hz
  | ref k => unfold noRef at hn; cases hn
  | lst ds =>
    have q0 := q
    have hn0 := hn
    unfold noRef at hn
    unfold repOk at ho
    unfold depD at hd
    unfold repT at hz fin
    unfold Den at q
    obtain ⟨a, vs, rfl, nb, ea, t⟩ := q
    cases ru
    obtain ⟨its, rv, ⟨o, k, h1, h2, h3, h4⟩, _⟩ := I.list (SqL.of (K := X.K) ea)
    have hp := piled_le_listText (repTs ds)
    obtain ⟨as, hR, hP⟩ := reps_ok I ds vs its 32 hn ho (by omega) (by omega) t rv
    have hTy : s.TypeIs (.ref a) "list" := ⟨o, h1, h2⟩
    refine Calls.call_function_entry PySem.F.kind_repr PySem.F.plain_repr PySem.F.entry_repr (PySem.F.args_repr1 _) ?_
    unfold Builtin.«repr»
    refine wpAny_bind (m := oneArg "repr" _) (wpAny_pure ?_)
    refine wpAny_bind (wpAny_cRoomFor (by show X.A.units + 1 < cLine; omega) ?_)
    refine wpAny_bind (wpAny_specialOf (name := Str.ofString "__repr__") hTy PySem.F.slot_list_repr.lookup ?_)
    cases its with
    | nil =>
      cases rv
      have e0 : ds = [] := List.length_eq_zero_iff.mp t.len
      subst e0
      refine wpAny_bind (m := callSpecialIfBound? (.ref a) (Str.ofString "__repr__")) (wpAny_callSpecialIfBound?_slot (name := Str.ofString "__repr__") hTy PySem.F.slot_list_repr (call_list_repr_empty hTy h1 h4 ?_))
      exact wpAny_bind (wpAny_isInstance (T := "str") (b := true) rfl isSubtype_str_str (wpAny_pure ⟨_, rfl, fin s.heap _ _ kk⟩))
    | cons y l =>
      have na : a ∉ as := fun z => by
        obtain ⟨d', z1, z2, z3⟩ := hP a z
        have e := Den.one hn0 z2 q0 z3
        rw [← e] at z1
        simp at z1
        omega
      refine wpAny_bind (m := callSpecialIfBound? (.ref a) (Str.ofString "__repr__")) (wpAny_callSpecialIfBound?_slot (name := Str.ofString "__repr__") hTy PySem.F.slot_list_repr
        (call_list_reprK h1 h2 h4 na (by rw [repTs_len, t.len, rv.length]; simp) (all_get hR) hg (cl _) (by show X.A.units + 1 + (32 + 1) < cLine; omega) kk (fun h' u tk hk => ?_) hz))
      exact wpAny_bind (wpAny_isInstance (T := "str") (b := true) rfl isSubtype_str_str (wpAny_pure ⟨_, rfl, fin h' _ _ hk⟩))
  | tup ds =>
    have q0 := q
    have hn0 := hn
    unfold noRef at hn
    unfold repOk at ho
    unfold depD at hd
    unfold repT at hz fin
    unfold Den at q
    obtain ⟨a, vs, rfl, ea, t⟩ := q
    cases ru
    obtain ⟨its, rv, ⟨o, h1, h2, k, h4⟩, _⟩ := I.tuple (SqT.of (K := X.K) ea)
    have hp := piled_le_tupleText (repTs ds)
    obtain ⟨as, hR, hP⟩ := reps_ok I ds vs its 32 hn ho (by omega) (by omega) t rv
    have na : a ∉ as := fun z => by
      obtain ⟨d', z1, z2, z3⟩ := hP a z
      have e := Den.one hn0 z2 q0 z3
      rw [← e] at z1
      simp at z1
      omega
    have hTy : s.TypeIs (.ref a) "tuple" := ⟨o, h1, h2⟩
    refine Calls.call_function_entry PySem.F.kind_repr PySem.F.plain_repr PySem.F.entry_repr (PySem.F.args_repr1 _) ?_
    unfold Builtin.«repr»
    refine wpAny_bind (m := oneArg "repr" _) (wpAny_pure ?_)
    refine wpAny_bind (wpAny_cRoomFor (by show X.A.units + 1 < cLine; omega) ?_)
    refine wpAny_bind (wpAny_specialOf (name := Str.ofString "__repr__") hTy PySem.F.slot_tuple_repr.lookup ?_)
    refine wpAny_bind (m := callSpecialIfBound? (.ref a) (Str.ofString "__repr__")) (wpAny_callSpecialIfBound?_slotG (name := Str.ofString "__repr__") hTy PySem.F.slot_tuple_repr
      (call_tuple_reprK h1 h2 h4 na hR hg (cl _) (by show X.A.units + 1 + (32 + 1) < cLine; omega) kk (fun h' u tk hk => ?_) hz))
    exact wpAny_bind (wpAny_isInstance (T := "str") (b := true) rfl isSubtype_str_str (wpAny_pure ⟨_, rfl, fin h' _ _ hk⟩))
  | dic ks ds =>
    have q0 := q
    have hn0 := hn
    unfold noRef at hn
    unfold repOk at ho
    rw [Bool.and_eq_true] at ho
    unfold depD at hd
    unfold repT at hz fin
    unfold Den at q
    obtain ⟨a, vs, rfl, nb, ea, el, t⟩ := q
    cases ru
    obtain ⟨_, hsys, ws, kv, o, es, ep, h1, h2, h3, h4, h5, h6⟩ := dk_rd I.hok ea
    have hp := piled_le_dictText (repKs ks ds)
    obtain ⟨ek, rv⟩ := kv_split el kv
    have hpv := piled_vals ks ds (by rw [el, t.len])
    obtain ⟨as, hR, hP⟩ := reps_ok I ds vs (ws.map (·.2)) 32 hn ho.2 (by omega) (by omega) t rv
    have na : a ∉ as := fun z => by
      obtain ⟨d', z1, z2, z3⟩ := hP a z
      have e := Den.one hn0 z2 q0 z3
      rw [← e] at z1
      simp at z1
      omega
    have hko : ks.all keyOk = true := by
      have h9 := ho.1
      rw [List.all_eq_true] at h9 ⊢
      intro k hk
      have := h9 k hk
      cases k <;> exact this
    have hTy : s.TypeIs (.ref a) "dict" := ⟨o, h1, h2.1⟩
    refine Calls.call_function_entry PySem.F.kind_repr PySem.F.plain_repr PySem.F.entry_repr (PySem.F.args_repr1 _) ?_
    unfold Builtin.«repr»
    refine wpAny_bind (m := oneArg "repr" _) (wpAny_pure ?_)
    refine wpAny_bind (wpAny_cRoomFor (by show X.A.units + 1 < cLine; omega) ?_)
    refine wpAny_bind (wpAny_specialOf (name := Str.ofString "__repr__") hTy PySem.F.slot_dict_repr.lookup ?_)
    refine wpAny_bind (m := callSpecialIfBound? (.ref a) (Str.ofString "__repr__")) (wpAny_callSpecialIfBound?_slotG (name := Str.ofString "__repr__") hTy PySem.F.slot_dict_repr
      (call_dict_reprK h1 h2.1 h3 hsys na (entries_rep h5 ek hR hko (by omega)) hg (cl _) (by show X.A.units + 1 + (32 + 1) < cLine; omega) kk (fun h' u tk hk => ?_) hz))
    exact wpAny_bind (wpAny_isInstance (T := "str") (b := true) rfl isSubtype_str_str (wpAny_pure ⟨_, rfl, fin h' _ _ hk⟩))
def gRep (st : Sto) (xs : List Dt) : Option (Dt × Sto) := match xs with
  | [x] => (deref st 8 x).bind fun d => if noRef d = true ∧ repOk d = true ∧ depD d ≤ 32 ∧ (repT d).length ≤ sizeLine then some (.str (repT d), st) else none
  | _ => none
theorem vo_rep {T : List (Addr × Str)} : VON T rRep gRep := by
  intro Z L st H xs dxs d st' Q w hx h q
  unfold gRep at h
  split at h
  · obtain ⟨v, rfl, p⟩ := dens1 hx
    obtain ⟨c, e1, e2⟩ := bind_some' h
    split at e2
    · rename_i hz
      cases e2
      exact ⟨[], Z, c, v, rfl, hz.1, hz.2.1, hz.2.2.1, hz.2.2.2, deref_ok w e1 (p.mono fun b z => .inl z), q _ H L (.refl w) Den.str⟩
    · cases e2
  · cases h
end
end HB

set_option Elab.async false
set_option linter.all false
set_option maxRecDepth 100000
set_option maxHeartbeats 1000000
/-! HB, part j: sets of texts, sorted. -/
namespace HB
open PySem PySem.Spec PyProof.Rows L2

/-! ### plain lists -/
theorem perm_of_sub {α : Type} [DecidableEq α] : ∀ (l m : List α), l.Nodup → (∀ x ∈ l, x ∈ m) → m.length = l.length → m.Perm l
  | [], m, _, _, hl => by rw [List.length_eq_zero_iff.mp hl]
  | x :: l, m, nd, hs, hl => by
    obtain ⟨nx, nd'⟩ := List.nodup_cons.mp nd
    have hx := hs x List.mem_cons_self
    have p := List.perm_cons_erase hx
    refine p.trans (.cons x (perm_of_sub l (m.erase x) nd' (fun y hy => ?_) ?_))
    · have ne : y ≠ x := fun z => nx (z ▸ hy)
      exact (List.mem_erase_of_ne ne).mpr (hs y (List.mem_cons_of_mem _ hy))
    · rw [List.length_erase_of_mem hx, hl]; simp
def strLe (a b : Str) : Bool := decide (a.cps.toList ≤ b.cps.toList)
def sortS (l : List Str) : List Str := l.mergeSort strLe
def insD (k : Str) (l : List Str) : List Str := if k ∈ l then l else k :: l
def dd : List Str → List Str
  | [] => []
  | x :: xs => insD x (dd xs)
theorem str_ext {a b : Str} (h : a.cps.toList = b.cps.toList) : a = b := by
  cases a; cases b
  simp at h
  rw [h]
theorem strLe_total (a b : Str) : (strLe a b || strLe b a) = true := by
  unfold strLe
  rcases List.le_total a.cps.toList b.cps.toList with h | h <;> simp [h]
theorem strLe_trans (a b c : Str) (h : strLe a b = true) (h' : strLe b c = true) : strLe a c = true := by
  unfold strLe at *
  rw [decide_eq_true_eq] at *
  exact List.le_trans h h'
theorem strLe_anti (a b : Str) (h : strLe a b = true) (h' : strLe b a = true) : a = b := by
  unfold strLe at *
  rw [decide_eq_true_eq] at *
  exact str_ext (List.le_antisymm h h')
theorem sortS_sorted (l : List Str) : (sortS l).Pairwise fun a b => strLe a b = true := List.pairwise_mergeSort strLe_trans strLe_total l
theorem sortS_perm (l : List Str) : (sortS l).Perm l := List.mergeSort_perm l _
theorem sortS_of_perm {l m : List Str} (h : l.Perm m) : sortS l = sortS m :=
  List.Perm.eq_of_pairwise (le := fun a b => strLe a b = true) (fun a b _ _ h1 h2 => strLe_anti a b h1 h2) (sortS_sorted l) (sortS_sorted m) ((sortS_perm l).trans (h.trans (sortS_perm m).symm))
theorem insD_mem {k x : Str} {l : List Str} : x ∈ insD k l ↔ x = k ∨ x ∈ l := by
  unfold insD
  split
  · rename_i h
    exact ⟨.inr, fun z => z.elim (fun e => e ▸ h) id⟩
  · exact List.mem_cons
theorem insD_nodup {k : Str} {l : List Str} (h : l.Nodup) : (insD k l).Nodup := by
  unfold insD
  split
  · exact h
  · rename_i n
    exact List.nodup_cons.mpr ⟨n, h⟩
theorem dd_mem {x : Str} : ∀ {l : List Str}, x ∈ dd l ↔ x ∈ l
  | [] => Iff.rfl
  | y :: l => by
    unfold dd
    rw [insD_mem, dd_mem (l := l), List.mem_cons]
theorem dd_nodup : ∀ l : List Str, (dd l).Nodup
  | [] => List.nodup_nil
  | y :: l => insD_nodup (dd_nodup l)
theorem insD_len (k : Str) (l : List Str) : (insD k l).length ≤ l.length + 1 := by
  unfold insD
  split
  · omega
  · simp
theorem dd_len : ∀ l : List Str, (dd l).length ≤ l.length
  | [] => Nat.le_refl _
  | y :: l => by
    have := dd_len l
    have := insD_len y (dd l)
    simp only [dd, List.length_cons]
    omega

/-! ### the set -/
def SSet (P : Program) (w : World) (h : Heap) (a : Addr) (l : List Str) : Prop := ∃ D : Froz.SD, h.get? a = some (Froz.sObj "set" D) ∧ Froz.TxOk P w D l ∧ l.Nodup ∧ Ris D.2.2.place.toList ∧ (w.params.followText "set-order" = true ∨ D.2.2.led = true)
theorem plain_off_ris {t : SetTable} (h : Ris t.place.toList) : Ris (if t.plain = true then { t with plain := false } else t).place.toList := by
  split <;> exact h
theorem plain_off_led {t : SetTable} : (if t.plain = true then { t with plain := false } else t).led = t.led := by
  split <;> rfl
theorem tail_ris (ep : Nat) (es : Array (Int × Value)) (t : SetTable) (b : Bool) (h : Ris t.place.toList) : Ris (Froz.tailTx ep es t b).2.2.place.toList := by
  unfold Froz.tailTx
  split
  · exact relayAll_ris _ _ _
  · exact h
theorem tail_led (ep : Nat) (es : Array (Int × Value)) (t : SetTable) (b : Bool) : (Froz.tailTx ep es t b).2.2.led = t.led := by
  unfold Froz.tailTx
  split
  · exact relayAll_led _ _ _
  · rfl
theorem addTx_ris (h : Int) (v : Value) (D : Froz.SD) (r : Ris D.2.2.place.toList) : Ris (Froz.addTx h v D).2.2.place.toList := by
  unfold Froz.addTx
  exact tail_ris _ _ _ _ (plain_off_ris (layNew_ris D.2.2 D.1 h v r))
theorem addTx_led (h : Int) (v : Value) (D : Froz.SD) : (Froz.addTx h v D).2.2.led = D.2.2.led := by
  unfold Froz.addTx
  rw [tail_led, plain_off_led, layNew_led]
section
variable {P : Program} {w : World} {A : Around} {E : Value → Shared → Prop} {s : Shared} {a : Addr} {l : List Str}
theorem SSet.at {h h' : Heap} (R : SSet P w h a l) (k : ∀ o, h.get? a = some o → h'.get? a = some o) : SSet P w h' a l := by
  obtain ⟨D, ho, r⟩ := R
  exact ⟨D, k _ ho, r⟩
theorem sset_add {k : Str} {u : Tok} {Q : Bool → Shared → Prop} (R : SSet P w s.heap a l) (room : l.length + 1 < scanBound)
    (hQ : ∀ b h', Heap.SameBut a s.heap h' → SSet P w h' a (insD k l) → Q b { s with heap := h' }) : wpAny (model P w) A (setAddHashed a (.str k u) (hashStr w k)) Q E s := by
  obtain ⟨D, ho, F, nd, r, hl⟩ := R
  by_cases hk : k ∈ l
  · have hi : insD k l = l := by unfold insD; rw [if_pos hk]
    have q := hQ false s.heap (Heap.SameBut.refl a s.heap) ⟨D, ho, by rw [hi]; exact F, by rw [hi]; exact nd, r, hl⟩
    obtain ⟨es, ep, t⟩ := D
    have hd : (Froz.sObj "set" (es, ep, t)).data = .set es ep t := rfl
    have hf : t.fits es.size = true := F.fit
    have hel : ElemsOf (strKind P w) es.toList := F.el
    have hz : es.size = l.length := F.sz
    unfold setAddHashed setAddHashedIn
    refine wpAny_holding (wpAny_bind (wpAny_setState_of ho hd hf ?_))
    dsimp only
    rw [byScan_of (x := Value.str k u) rfl (by omega) hel]
    simp only [↓reduceIte]
    unfold setAddByScan
    refine wpAny_bind ?_
    refine wpAny_bind (wpAny_rule ?_)
    refine wpAny_bind (wpAny_setScan_of (knd := strKind P w) (k := k) (Froz.is_str k u) ho hd hf hel ?_)
    cases hfi : List.findIdx? (fun e => (strKind P w).is k e.2) es.toList with
    | some j =>
      dsimp only
      exact wpAny_pure (wpAny_pure q)
    | none =>
      obtain ⟨e, he, z⟩ := (F.mem k).mp hk
      have c := List.findIdx?_eq_none_iff.mp hfi e he
      rw [z] at c
      cases c
  · have hi : insD k l = k :: l := by unfold insD; rw [if_neg hk]
    refine Froz.add_x ho F hk room ?_
    refine hQ true _ (Heap.SameBut.update _ _ _) ⟨_, Froz.get_upd _ ho rfl, by rw [hi]; exact Froz.add_ok u F, insD_nodup nd, addTx_ris _ _ _ r, hl.imp id fun z => by rw [addTx_led]; exact z⟩
/-- the members' texts -/
def txt (v : Value) : Str := match v with
  | .str k _ => k
  | _ => Str.empty
theorem isStr_of {k : Str} {v : Value} (h : Value.isStrOf k v = true) : ∃ k u, v = Value.str k u := by
  cases v with
  | str y t => exact ⟨y, t, rfl⟩
  | _ => simp [Value.isStrOf] at h
theorem isStr_txt {k : Str} {v : Value} (h : Value.isStrOf k v = true) : txt v = k := by
  cases v with
  | str y t => simp [Value.isStrOf] at h; exact h
  | _ => simp [Value.isStrOf] at h
theorem txOk_mem {D : Froz.SD} (F : Froz.TxOk P w D l) : ∀ v ∈ D.1.toList.map (·.2), ∃ k u, v = Value.str k u := fun v hv => by
  obtain ⟨e, he, rfl⟩ := List.mem_map.mp hv
  obtain ⟨⟨k, hk, _⟩, _⟩ := F.el e he
  exact isStr_of hk
theorem txOk_perm {D : Froz.SD} (F : Froz.TxOk P w D l) (nd : l.Nodup) : ((D.1.toList.map (·.2)).map txt).Perm l := by
  refine perm_of_sub l _ nd (fun x hx => ?_) ?_
  · obtain ⟨e, he, z⟩ := (F.mem x).mp hx
    refine List.mem_map.mpr ⟨e.2, List.mem_map.mpr ⟨e, he, rfl⟩, ?_⟩
    exact isStr_txt z
  · rw [List.length_map, List.length_map, Array.length_toList]; exact F.sz
/-! ### set(xs) -/
def setL (xs : List Str) : List Str := dd xs.reverse
theorem take_rev {xs : List Str} {i : Nat} {x : Str} (h : xs[i]? = some x) : setL (xs.take (i + 1)) = insD x (setL (xs.take i)) := by
  unfold setL
  rw [List.take_add_one, h, List.reverse_append]
  rfl
theorem setL_len (xs : List Str) : (setL xs).length ≤ xs.length := by
  have := dd_len xs.reverse
  rw [List.length_reverse] at this
  exact this
theorem setL_nodup (xs : List Str) : (setL xs).Nodup := dd_nodup _
theorem setL_mem {x : Str} {xs : List Str} : x ∈ setL xs ↔ x ∈ xs := by unfold setL; rw [dd_mem, List.mem_reverse]
theorem sset_new {h : Heap} {a : Addr} (ho : h.get? a = some { cls := .type "set", dict := none, data := .set #[] 0 (.fresh 0 0 (!w.params.followText "set-order")) }) : SSet P w h a [] := by
  refine ⟨(#[], 0, .fresh 0 0 (!w.params.followText "set-order")), ho, Froz.TxOk.nil rfl, List.nodup_nil, List.Pairwise.nil, ?_⟩
  cases w.params.followText "set-order"
  · exact .inr rfl
  · exact .inl rfl
theorem sset_loop {I : Addr} {fp wr : List Addr} {G : Array GenState → Array GenState → Prop} {n : Nat} {Pv : Nat → Value → Prop} {St : Nat → Shared → Prop} {R : Result → Shared → Prop} (W : WalksS P w A.in1 I fp wr G n Pv St) (C : Addr) (hC : C ∉ fp) (xs : List Str) (hz : xs.length = n) (room : n + 1 < scanBound)
    (hv : ∀ i v, Pv i v → ∃ x u, xs[i]? = some x ∧ v = .str x u) : ∀ (k i : Nat) (s : Shared), n - i = k → i ≤ n → St i s → SSet P w s.heap C (setL (xs.take i)) → (∀ s', Moved (C :: wr) G s s' → SSet P w s'.heap C (setL xs) → R (.ok (.ret .none)) s') →
      codeAny (model P w) A (.builtin "set.update.loop" ⟨[.ref C, .ref I], []⟩) R s := by
  have nw : C ∉ wr := fun h => hC (W.sub _ h)
  have sub : ∀ b ∈ wr, b ∈ C :: wr := fun b => List.mem_cons_of_mem _
  intro k
  induction k with
  | zero =>
    intro i s hk hi st R0 fin
    have e : i = n := by omega
    subst e
    rw [List.take_of_length_le (by omega)] at R0
    refine codeAny_builtin PyProof.Rows.F.entry_set_update_loop ?_
    rw [Around.under_plainId PyProof.Rows.F.plain_set_update_loop _]
    refine wpAny_bind (m := pyNext (.ref I)) (W.done s _ _ st fun s' mv => ?_)
    exact wpAny_pure (fin s' (mv.mono sub) (R0.at fun o eo => mv.heap C _ nw eo))
  | succ k ih =>
    intro i s hk hi st R0 fin
    have lt : i < n := by omega
    refine codeAny_builtin PyProof.Rows.F.entry_set_update_loop ?_
    rw [Around.under_plainId PyProof.Rows.F.plain_set_update_loop _]
    refine wpAny_bind (m := pyNext (.ref I)) (W.item i s _ _ lt st fun v s1 pv st1 mv => ?_)
    obtain ⟨x, u, hx, rfl⟩ := hv i v pv
    have R1 : SSet P w s1.heap C (setL (xs.take i)) := R0.at fun o eo => mv.heap C _ nw eo
    refine wpAny_bind (m := holding [Value.str x u] (setAdd C (.str x u))) (wpAny_holding ?_)
    unfold setAdd
    refine wpAny_holding (wpAny_bind ((strKind P w).pyHash (k := x) (Froz.is_str x u) ?_))
    have hroom : (setL (xs.take i)).length + 1 < scanBound := by
      have := setL_len (xs.take i)
      rw [List.length_take] at this
      omega
    refine sset_add (s := { s1 with toks := s1.toks + 1 }) R1 hroom fun b h' sb R2 => ?_
    rw [← take_rev hx] at R2
    refine wpAny_pure ⟨plainId_quiet PyProof.Rows.F.plain_set_update_loop _, ih (i + 1) _ (by omega) lt (W.frame _ s1 _ _ st1 (Nat.le_succ _) fun c hc o eo => ?_) R2 fun s3 mv3 R3 => ?_⟩
    · rw [sb.2 c fun z : c = C => hC (z ▸ hc)]; exact eo
    · refine fin s3 (Moved.trans W.gtrans ((mv.mono sub).then_heap (Nat.le_succ _) fun c o nc eo => ?_) mv3) R3
      rw [sb.2 c fun z : c = C => nc (z ▸ List.mem_cons_self)]; exact eo
theorem strs_get : ∀ {us : List Value} {xs : List Str}, StrsAre us xs → ∀ (i : Nat) (v : Value), us[i]? = some v → ∃ x u, xs[i]? = some x ∧ v = .str x u
  | _, _, .nil, i, v, h => by simp at h
  | _, _, .cons x t r, 0, v, h => by simp at h; exact ⟨x, t, rfl, h.symm⟩
  | _, _, .cons x t r, i + 1, v, h => by
    obtain ⟨y, u, h1, h2⟩ := strs_get r i v (by simpa using h)
    exact ⟨y, u, by simpa using h1, h2⟩
/-- the new set's object -/
abbrev nS (w : World) : Obj := { cls := .type "set", dict := none, data := .set #[] 0 (.fresh 0 0 (!w.params.followText "set-order")) }
set_option maxHeartbeats 3200000 in
theorem call_sset {p : Addr} {its : Array Value} {xs : List Str} {Q : Value → Shared → Prop} (hh : A.handled = none) (hp : s.heap.IsList p its) (hi : StrsAre its.toList xs) (hb : xs.length + 1 < scanBound)
    (h : ∀ (h' : Heap) (tk : Nat), SSet P w h' s.heap.objs.size (setL xs) → (∀ b o, s.heap.get? b = some o → h'.get? b = some o) → Q (.ref s.heap.objs.size) { s with heap := h', toks := tk }) : wpAny (model P w) A (call (.type "set") [.ref p]) Q E s := by
  have hz : xs.length = its.size := by rw [← StrsAre.len_eq hi, Array.length_toList]
  obtain ⟨c, tl, hmro⟩ := PySem.F.called_set.mro
  have g1 := PySem.F.called_set.made
  have g2 := PySem.F.called_set.sub
  refine wpAny_call (codeAny_of_tree ?_)
  show wpAny _ _ (callAny (.type "set") _) _ _ _
  refine wpAny_pure ⟨Code.quiet_builtin _ (by decide +kernel), codeAny_builtin PySem.F.entry_type_call ?_⟩
  rw [Around.under_plain (weight_type_call_type "set" [.ref p] []) rfl]
  have g3 := PySem.F.called_set.notType
  have g4 := PySem.F.called_set.canCreate
  have g5 := PySem.F.typeCall_set_1 (.ref p)
  repeat (any_goals (first | assumption | wp_step))
  refine codeAny_mono (L2.code_set_led1 (.ref p) (E := E) (Q₁ := fun obj s₁ => obj = .ref s.heap.objs.size ∧ s₁ = { s with heap := s.heap.push (nS w) }) ⟨rfl, rfl⟩) fun r s₁ hr => ?_
  match r, hr with
  | .error e, hr => exact hr
  | .ok .next, hr => exact hr.elim
  | .ok .brk, hr => exact hr.elim
  | .ok .cont, hr => exact hr.elim
  | .ok (.ret obj), hr =>
    obtain ⟨rfl, rfl⟩ := hr
    have hS : (s.heap.push (nS w)).get? s.heap.objs.size = some (nS w) := Heap.get?_push_size _ rfl
    have hT : Shared.TypeIs { s with heap := s.heap.push (nS w) } (.ref s.heap.objs.size) "set" := ⟨_, hS, rfl⟩
    have g6 := PySem.F.called_set.init.lookup
    have g7 := PySem.F.called_set.init.bind (.ref s.heap.objs.size)
    repeat (any_goals (first | assumption | wp_step))
    refine codeAny_mono (codeAny_call_builtin (R := wants (fun r s₂ => r = .none ∧ ∃ h' tk, s₂ = { s with heap := h', toks := tk } ∧ SSet P w h' s.heap.objs.size (setL xs) ∧ (∀ b o, s.heap.get? b = some o → h'.get? b = some o)) E) PySem.F.called_set.init.plain PySem.F.entry_set_init (check_set_init_1 hT ?_)) fun r₂ s₂ hr₂ => ?_
    · obtain ⟨o, ho, hc, nl, hd⟩ := hp
      obtain ⟨ocls, odict, odata, oslots⟩ := o
      simp only at hc hd
      subst hc; subst hd
      have ho1 : (s.heap.push (nS w)).get? p = some { cls := .type "list", dict := odict, data := .seq its nl, slots := oslots } := Heap.get?_push_of_some _ ho
      have g8 := PySem.F.sub_list_set
      have g9 := PySem.F.sub_list_frozenset
      have g10 : (Value.type "list" == Value.type "dict") = false := by decide
      have hl1 : (s.heap.push (nS w)).IsList p its := ⟨_, ho1, rfl, nl, rfl⟩
      unfold Builtin.«set.__init__» noKeywords Builtin.Frozenset.updateFrom
      generalize hPI : pyIter = PI
      wp_walk
      subst hPI
      refine wpAny_pyIter_list hl1 ?_
      refine wpAny_bind (wpAny_runValue ?_)
      have lp : p < s.heap.objs.size := Heap.lt_size ho
      have hh3 : A.in1.in1.in1.handled = none := by simp [hh]
      have z1 : (s.heap.push (nS w)).objs.size = s.heap.objs.size + 1 := Heap.size_push ..
      have n1 : p ≠ (s.heap.push (nS w)).objs.size := by rw [z1]; exact Nat.ne_of_lt (Nat.lt_succ_of_lt lp)
      have n2 : s.heap.objs.size ∉ [(s.heap.push (nS w)).objs.size, p] := by
        rw [z1]
        simp only [List.mem_cons, List.not_mem_nil, or_false, not_or]
        exact ⟨Nat.ne_of_lt (Nat.lt_succ_self _), Nat.ne_of_gt lp⟩
      refine sset_loop ((Walks.list hh3 _ p n1 its).toS) s.heap.objs.size n2 xs hz (by omega) (fun i v e => strs_get hi i v (by rw [Array.getElem?_toList]; exact e)) (its.size - 0) 0 _ (by omega) (Nat.zero_le _)
        ⟨⟨_, Heap.get?_push_size _ rfl, rfl, rfl⟩, (hl1.push _)⟩ (sset_new (Heap.get?_push_of_some _ hS)) fun s' mv R' => ?_
      obtain ⟨h', g2, d', tk', os'⟩ := s'
      have eg : g2 = s.gens := mv.gens
      have ed : d' = s.drawn := mv.drawn
      have eo : os' = s.os := mv.os
      subst eg; subst ed; subst eo
      refine wpAny_pure ?_
      show wpAny _ _ (ret Value.none) _ _ _
      refine wpAny_pure ⟨rfl, h', tk', rfl, R', fun b o e => ?_⟩
      have lb : b < s.heap.objs.size := Heap.lt_size e
      refine mv.heap b o ?_ (Heap.get?_push_of_some _ (Heap.get?_push_of_some _ e))
      simp only [List.mem_cons, List.not_mem_nil, or_false, not_or]
      rw [z1]
      exact ⟨Nat.ne_of_lt lb, Nat.ne_of_lt (Nat.lt_succ_of_lt lb)⟩
    · match r₂, hr₂ with
      | .error e, hr₂ => exact hr₂
      | .ok .next, hr₂ => exact hr₂.elim
      | .ok .brk, hr₂ => exact hr₂.elim
      | .ok .cont, hr₂ => exact hr₂.elim
      | .ok (.ret r), hr₂ =>
        obtain ⟨rfl, h', tk, rfl, R', k'⟩ := hr₂
        repeat (any_goals (first | assumption | wp_step))
        exact h _ _ R' k'
end
end HB

set_option Elab.async false
set_option linter.all false
set_option maxRecDepth 100000
set_option maxHeartbeats 1000000
/-! HB, part k: sorted(set(xs)), sorted(xs), sorted(d, key=lambda state: (len(state), state)). -/
namespace HB
open PySem PySem.Spec PyProof.Rows L2

/-! ### the lambda, called -/
abbrev lamP (p : Pos) : Arguments := { posonlyargs := [], args := [{ arg := "state", annotation := none, pos := p }], vararg := none, kwonlyargs := [], kw_defaults := [], kwarg := none, defaults := [] }
abbrev lamB (p1 p2 p3 p4 p5 : Pos) : Expr := .Tuple [.Call (.Name "len" p1) [.Name "state" p2] [] p3, .Name "state" p4] 0 p5
abbrev lamSc : Scope := { kind := .function, names := [("state", .local), ("len", .globalImplicit)], isGenerator := false, isCoroutine := false, more := [] }
section
variable {P : Program} {w : World} {A : Around} {s : Shared}
theorem lam_key {f c' : Addr} {q : Str} {pm ctv : Value} {x : Str} {u : Tok} {mg mb : Str → Option Value} {p0 p1 p2 p3 p4 p5 : Pos} (of : s.heap.get? f = some (PySem.W.kla_obj "<lambda>" q (lamP p0) (lamB p1 p2 p3 p4 p5) lamSc [] pm c' ctv)) (hcd : s.heap.CodeRec (.ref c') q)
    (hroom : A.depth < recursionLimit) (lim : s.heap.NoLimit) (hg : s.heap.Ns mainGlobals mg) (hm : mg "len" = none) (hb : s.heap.Ns builtinsNs mb) (hv : mb "len" = some (.builtin "len")) (hz : x.length ≤ sizeLine) :
    wpAny (model P w) A (call (.ref f) [.str x u]) (PySem.W.KeyPure (.tuple [.int x.length, .str x]) s) (fun _ _ => False) s := by
  refine wpAny_call (PySem.W.kla_callFunE hroom of rfl rfl rfl rfl hcd ?_)
  have hbind : bindArgs (PySem.W.kla_fn "<lambda>" q (lamP p0) (lamB p1 p2 p3 p4 p5) lamSc [] pm (.ref c') ctv) ⟨[.str x u], []⟩ = pure [(("state" : Str), Value.str x u)] := rfl
  rw [hbind]
  refine wpAny_pure (wpAny_newFunctionEnv (show ∀ x ∈ lamSc.names, x.2 ≠ .cell by decide) (fun y hy => by rw [List.mem_singleton.mp hy]; rfl) (fun h₁ hns hsb => ⟨lim.fresh _ hsb, ?_⟩) rfl)
  refine PySem.W.kla_codeExpr ?_
  have kp : ∀ b o, s.heap.get? b = some o → h₁.get? b = some o := fun b o e => hsb.extBut b o (Nat.ne_of_lt (Heap.lt_size e)) (Heap.get?_push_of_some _ e)
  have line := line63
  refine wpAny_Tuple_spliced (args_cons (Call_ (Calls.Name_function_global rfl rfl (Calls.loadGlobal_builtin (hg.keeps kp) hm (hb.keeps kp) hv ?_))))
  refine callWith_builtin1 (args_cons (wpAny_Name (wpAny_loadName_local rfl rfl hns rfl ?_) (by decide)))
  refine args_nil (len_str (by omega) ?_)
  refine args_cons (wpAny_Name (wpAny_loadName_local rfl rfl hns rfl ?_) (by decide))
  refine args_nil ⟨(show 2 ≤ sizeLine by decide), ?_⟩
  refine ⟨_, _, rfl, fun b o e => Heap.get?_push_of_some _ (kp b o e), ?_⟩
  exact .tuple (Heap.get?_push_size _ rfl) rfl rfl (.cons (.int _ _) (.cons (.str _ _) .nil))
end
/-! ### the lambda, made -/
section
variable {X : Cx} {pins : List (Addr × Obj)} {s1 : L2.St} {H : Hp} {s : Shared}
open LamX in
/-- the lambda is made; all but the tables stays, nothing is forgotten -/
theorem lam_new {T : List (Addr × Str)} {c R : Addr} {params : Arguments} {body : Expr} {pos : Pos} {E : Value → Shared → Prop} {Q : Value → Shared → Prop} (I : Inv X pins s1 H s) (TB : TabB X.base X.mg c R) (hc : X.env.code = .ref c)
    (hm : (R, X.env.qual ++ "<lambda>") ∈ T) (hu : ∀ p ∈ T, p.1 = R → p.2 = X.env.qual ++ "<lambda>") (hT : Tabs T H) (hdef : defaultsOf params X.env = ([], []))
    (h : ∀ (f c' : Addr) (pm ctv : Value) (H1 : Hp) (s' : Shared), Inv X pins s1 H1 s' → ExtN H H1 → (∀ b, H b ≠ none → H1 b ≠ none) → Tabs T H1 →
      s'.heap.get? f = some (PySem.W.kla_obj "<lambda>" (X.env.qual ++ "<lambda>") params body lamSc [] pm c' ctv) → s'.heap.CodeRec (.ref c') (X.env.qual ++ "<lambda>") → Q (.ref f) s') :
    wpAny (model X.prog X.w) X.A (eval (.Lambda params body lamSc pos) X.env) Q E s := by
  obtain ⟨ps, hP, ok, ha⟩ := hT _ hm
  refine PySem.W.kla_eval hdef ?_
  have hR : s.heap.get? R = some { cls := .none, data := .fields ps } := I.hok R _ hP
  have bR : s.heap.BuiltinsAt X.mg R := TB.bm.keeps I.bk
  have hclo : closureFor lamSc X.env = pure ([] : List (Str × Addr)) := rfl
  cases hca : codeAmong pos ps.toList with
  | some cv =>
    obtain ⟨c', rfl, hco⟩ := ha pos cv hca
    refine PySem.W.kla_makeFunctionHit (mg := X.mg) (c := c) (P := R) (ps := ps) hclo I.ok.glob (I.mod.glob.keeps I.bk) hc (TB.code.keeps I.bk) hR ok hca bR fun ctv h' tk hx hsz => ?_
    obtain ⟨⟨oc, vs, t, a1, a2, a3⟩, _, _⟩ := I.hok c' _ hco
    exact h _ c' _ ctv H _ (I.kept fun b o e => Heap.get?_push_of_some _ (hx b o e)) (ExtN.refl H) (fun _ z => z) hT (Heap.get?_push_size _ rfl) ⟨c', oc, vs, t, rfl, Heap.get?_push_of_some _ (hx _ _ a1), a2, a3⟩
  | none =>
    refine PySem.W.kla_makeFunction (mg := X.mg) (c := c) (P := R) (ps := ps) hclo I.ok.glob (I.mod.glob.keeps I.bk) hc (TB.code.keeps I.bk) hR ok hca TB.gP bR fun c' ctv h' tk hx hge hlt hrec htb => ?_
    obtain ⟨c2, oc, vs, t, e2, a1, a2, a3⟩ := hrec
    cases e2
    have nC : H c' = none := I.hok.fresh hge
    have I1 := inv_table (t' := tk) (more := #[rawInt pos.line, rawInt pos.col, .ref c']) (h' := h'.push (PySem.W.kla_obj "<lambda>" (X.env.qual ++ "<lambda>") params body lamSc [] ((X.mg "__name__").getD .none) c' ctv)) I hP
      (fun b o hb e => Heap.get?_push_of_some _ (hx b o hb e)) (Heap.get?_push_of_some _ htb) hge ⟨oc, vs, t, Heap.get?_push_of_some _ a1, a2, a3⟩
    have nR : R ≠ c' := ne_of_none hP nC
    have ex : ExtN H (upd (upd H R (.tbl (ps ++ #[rawInt pos.line, rawInt pos.col, .ref c']))) c' (CodeO c' (X.env.qual ++ "<lambda>"))) := fun b o e n => by
      have nb : b ≠ R := fun z => by rw [z, hP] at e; exact n ps (Option.some.inj e).symm
      rw [upd_ne (ne_of_none e nC), upd_ne nb]; exact e
    have app : (ps ++ #[rawInt pos.line, rawInt pos.col, .ref c']).toList = ps.toList ++ [rawInt pos.line, rawInt pos.col, .ref c'] := by simp
    refine h _ c' _ ctv _ _ I1 ex (fun b nb => ?_) (fun p hp => ?_) (Heap.get?_push_size _ rfl) ⟨c', oc, vs, t, rfl, Heap.get?_push_of_some _ a1, a2, a3⟩
    · by_cases z : b = c'
      · rw [z, upd_same]; simp
      · rw [upd_ne z]
        by_cases y : b = R
        · rw [y, upd_same]; simp
        · rw [upd_ne y]; exact nb
    · by_cases hb : p.1 = R
      · rw [hu p hp hb, hb]
        refine ⟨_, by rw [upd_ne nR, upd_same], by rw [app]; exact PySem.TriplesOk_snoc _ _ _ _ ok, fun p' cv hcv => ?_⟩
        rw [app] at hcv
        rcases among_app _ ok hcv with z | z
        · obtain ⟨c0, z1, z2⟩ := ha p' cv z
          exact ⟨c0, z1, ex _ _ z2 codeO_ne⟩
        · exact ⟨c', z, upd_same⟩
      · obtain ⟨qs, b1, b2, b3⟩ := hT p hp
        refine ⟨qs, by rw [upd_ne (ne_of_none b1 nC), upd_ne hb]; exact b1, b2, fun p' cv hcv => ?_⟩
        obtain ⟨c0, z1, z2⟩ := b3 p' cv hcv
        exact ⟨c0, z1, ex _ _ z2 codeO_ne⟩
end
end HB

set_option Elab.async false
set_option linter.all false
set_option maxRecDepth 100000
set_option maxHeartbeats 1000000
/-! HB, part l: sorted as rules. -/
namespace HB
open PySem PySem.Spec PyProof.Rows L2

def isS1 (v : Value) (x : Str) : Prop := ∃ u, v = Value.str x u
theorem each_strs : ∀ {vs : List Value} {xs : List Str}, StrsAre vs xs → PySem.W.EachIs isS1 vs xs
  | _, _, .nil => .nil
  | _, _, .cons x t r => .cons ⟨t, rfl⟩ (each_strs r)
theorem strs_each : ∀ {vs : List Value} {xs : List Str}, PySem.W.EachIs isS1 vs xs → StrsAre vs xs
  | _, _, .nil => .nil
  | _, _, .cons ⟨t, e⟩ r => by subst e; exact .cons _ t (strs_each r)
theorem vals_strs : ∀ {vs : List Value} {xs : List Str}, StrsAre vs xs → Vals (xs.map V.str) vs
  | _, _, .nil => .nil
  | _, _, .cons x t r => .cons ⟨t, rfl⟩ (vals_strs r)
theorem strs_reads {h : Heap} {a : Addr} : ∀ {vs : List Value} {xs : List Str}, StrsAre vs xs → PySem.W.EachIs (fun v b => ∃ as, Reads h v (.str b) as ∧ a ∉ as) vs xs
  | _, _, .nil => .nil
  | _, _, .cons x t r => .cons ⟨[], .str _ _, by simp⟩ (strs_reads r)
theorem all_strs : ∀ {vs : List Value}, (∀ v ∈ vs, ∃ k u, v = Value.str k u) → StrsAre vs (vs.map txt)
  | [], _ => .nil
  | v :: vs, h => by
    obtain ⟨k, u, rfl⟩ := h v List.mem_cons_self
    exact .cons k u (all_strs fun x hx => h x (List.mem_cons_of_mem _ hx))
section
variable {P : Program} {w : World} {A : Around} {E : Value → Shared → Prop} {s : Shared}
theorem sort_strs {a : Addr} {vs : List Value} {xs : List Str} {n : Nat} {Q : Value → Shared → Prop} (ho : s.heap.get? a = some (seqObj "list" vs.toArray n)) (hS : StrsAre vs xs) (hL : xs.length ≤ sizeLine) (hu : A.units + 2 < cLine)
    (h : ∀ out c h', StrsAre out (sortS xs) → h'.get? a = some (seqObj "list" (List.toArray out) c) → (∀ b o, b ≠ a → s.heap.get? b = some o → h'.get? b = some o) → Q .none { s with heap := h' }) : wpAny (model P w) A (call (.builtin "list.sort") [.ref a]) Q E s := by
  refine PySem.W.list_sort_data (enc := PyData.str) (R := isS1) ho (each_strs hS) (strs_reads hS) (PySem.W.AllAlike.of fun _ _ => by simp [PySem.W.alike]) (PySem.W.Sortable.others fun b => ⟨by simp, fun xs => by simp⟩) hL (fun b _ => ?_) fun out hl he => ?_
  · have : (PyData.str b).depth = 0 := by simp [PyData.depth]
    omega
  · have e : PySem.W.dataLe false PyData.str = strLe := PySem.W.dataLe_str (fun x : Str => x)
    rw [e] at he
    obtain ⟨c, hc⟩ := sortedHeap_at (vs := vs) (out := out.toArray) ho
    exact h out c _ (strs_each he) hc fun b o hb e => (sortedHeap_old hb (Heap.lt_size e)).trans e
end
section
variable {X : Cx}
/-- a set of texts, tracked -/
def SSO (P : Program) (w : World) (a : Addr) (l : List Str) : HO := .ext fun h => SSet P w h a l
theorem sso_new {w : World} {P : Program} {H : Hp} {h : Heap} {a : Addr} {l : List Str} (R : SSet P w h a l) : ObjOk P w H h a (SSO P w a l) := by
  have ⟨D, ho, _⟩ := R
  exact ⟨R, ⟨_, ho⟩, fun h1 h2 p k => SSet.at p k⟩
def rSetS (X : Cx) : List V → Hp → VK → Prop := fun xs H Q => ∃ (a : Addr) (ys : List Str), xs = [.ref a] ∧ SqL X.K H a (ys.map V.str) ∧ ys.length + 1 < scanBound ∧ ∀ p, H p = none → Q (.ref p) (upd H p (SSO X.prog X.w p (setL ys)))
theorem cr_setS (hc : X.calm = true) : CallR X (.type "set") (rSetS X) := by
  intro pins s s1 H xs us Q I r h
  obtain ⟨a, ys, rfl, hq, hb, q⟩ := h
  rw [Vals.ref1 r]
  obtain ⟨its, rv, pl, hz⟩ := I.list hq
  refine call_sset (I.ok.hd hc) pl.isList (by simpa using strsAre_of rv) hb fun h' tk R k => ?_
  exact ⟨.ref s.heap.objs.size, upd H s.heap.objs.size (SSO X.prog X.w s.heap.objs.size (setL ys)), I.laid (t' := tk) k (Nat.le_refl _) (sso_new R), rfl, q _ (I.hok.fresh (Nat.le_refl _))⟩
def rSortSS (X : Cx) : List V → Hp → VK → Prop := fun xs H Q => ∃ (a : Addr) (l : List Str), xs = [.ref a] ∧ H a = some (SSO X.prog X.w a l) ∧ l.length < scanBound ∧ ∀ p, H p = none → Q (.ref p) (upd H p (.lst ((sortS l).map V.str)))
theorem sortS_len (l : List Str) : (sortS l).length = l.length := (sortS_perm l).length_eq
theorem cr_sortSS (hc : X.calm = true) (hu : X.A.units + 64 < cLine) : CallR X (.builtin "sorted") (rSortSS X) := by
  intro pins s s1 H xs us Q I r h
  obtain ⟨a, l, rfl, ha, hb, q⟩ := h
  rw [Vals.ref1 r]
  obtain ⟨D, ho, F, nd, ris, hl⟩ := (I.hok a _ ha).1
  refine Calls.call_function_entry kind_sorted plain_sorted entry_sorted (args_sorted1 _) ?_
  unfold Builtin.«sorted»
  refine wpAny_bind (m := checkCount "sorted" 1 1 _) (wpAny_pure ?_)
  have hz : D.1.size = l.length := F.sz
  refine wpAny_bind (collect_set (A := X.A.in1) (es := D.1) (ep := D.2.1) (t := D.2.2) (I.ok.hd hc) ⟨_, ho, rfl, rfl⟩ F.fit (by omega) ris hl fun s2 vs k2 z2 g2 o2 pm => ?_)
  have hS : StrsAre vs (vs.map txt) := all_strs fun v hv => txOk_mem F v (pm.mem_iff.mp hv)
  have pk : (vs.map txt).Perm l := (pm.map txt).trans (txOk_perm F nd)
  have hlen : (vs.map txt).length = l.length := pk.length_eq
  have hsz : l.length ≤ sizeLine := by unfold scanBound at hb; rw [sizeLine_eq]; omega
  refine wpAny_bind (wpAny_newList ?_ (by rw [List.length_map] at hlen; omega))
  have hoL : (s2.heap.push (seqObj "list" vs.toArray 0)).get? s2.heap.objs.size = some (seqObj "list" vs.toArray 0) := Heap.get?_push_size _ rfl
  refine wpAny_bind (wpAny_holding (sort_strs (s := { s2 with heap := s2.heap.push (seqObj "list" vs.toArray 0) }) hoL hS (by omega) (by show X.A.units + 1 + 2 < cLine; omega) fun out c h' ho2 hc2 kp => ?_))
  rw [sortS_of_perm pk] at ho2
  refine wpAny_pure ⟨_, rfl, ?_⟩
  have hn : H s2.heap.objs.size = none := I.hok.fresh z2
  have k3 : ∀ b o, s.heap.get? b = some o → h'.get? b = some o := fun b o e => by
    have := k2 b o e
    exact kp b o (Nat.ne_of_lt (Heap.lt_size this)) (Heap.get?_push_of_some _ this)
  have J : Inv X pins s1 (upd H s2.heap.objs.size (.lst ((sortS l).map V.str))) { s with heap := h', gens := s2.gens, drawn := s2.drawn, toks := s2.toks } :=
    I.call (ch := []) (Un.laid k3 z2 hn) (I.hok.laid k3 z2 ⟨by rw [List.length_map, sortS_len]; exact hsz, out, c, vals_strs ho2, hc2⟩) (by rw [g2]; exact I.bare) (fun _ z => nomatch z)
  have e : { s2 with heap := h' } = { s with heap := h', gens := s2.gens, drawn := s2.drawn, toks := s2.toks } := by
    cases s2; cases s; cases o2; rfl
  show EP X pins s1 Q _ { s2 with heap := h' }
  rw [e]
  exact ⟨.ref _, _, J, rfl, q _ hn⟩
/-- sorted(xs), a list of texts -/
def rSortL (K : PySem.W.Frag) : List V → Hp → VK → Prop := fun xs H Q => ∃ (a : Addr) (ys : List Str), xs = [.ref a] ∧ SqL K H a (ys.map V.str) ∧ ∀ p, H p = none → Q (.ref p) (upd H p (.lst ((sortS ys).map V.str)))
theorem cr_sortL (hu : X.A.units + 64 < cLine) : CallR X (.builtin "sorted") (rSortL X.K) := by
  intro pins s s1 H xs us Q I r h
  obtain ⟨a, ys, rfl, hq, q⟩ := h
  rw [Vals.ref1 r]
  obtain ⟨its, rv, pl, hz⟩ := I.list hq
  have hS := strsAre_of rv
  have hl : its.length = ys.length := StrsAre.len_eq hS
  have hL : ys.length ≤ sizeLine := by
    rw [List.length_map] at hz
    exact hz
  refine PySem.W.sorted_data (enc := PyData.str) (R := isS1) pl.isList (each_strs hS) ((strs_reads (a := 0) hS).mono fun _ _ ⟨as, x, _⟩ => ⟨as, x⟩) (PySem.W.AllAlike.of fun _ _ => by simp [PySem.W.alike]) (PySem.W.Sortable.others fun b => ⟨by simp, fun xs => by simp⟩) hL (fun b _ => ?_) fun out ho he => ?_
  · have : (PyData.str b).depth = 0 := by simp [PyData.depth]
    omega
  · have e : PySem.W.dataLe false PyData.str = strLe := PySem.W.dataLe_str (fun x : Str => x)
    rw [e] at he
    obtain ⟨c, hc⟩ := sortedAll_at s.heap its out.toArray
    have hn : H (s.heap.objs.size + 1) = none := I.hok.fresh (Nat.le_succ _)
    exact ⟨.ref _, upd H (s.heap.objs.size + 1) (.lst ((sortS ys).map V.str)), I.laid (t' := s.toks) (fun _ _ => sortedAll_old) (Nat.le_succ _) ⟨by rw [List.length_map, sortS_len]; exact hL, out, c, vals_strs (strs_each he), hc⟩, rfl, q _ hn⟩
end
end HB

set_option Elab.async false
set_option linter.all false
set_option maxRecDepth 100000
set_option maxHeartbeats 1000000
/-! HB, part m: sorted(d, key=lambda state: (len(state), state)); sorted as plain functions. -/
namespace HB
open PySem PySem.Spec PyProof.Rows L2

def keyLe (a b : Str) : Bool := decide (a.length < b.length) || (decide (a.length = b.length) && strLe a b)
def sortK (l : List Str) : List Str := l.mergeSort keyLe
def keyT2 (x : Str) : PyData := .tuple [.int x.length, .str x]
theorem dataLe_key : PySem.W.dataLe false keyT2 = keyLe := by
  funext a b
  show (!PySem.W.dataLt (keyT2 b) (keyT2 a)) = _
  unfold keyT2
  rw [PySem.W.dataLt_pair (by simp [PySem.W.alike]) (by simp [PySem.W.alike]), PySem.W.dataLt_int, PySem.W.dataLt_str]
  simp only [PyData.eqv, beq_iff_eq]
  unfold keyLe strLe
  by_cases h1 : (b.length : Int) = (a.length : Int)
  · have h1' : a.length = b.length := by omega
    by_cases h2 : b = a
    · subst h2
      simp
    · rw [if_pos h1, if_neg h2, PySem.W.not_lt_str]
      simp [h1']
  · rw [if_neg h1]
    have h1' : ¬ a.length = b.length := by omega
    by_cases h2 : a.length < b.length
    · have : ¬ (b.length : Int) < (a.length : Int) := by omega
      simp [h2, this]
    · have : (b.length : Int) < (a.length : Int) := by omega
      simp [h1', h2, this]
theorem sortK_len (l : List Str) : (sortK l).length = l.length := (List.mergeSort_perm l _).length_eq
theorem strs_at2 : ∀ {vs : List Value} {xs : List Str}, vs.length = xs.length → (∀ (j : Nat) v, vs[j]? = some v → ∃ x u, xs[j]? = some x ∧ v = .str x u) → StrsAre vs xs
  | [], [], _, _ => .nil
  | v :: vs, x :: xs, hl, h => by
    obtain ⟨y, u, e1, e2⟩ := h 0 v rfl
    simp at e1
    subst e1; subst e2
    exact .cons _ u (strs_at2 (by simpa using hl) fun j v e => by simpa using h (j + 1) v (by simpa using e))
  | [], _ :: _, hl, _ => by simp at hl
  | _ :: _, [], hl, _ => by simp at hl
def tSortK (T : List (Addr × Str)) (ta : TE) : TE := fun s1 H Q => ta s1 H fun x H1 => LamX.Tabs T H1 ∧ ∀ H2, LamX.ExtN H1 H2 → (∀ b, H1 b ≠ none → H2 b ≠ none) → LamX.Tabs T H2 →
  ∃ (a : Addr) (kvs : List (Key × V)) (ks : List Str), x = .ref a ∧ Rd H2 a (.dK kvs) ∧ kvs.map (·.1) = ks.map Sum.inr ∧ (∀ k ∈ ks, k.length ≤ sizeLine) ∧ ∀ p, H2 p = none → Q (.ref p) (upd H2 p (.lst ((sortK ks).map V.str)))
section
variable {X : Cx} {a : Expr} {ta : TE}
theorem pe_sortK {T : List (Addr × Str)} {k : Nat} {c R : Addr} {p0 p1 p2 p3 p4 p5 p6 p7 p8 p9 : Pos} (TB : LamX.TabB X.base X.mg c R) (hcode : X.env.code = .ref c) (hmT : (R, X.env.qual ++ "<lambda>") ∈ T) (huT : ∀ p ∈ T, p.1 = R → p.2 = X.env.qual ++ "<lambda>")
    (hr : Room (k + 2) X.A) (hg : Gl X "sorted") (hm : X.mg "sorted" = none) (hml : X.mg "len" = none) (ha : PE X a ta) (hs : starEach [a] X.env = (false, eval a X.env) :: starEach [] X.env := by rfl) :
    PE X (.Call (.Name "sorted" p6) [a] [{ arg := some "key", value := .Lambda (lamP p0) (lamB p1 p2 p3 p4 p5) lamSc p7, pos := p8 }] p9) (tSortK T ta) := by
  refine ⟨fun pins s s1 H Q I h => ?_⟩
  refine wpAny_Call_Name_kw (ld_blt I hg hm boot_sorted ?_)
  refine callWith_kw (args_cons (thn (ha.run pins s s1 H _ I h) fun v s2 ⟨x, H1, I1, r1, hT, q⟩ => args_nil ?_) hs) (by rw [hs]; rfl) (by rw [hs]; rfl) rfl rfl
  show wpAny _ _ (evalAll ((do let v ← eval (.Lambda (lamP p0) (lamB p1 p2 p3 p4 p5) lamSc p7) X.env; standAt p9; pure v) :: [])) _ _ s2
  refine wpAny_evalAll_cons (wpAny_bind (lam_new I1 TB hcode hmT huT hT rfl fun f c' pm ctv H2 s3 I3 ex trk hT2 hf hcd => wpAny_bind (wpAny_standAt (wpAny_pure (wpAny_evalAll_nil ?_)))))
  obtain ⟨d, kvs, ks, rfl, hd, hks, hkz, q⟩ := q H2 ex trk hT2
  cases r1
  show wpAny _ _ (call (.builtin "sorted") [.ref d] [(Str.ofString "key", .ref f)]) _ _ s3
  obtain ⟨z, lo, vs, rel, dd⟩ := dk_rd I3.hok hd
  obtain ⟨ep, hat⟩ := dd.dictAt
  have hkeys : vs.map (·.1) = ks.map Sum.inr := rel.keys.symm.trans hks
  have hl : vs.length = ks.length := by simpa using congrArg List.length hkeys
  have hL : vs.length ≤ sizeLine := by rw [← rel.length]; exact z
  refine call_function_entry_kw kind_sorted plain_sorted entry_sorted (PyProof.Rows.ksk_s1 _ _) ?_
  unfold Builtin.«sorted»
  refine wpAny_bind (m := checkCount "sorted" 1 1 _) (wpAny_pure ?_)
  refine wpAny_bind (PySem.W.kdu_collect (A := X.A.in1) (PySem.W.kdl_dict (knd := mixKind X.prog X.w) (kvs := vs) (ep := ep) lo) hr.hd hat hL fun h' tk acc hk hacc => ?_)
  have hal : acc.toList.length = ks.length := by rw [Array.length_toList, hacc.1, hl]
  have hS : StrsAre acc.toList ks := strs_at2 hal fun j v e => by
    obtain ⟨k, x, e1, e2⟩ := hacc.2 j v (by rw [← Array.getElem?_toList]; exact e)
    have e3 : (vs.map (·.1))[j]? = some k := by rw [List.getElem?_map, e1]; rfl
    rw [hkeys, List.getElem?_map] at e3
    cases e4 : ks[j]? with
    | none => rw [e4] at e3; cases e3
    | some y =>
      rw [e4] at e3
      obtain rfl : Sum.inr y = k := Option.some.inj e3
      obtain ⟨t, ev⟩ := Value.isStrOf_shape (x := y) (v := v) e2
      exact ⟨y, t, rfl, ev⟩
  have I4 : Inv X pins s1 H2 { s3 with heap := h', toks := tk } := I3.kept hk
  refine wpAny_bind (wpAny_newList ?_ (by rw [hal, ← hl]; exact hL))
  have hoL : (h'.push (seqObj "list" acc.toList.toArray 0)).get? h'.objs.size = some (seqObj "list" acc.toList.toArray 0) := Heap.get?_push_size _ rfl
  obtain ⟨mb, hb1, hb2⟩ := I3.mod.blt
  have hun := hr.un
  have hdp := hr.dp
  refine wpAny_bind (wpAny_holding (PySem.W.list_sort_key_data (s := { s3 with heap := h'.push (seqObj "list" acc.toList.toArray 0), toks := tk }) (f := .ref f) (b := false) (R := isS1) keyT2 hoL (each_strs hS) (PySem.W.AllAlike.of fun _ _ => by simp [PySem.W.alike, PySem.W.alikeAll, keyT2]) (PySem.W.Sortable.tuples fun _ => ⟨_, _, rfl⟩) (by rw [← hl]; exact hL)
    (fun x _ => ?_) (PyProof.Rows.ksk_l1 _ _) (PyProof.Rows.ksk_t1 _ _) (fun v x hv hx g tk2 kb => ?_) fun out c' g tk2 kb hg2 hlo he => ?_))
  · have : (keyT2 x).depth = 1 := by simp [keyT2, PyData.depth, PyData.depthAll]
    show X.A.units + 1 + 1 + (keyT2 x).depth < cLine
    omega
  · obtain ⟨u, rfl⟩ := hv
    have kall : ∀ b o, s3.heap.get? b = some o → g.get? b = some o := fun b o e => by
      have := hk b o e
      exact kb b o (Nat.ne_of_lt (Heap.lt_size this)) (Heap.get?_push_of_some _ this)
    refine lam_key (s := { s3 with heap := g, toks := tk2 }) (mg := X.mg) (mb := mb) (kall _ _ hf) (hcd.keeps kall) ?_ (I3.nolimit.keeps kall) ((I3.mod.glob.keeps I3.bk).keeps kall) hml ((hb1.keeps I3.bk).keeps kall) ((hb2 _ (by decide)).trans boot_len) (hkz x hx)
    show X.A.depth < recursionLimit
    omega
  · rw [dataLe_key] at he
    have k5 : ∀ b o, h'.get? b = some o → g.get? b = some o := fun b o e => kb b o (Nat.ne_of_lt (Heap.lt_size e)) (Heap.get?_push_of_some _ e)
    have hn : H2 h'.objs.size = none := I4.hok.fresh (Nat.le_refl _)
    refine wpAny_pure ⟨_, rfl, .ref h'.objs.size, upd H2 h'.objs.size (.lst ((sortK ks).map V.str)), I4.laid (t' := tk2) k5 (Nat.le_refl _) ⟨?_, out, c', vals_strs (strs_each he), hg2⟩, rfl, q _ hn⟩
    rw [List.length_map, sortK_len, ← hl]; exact hL
end
end HB

set_option Elab.async false
set_option linter.all false
set_option maxRecDepth 100000
set_option maxHeartbeats 1000000
/-! HB, part n: subscripts as a rule, sorted as plain functions, the law's first statement. -/
namespace HB
open PySem PySem.Spec PyProof.Rows L2

theorem ix_dic {X : Cx} (hu : X.A.units + 64 < cLine) : IxR X rIxDic := by
  intro value slice pins s s1 H x y v u Q I rx ry h hs
  obtain ⟨a, z, rfl, g, q⟩ := h
  obtain rfl : v = Value.ref a := rx
  exact tail_any (dict_typeIs I g) PySem.F.slot_dict_getitem.lookup (d_getItem (by omega) I g ry fun w' s3 I3 rw' => ⟨z, H, I3, rw', q⟩) hs
theorem ix_A {X : Cx} (hu : X.A.units + 64 < cLine) : IxR X (rIxA X.K) := ix_seq.or (ix_dic hu)

section
variable {T : List (Addr × Str)} {K : PySem.W.Frag}
theorem dens_strs {L : List Addr} {B : Addr → Prop} {H : Hp} : ∀ xs : List Str, Dens L B H (xs.map Dt.str) (xs.map V.str)
  | [] => .nil
  | _ :: xs => .cons Den.str (dens_strs xs)
/-- sorted(set(xs)) -/
def gSS (st : Sto) (xs : List Dt) : Option (Dt × Sto) := match xs with
  | [x] => (asL st x).bind fun ds => (strs' ds).bind fun ys => if ys.length + 1 < scanBound then some (.lst ((sortS (setL ys)).map .str), st) else none
  | _ => none
theorem sim_ss {X : Cx} {te : TE} {f : SE} (hf : SimE T te f) : SimE T (tCB (rSortSS X) (tCons (tCB (rSetS X) (tCons te tNil)) tNil)) (eN gSS (aCons f aNil)) := by
  intro Z L st H s r d st' Q w e h q
  obtain ⟨⟨ds, st1⟩, h1, h⟩ := bind_some' h
  obtain ⟨⟨dx, st2⟩, h2, h3⟩ := bind_some' h1
  cases h3
  refine hf Z L st H s r dx _ _ w e h2 fun x H1 L1 f1 p1 => ?_
  dsimp only at h
  unfold gSS at h
  obtain ⟨es, e1, h⟩ := bind_some' h
  obtain ⟨ys, e2, h⟩ := bind_some' h
  split at h
  case isFalse => cases h
  case isTrue hb =>
  cases h
  obtain ⟨a, vs, rfl, ea, t⟩ := asL_ok f1.wd p1 e1
  have ev := strs_ok t e2
  subst ev
  refine ⟨a, ys, rfl, SqL.of ea, hb, fun p np => ?_⟩
  have n1 : Af T Z L1 _ H1 L1 _ (upd H1 p (SSO X.prog X.w p (setL ys))) := .new f1.wd np
  have hlen : (setL ys).length < scanBound := by have := setL_len ys; omega
  refine ⟨p, setL ys, rfl, upd_same, hlen, fun p2 np2 => ?_⟩
  exact q _ _ L1 (f1.trans (n1.trans (.new n1.wd np2))) (.newL n1.wd np2 (dens_strs _))
/-- sorted(xs), texts -/
def gSortL (st : Sto) (xs : List Dt) : Option (Dt × Sto) := match xs with
  | [x] => (asL st x).bind fun ds => (strs' ds).map fun ys => (.lst ((sortS ys).map .str), st)
  | _ => none
theorem vo_sortL : VON T (rSortL K) gSortL := by
  intro Z L st H xs dxs d st' Q w hx h q
  unfold gSortL at h
  split at h
  · obtain ⟨v, rfl, p⟩ := dens1 hx
    obtain ⟨es, e1, h⟩ := bind_some' h
    obtain ⟨ys, e2, e3⟩ := Option.map_eq_some_iff.mp h
    cases e3
    obtain ⟨a, vs, rfl, ea, t⟩ := asL_ok w p e1
    have ev := strs_ok t e2
    subst ev
    exact ⟨a, ys, rfl, SqL.of ea, fun p np => q _ _ L (.new w np) (.newL w np (dens_strs _))⟩
  · cases h
/-- the keys are texts -/
def kStrs : List Key → Option (List Str)
  | [] => some []
  | .inr x :: ks => (kStrs ks).map fun xs => x :: xs
  | _ => none
theorem kStrs_ok : ∀ {ks : List Key} {xs : List Str}, kStrs ks = some xs → ks = xs.map Sum.inr
  | [], _, h => by cases h; rfl
  | .inr x :: ks, _, h => by
    obtain ⟨ys, e1, e2⟩ := Option.map_eq_some_iff.mp h
    subst e2
    rw [kStrs_ok e1]; rfl
  | .inl _ :: ks, _, h => by cases h
/-- sorted(d, key=..), as a new live object -/
def eSortK (f : SE) : SE := fun r st => (f r st).bind fun x => (asD x.2 x.1).bind fun y => (kStrs y.1).bind fun ks => if ks.all (fun k => decide (k.length ≤ sizeLine)) = true then some (.ref x.2.length, x.2 ++ [some (.lst ((sortK ks).map .str))]) else none
theorem zip_keys : ∀ {ks : List Key} {vs : List V}, ks.length = vs.length → (ks.zip vs).map (·.1) = ks
  | [], _, _ => rfl
  | k :: ks, v :: vs, h => by
    rw [List.zip_cons_cons, List.map_cons, zip_keys (by simpa using h)]
  | _ :: _, [], h => by simp at h
theorem Wd.lam {Z : Addr → Prop} {L : List Addr} {st : Sto} {H H2 : Hp} (w : Wd T Z L st H) (ex : LamX.ExtN H H2) (trk : ∀ b, H b ≠ none → H2 b ≠ none) (hT : LamX.Tabs T H2) : Af T Z L st H L st H2 := by
  have stay : ∀ b u, H b = some u → (∀ ps, u ≠ .tbl ps) → H2 b = some u := ex
  refine ⟨⟨hT, w.len, w.inj, fun k a d h1 h2 => ?_, fun a z => trk a (w.zt a z)⟩, ⟨[], by simp⟩, fun b u e _ n => stay b u e n, fun a l => .inl l, trk, fun b us e => stay b _ e (fun ps z => by cases z), fun k a h e => absurd (List.getElem?_eq_some_iff.mp e).1 (by omega), fun a z => .inl z⟩
  obtain ⟨nz, o, e, q⟩ := w.own k a d h1 h2
  refine ⟨nz, o, stay a o e fun ps z => ?_, q.imp fun ds vs t => t.stay stay⟩
  rcases q.kind with ⟨xs, y⟩ | ⟨kvs, y⟩ <;> (rw [y] at z; cases z)
theorem sim_sortK {te : TE} {f : SE} (hf : SimE T te f) : SimE T (tSortK T te) (eSortK f) := by
  intro Z L st H s r d st' Q w e h q
  obtain ⟨⟨dx, st1⟩, h1, h⟩ := bind_some' h
  obtain ⟨⟨ks, ds⟩, h2, h⟩ := bind_some' h
  obtain ⟨xs, h3, h⟩ := bind_some' h
  split at h
  case isFalse => cases h
  case isTrue hz =>
  cases h
  refine hf Z L st H s r dx _ _ w e h1 fun x H1 L1 f1 p1 => ?_
  refine ⟨f1.wd.tabs, fun H2 ex trk hT => ?_⟩
  have f2 := f1.wd.lam ex trk hT
  obtain ⟨a, vs, rfl, ea, el, t⟩ := asD_ok f2.wd (p1.keep f2) h2
  refine ⟨a, _, xs, rfl, ea, ?_, fun k hk => ?_, fun p np => ?_⟩
  · exact (zip_keys el).trans (kStrs_ok h3)
  · rw [List.all_eq_true] at hz
    simpa using hz k hk
  · refine q _ _ (L1 ++ [p]) (f1.trans (f2.trans (.newR f2.wd np ⟨_, rfl, dens_strs _⟩))) ?_
    unfold Den
    exact ⟨p, by rw [← f2.wd.len]; simp, rfl⟩
/-- a new object, from now on a value -/
def eFrz (f : SE) : SE := fun r st => (f r st).bind fun x => match x.1 with
  | .ref k => (match x.2[k]? with
    | some (some d) => some (d, x.2.set k none)
    | _ => none)
  | _ => none
theorem sim_eFrz {te : TE} {f : SE} (hf : SimE T te f) : SimE T te (eFrz f) := by
  intro Z L st H s r d st' Q w e h q
  obtain ⟨⟨dx, st1⟩, h1, h⟩ := bind_some' h
  refine hf Z L st H s r dx _ _ w e h1 fun x H1 L1 f1 p1 => ?_
  cases dx with
  | ref k =>
    dsimp only at h
    split at h
    · rename_i d' hd
      cases h
      unfold Den at p1
      obtain ⟨a, ka, rfl⟩ := p1
      obtain ⟨ff, pp⟩ := f1.wd.frz ka hd
      exact q _ H1 L1 (f1.trans ff) pp
    · cases h
  | _ => cases h
end

/-! ### at one world -/
section
variable {T : List (Addr × Str)} {K : PySem.W.Frag} {Z : Addr → Prop} {L : List Addr} {st : Sto} {H : Hp} {s : L2.St} {r : Evr}
theorem at_op {ta tb : TE} {fa fb : SE} {o : R2} {g : Sto → Dt → Dt → Option (Dt × Sto)} (e : EnvOk L (Bad Z L st) H r s) (ha : EAt T Z L st H s r ta fa) (hb : SimE T tb fb) (ho : VO2 T o g) : EAt T Z L st H s r (tOp o ta tb) (eOp2 g fa fb) := by
  intro d st' Q h q
  obtain ⟨⟨dx, st1⟩, h1, h⟩ := bind_some' h
  obtain ⟨⟨dy, st2⟩, h2, h⟩ := bind_some' h
  refine ha dx st1 _ h1 fun x H1 L1 f1 p1 => ?_
  refine hb Z L1 st1 H1 s r dy st2 _ f1.wd (e.keep f1) h2 fun y H2 L2 f2 p2 => ?_
  exact ho Z L2 st2 H2 x y dx dy d st' Q f2.wd (p1.keep f2) p2 h fun v H3 L3 f3 p3 => q v H3 L3 (f1.trans (f2.trans f3)) p3
theorem at_iL {te : TE} {f : SE} (hf : EAt T Z L st H s r te f) : IAt T Z L st H s r (iList K te) (iE itL f) := by
  intro xs st' Q h q
  obtain ⟨⟨dx, st1⟩, h1, h2⟩ := bind_some' h
  obtain ⟨ys, h3, h4⟩ := Option.map_eq_some_iff.mp h2
  cases h4
  refine hf dx _ _ h1 fun x H1 L1 f1 p1 => ?_
  cases dx with
  | lst ds =>
    cases h3
    have p1' := p1
    unfold Den at p1'
    obtain ⟨a, vs, rfl, nb, ea, t⟩ := p1'
    refine ⟨a, rfl, ⟨vs, SqL.of ea⟩, q _ H1 L1 f1 fun Z2 L2 st2 H2 f2 => ?_⟩
    have ea2 : H2 a = some (.lst vs) := f2.kp a _ ea (fun z => nb (.inr z)) (fun ps z => by cases z)
    have t2 := t.keep f2
    refine ⟨⟨vs, SqL.of ea2, Nat.le_of_eq t.len.symm⟩, fun i d hd => ?_⟩
    obtain ⟨v, hv, pv⟩ := t2.get hd
    refine ⟨⟨vs, v, SqL.of ea2, hv⟩, fun x H3 y => ?_⟩
    obtain ⟨rfl, y⟩ := y
    have := y vs (SqL.of ea2)
    rw [hv] at this
    cases this
    exact ⟨.refl f2.wd, pv⟩
  | _ => cases h3
end
end HB

set_option Elab.async false
set_option linter.all false
set_option maxRecDepth 100000
set_option maxHeartbeats 1000000
/-! HB, part o: the end of a law. -/
namespace HB
open PySem PySem.Spec PyProof.Rows L2

section
variable {P : Program} {w : World} {K : PySem.W.Frag} {mg mb : Str → Option Value} {k : Nat} {fa a : Addr} {cs : List (Addr × Addr)} {fd : FuncData} {x : Str} {sp : Sp} {s₁ : Shared} {vs : List Value} {ns : List Int}
abbrev tabO : Obj := { cls := .none, data := .fields #[] }
abbrev scrO (vs : List Value) : Obj := { cls := .type "list", data := .seq vs.toArray }
open Classical in
/-- what is known of the heap at the law's entry: the tables, the script if it is not of the module -/
noncomputable def h0 (K : PySem.W.Frag) (cs : List (Addr × Addr)) (a : Addr) (vs : List Value) (ns : List Int) : Hp := fun b =>
  if (∃ p ∈ cs, p.2 = b) then some (.tbl #[]) else if b = a ∧ K.lookup a = none then some (.frz (scrO vs) (.lst (ns.map V.int))) else none
theorem h0_cases {b : Addr} {u : HO} (h : h0 K cs a vs ns b = some u) : (∃ p ∈ cs, p.2 = b ∧ u = .tbl #[]) ∨ (b = a ∧ K.lookup a = none ∧ u = .frz (scrO vs) (.lst (ns.map V.int))) := by
  unfold h0 at h
  split at h
  · rename_i q
    obtain ⟨p, hp, e⟩ := q
    cases h
    exact .inl ⟨p, hp, e, rfl⟩
  · split at h
    · rename_i q
      cases h
      exact .inr ⟨q.1, q.2, rfl⟩
    · cases h
theorem law_go (KX : K.In s₁.heap) (hns : s₁.heap.Ns mainGlobals mg) (hb : s₁.heap.Ns builtinsNs mb) (hbb : ∀ x : Str, x ≠ "__name__" → mb x = bootBuiltins x) (hlim : s₁.heap.NoLimit) (hg : s₁.gens = #[])
    (hT : ∀ p ∈ cs, s₁.heap.get? p.2 = some tabO) (nT : ∀ p ∈ cs, K.lookup p.2 = none) (C : ∀ p ∈ cs, PySem.W.CodeHd s₁.heap p.1 p.2)
    (hbm : ∃ (bm : Addr) (ob : Obj), mg "__builtins__" = some (.ref bm) ∧ bm ≠ builtinsNs ∧ s₁.heap.get? bm = some ob ∧ ob.cls = .type "module" ∧ ob.dict = some builtinsNs ∧ ob.data = .plain)
    (ha : s₁.heap.get? a = some (scrO vs)) (hi : IntsAre vs ns) (hl : ns.length ≤ sizeLine) (hr : Room k callerA)
    (F : ∀ base : Heap, K.In base → base.Ns mainGlobals mg → (∀ p ∈ cs, LamX.TabB base mg p.1 p.2) → GFn P w K mg base k fa fd [x] sp) (hbind : ∀ (s : Shared) (u : Value), BindsTo s fd ⟨[u], []⟩ [(x, u)])
    (hsp : ∀ H : Hp, (∀ p ∈ cs, H p.2 = some (.tbl #[])) → SqL K H a (ns.map V.int) → sp [.ref a] H (fun v _ => v = .bl true) E0) :
    codeAny (model P w) callerA (.call (.ref fa) ⟨[.ref a], []⟩) (fun r s' => r = .ok (.ret (.bool true)) ∧ OldK s₁.heap s'.heap ∧ s'.os = s₁.os ∧ AllBare s'.gens) s₁ := by
  have rv := vals_ints hi
  have lv := hi.length
  have hH : ∀ p ∈ cs, h0 K cs a vs ns p.2 = some (.tbl #[]) := fun p hp => if_pos ⟨p, hp, rfl⟩
  have na : ¬ ∃ p ∈ cs, p.2 = a := fun ⟨p, hp, e⟩ => by
    have q := hT p hp
    rw [e, ha] at q
    have := congrArg Obj.data (Option.some.inj q)
    cases this
  have hS : SqL K (h0 K cs a vs ns) a (ns.map V.int) := by
    cases hk : K.lookup a with
    | some o =>
      have e := KX a o hk
      rw [ha] at e
      cases e
      exact .inr ⟨_, vs.toArray, _, hk, rfl, rfl, rfl, by rw [List.size_toArray, lv]; exact hl, by simpa using rv⟩
    | none => exact .inl (.inr ⟨scrO vs, by unfold h0; rw [if_neg na, if_pos ⟨rfl, hk⟩]⟩)
  have hok : HOk P w (h0 K cs a vs ns) s₁.heap := fun b u e => by
    rcases h0_cases e with ⟨p, hp, rfl, rfl⟩ | ⟨rfl, _, rfl⟩
    · exact hT p hp
    · exact ⟨ha, by rw [List.length_map]; exact hl, vs, _, rv, ha⟩
  -- what is neither a table nor the script is not hidden
  have free : ∀ {b : Addr} {o : Obj}, s₁.heap.get? b = some o → (∀ us n, o.data ≠ .seq us n) → o.data ≠ .fields #[] → h0 K cs a vs ns b = none := fun {b o} e h1 h2 => by
    cases q : h0 K cs a vs ns b with
    | none => rfl
    | some u =>
      rcases h0_cases q with ⟨p, hp, rfl, _⟩ | ⟨rfl, _, _⟩
      · rw [hT p hp] at e; cases e; exact (h2 rfl).elim
      · rw [ha] at e; cases e; exact (h1 _ _ rfl).elim
  have stays : ∀ {b : Addr} {o : Obj}, s₁.heap.get? b = some o → (∀ us n, o.data ≠ .seq us n) → o.data ≠ .fields #[] → (hidT s₁.heap (h0 K cs a vs ns)).get? b = some o := fun e h1 h2 => hidT_get e (free e h1 h2)
  have nsK : ∀ {b : Addr} {m : Str → Option Value}, s₁.heap.Ns b m → (hidT s₁.heap (h0 K cs a vs ns)).Ns b m := fun {b m} ⟨o, es, ep, e, d, r⟩ =>
    ⟨o, es, ep, stays e (fun us n z => by rw [d] at z; cases z) (fun z => by rw [d] at z; cases z), d, r⟩
  have hKb : K.In (hidT s₁.heap (h0 K cs a vs ns)) := fun b o e => hidT_get (KX b o e) (by
    cases q : h0 K cs a vs ns b with
    | none => rfl
    | some u =>
      rcases h0_cases q with ⟨p, hp, rfl, _⟩ | ⟨rfl, hk, _⟩
      · rw [nT p hp] at e; cases e
      · rw [hk] at e; cases e)
  have hM : L2.Mod K mg (hidT s₁.heap (h0 K cs a vs ns)) := ⟨hKb, nsK hns, ⟨mb, nsK hb, hbb⟩, let ⟨mc, h1, h2⟩ := hlim; ⟨mc, nsK h1, h2⟩⟩
  have TB : ∀ p ∈ cs, LamX.TabB (hidT s₁.heap (h0 K cs a vs ns)) mg p.1 p.2 := fun p hp => by
    refine ⟨?_, ?_, fun z => ?_⟩
    · obtain ⟨o, us, file, tf, flags, tg, inF, text, tt, e1, r1, r2, r3, r⟩ := C p hp
      refine ⟨o, us, file, tf, flags, tg, inF, text, tt, stays e1 (fun us n z => by rw [r2] at z; cases z) (fun z => ?_), r1, r2, r3, r⟩
      rw [r2] at z
      cases z
      simp at r3
    · obtain ⟨bm, ob, b1, b2, b3, b4, b5, b6⟩ := hbm
      refine ⟨bm, ob, b1, b2, fun q => ?_, fun q => ?_, stays b3 (fun us n z => by rw [b6] at z; cases z) (fun z => by rw [b6] at z; cases z), b4, b5, b6⟩
      · obtain ⟨o, es, ep, e, hd, _⟩ := hns
        rw [q, e] at b3
        cases b3
        rw [hd] at b6
        cases b6
      · rw [q, hT p hp] at b3
        cases b3
        cases b6
    · obtain ⟨o, es, ep, e, hd, _⟩ := hns
      rw [z, hT p hp] at e
      cases e
      cases hd
  have e0 : Env0 P w K mg (hidT s₁.heap (h0 K cs a vs ns)) callerA [] s₁ (h0 K cs a vs ns) :=
    ⟨rfl, hM, fun b o e => of_hidT e, Nat.le_of_eq (hidT_size _ _), trivial, fun b hb => absurd (show b ∈ ([] : List Addr) from hb) (by simp), hok, .of_eq hg⟩
  refine codeAny_mono ((F _ hKb (nsK hns) TB).run callerA [] s₁ (h0 K cs a vs ns) ⟨[.ref a], []⟩ [.ref a] [.ref a] _ hr rfl e0 (hbind s₁ (.ref a)) rfl (.cons rfl .nil) (hsp _ hH hS)) fun r s' h => ?_
  match r, h with
  | .error _, h => exact h.elim
  | .ok .next, h => exact h.elim
  | .ok .brk, h => exact h.elim
  | .ok .cont, h => exact h.elim
  | .ok (.ret u), h =>
    obtain ⟨v, H', os, bare, un, hok', r', q⟩ := h
    obtain rfl : v = .bl true := q
    obtain rfl : u = Value.bool true := r'
    have tabs : ∀ p ∈ cs, ∃ more : Array Value, s'.heap.get? p.2 = some { cls := .none, data := .fields more } := fun p hp => by
      obtain ⟨more, z⟩ := un.tbls p.2 #[] (hH p hp)
      exact ⟨_, hok' p.2 _ z⟩
    have rest : ∀ b o, (¬ ∃ p ∈ cs, p.2 = b) → s₁.heap.get? b = some o → s'.heap.get? b = some o := fun b o nb e => by
      cases q : h0 K cs a vs ns b with
      | none => exact un.keep b o e q (fun z => absurd (show b ∈ ([] : List Addr) from z) (by simp)) (by simp)
      | some u =>
        rcases h0_cases q with ⟨p, hp, e', _⟩ | ⟨e', _, e2⟩
        · exact absurd ⟨p, hp, e'⟩ nb
        · rw [e2] at q
          obtain ⟨e3, _⟩ := hok' b _ (un.frzs b _ _ q)
          rw [e', ha] at e
          cases e
          exact e3
    refine ⟨rfl, ⟨fun b o e => ?_, fun b o e => ?_⟩, os, bare⟩
    · by_cases nb : ∃ p ∈ cs, p.2 = b
      · obtain ⟨p, hp, rfl⟩ := nb
        obtain ⟨more, hm⟩ := tabs p hp
        rw [hT p hp] at e
        cases e
        exact .inr (.inl ⟨((C p hp).tab (hT p hp)).isCodeTable, rfl, #[], more, rfl, by rw [Array.empty_append]; exact hm⟩)
      · exact .inl (rest b o nb e)
    · by_cases nb : ∃ p ∈ cs, p.2 = b
      · obtain ⟨p, hp, rfl⟩ := nb
        obtain ⟨more, hm⟩ := tabs p hp
        exact ⟨_, hm⟩
      · exact ⟨o, rest b o nb e⟩
end
/-- what is known of the law at the head's heap h: cs, the code objects that make lambdas and their tables -/
def LawAt (l : PySem.W.OpenLaw) (w : World) (K : PySem.W.Frag) (k n : Nat) (x : Str) (mg : Str → Option Value) (fa : Addr) (h : Heap) : Prop :=
  ∃ (fd : FuncData) (cs : List (Addr × Addr)) (sp : Sp), (∀ p ∈ cs, h.get? p.2 = some tabO) ∧ (∀ p ∈ cs, K.lookup p.2 = none) ∧ (∀ p ∈ cs, PySem.W.CodeHd h p.1 p.2) ∧ (∀ (s : Shared) (u : Value), BindsTo s fd ⟨[u], []⟩ [(x, u)]) ∧
    (∀ (H : Hp) (a : Addr) (ns : List Int), ns.length ≤ n → (∀ z ∈ ns, Builtin.Int.intBits z ≤ 1048576) → (∀ p ∈ cs, H p.2 = some (.tbl #[])) → SqL K H a (ns.map V.int) → sp [.ref a] H (fun v _ => v = .bl true) E0) ∧
    ∀ base : Heap, K.In base → base.Ns mainGlobals mg → (∀ p ∈ cs, LamX.TabB base mg p.1 p.2) → GFn l.prog w K mg base k fa fd [x] sp
theorem walk_go {l : PySem.W.OpenLaw} {n k : Nat} {q : Program} {loose : List Str} {XP : (Str → Option Value) → Heap → Prop} {YP : World → Heap → Prop} {d : DefRec} {K : Params → PySem.W.Frag} {x : Str}
    (hn : l.most = some n) (hn2 : n ≤ sizeLine) (hdf : d.params.defaults = []) (hr : Room k callerA) (hY : ∀ (w : World) (h : Heap), YP w h → (K w.params).In h)
    (F : ∀ (w : World) (mg : Str → Option Value) (fa : Addr) (h : Heap), YP w h → (K w.params).In h → h.Ns mainGlobals mg → mg d.name = some (.ref fa) → LawAt l w (K w.params) k n x mg fa h) :
    PySem.W.WalkO q loose XP YP l.row.toRowW d [] (fun f vs => PySem.call f vs) := by
  refine Att.attach_callB hn hdf fun w s₀ s₁ mg mb fa o pm cd doc a vs ns G Y ho hd hcd hmg hobj hints hlen hbits hg => ?_
  have KX := hY w _ Y
  obtain ⟨fd, cs, sp, hT, nT, C, hb, hsp, hF⟩ := F w mg fa _ Y KX G.T.g hmg
  exact law_go KX G.T.g G.T.b G.T.builtins G.T.nolimit hg hT nT C G.T.bmain hobj hints (Nat.le_trans hlen hn2) hr hF hb fun H hH hS => hsp H a ns hlen hbits hH hS
end HB

set_option Elab.async false
set_option linter.all false
set_option maxRecDepth 100000
set_option maxHeartbeats 1000000
/-! HB, part p: one judgement for the derivation and the plain function. -/
namespace HB
open PySem PySem.Spec PyProof.Rows L2

section
variable (T : List (Addr × Str))
/-- the readings that a plain function gives -/
def rE (f : SE) : TE := fun s H Q => ∃ Z L st r d st', Wd T Z L st H ∧ EnvOk L (Bad Z L st) H r s ∧ f r st = some (d, st') ∧ ∀ v H' L', Af T Z L st H L' st' H' → Den L' (Bad Z L' st') H' d v → Q v H'
def rT (f : ST) : TT := fun s H Q => ∃ Z L st r b st', Wd T Z L st H ∧ EnvOk L (Bad Z L st) H r s ∧ f r st = some (b, st') ∧ ∀ H' L', Af T Z L st H L' st' H' → Q b H'
def rA (f : SA) : TA := fun s H Q => ∃ Z L st r d st', Wd T Z L st H ∧ EnvOk L (Bad Z L st) H r s ∧ f r st = some (d, st') ∧ ∀ v H' L', Af T Z L st H L' st' H' → Dens L' (Bad Z L' st') H' d v → Q v H'
def rS (g : SS) : TS := fun D s H => ∃ Z L st r o, Wd T Z L st H ∧ EnvOk L (Bad Z L st) H r s ∧ g r st = some o ∧ OuOk T Z L st H D o
def rI (f : SA) : TI := fun s H Q => ∃ Z L st r d st', Wd T Z L st H ∧ EnvOk L (Bad Z L st) H r s ∧ f r st = some (d, st') ∧ ∀ J H' L', Af T Z L st H L' st' H' → WalkD T Z L' st' H' J d → Q J H'
def rO (f : SO) : TO := fun s H Q => ∃ Z L st r d st', Wd T Z L st H ∧ EnvOk L (Bad Z L st) H r s ∧ f r st = some (d, st') ∧ ∀ H' L', Af T Z L st H L' st' H' → Q d H'
end
section
variable {T : List (Addr × Str)}
theorem sE {f : SE} : SimE T (rE T f) f := fun Z L st H s r d st' Q w e h q => ⟨Z, L, st, r, d, st', w, e, h, q⟩
theorem sT {f : ST} : SimT T (rT T f) f := fun Z L st H s r d st' Q w e h q => ⟨Z, L, st, r, d, st', w, e, h, q⟩
theorem sA {f : SA} : SimA T (rA T f) f := fun Z L st H s r d st' Q w e h q => ⟨Z, L, st, r, d, st', w, e, h, q⟩
theorem sS {g : SS} : SimS T (rS T g) g := fun Z L st H s r o D w e h q => ⟨Z, L, st, r, o, w, e, h, q⟩
theorem sI {f : SA} : SimI T (rI T f) f := fun Z L st H s r d st' Q w e h q => ⟨Z, L, st, r, d, st', w, e, h, q⟩
theorem sO {f : SO} : SimO T (rO T f) f := fun Z L st H s r d st' Q w e h q => ⟨Z, L, st, r, d, st', w, e, h, q⟩
variable {X : Cx}
theorem toE {e : Expr} {t : TE} {f : SE} (h : PE X e t) (k : SimE T t f) : PE X e (rE T f) := ⟨fun pins s s1 H Q I ⟨Z, L, st, r, d, st', w, ev, hf, q⟩ => h.run pins s s1 H Q I (k Z L st H s1 r d st' Q w ev hf q)⟩
theorem toTT {e : Expr} {t : TT} {f : ST} (h : PT X e t) (k : SimT T t f) : PT X e (rT T f) := ⟨fun pins s s1 H Q I ⟨Z, L, st, r, d, st', w, ev, hf, q⟩ => h.run pins s s1 H Q I (k Z L st H s1 r d st' Q w ev hf q)⟩
theorem toW {e : Expr} {t : TT} {f : ST} (h : PW X e t) (k : SimT T t f) : PW X e (rT T f) := ⟨fun wh pins s s1 H Q I ⟨Z, L, st, r, d, st', w, ev, hf, q⟩ => h.run wh pins s s1 H Q I (k Z L st H s1 r d st' Q w ev hf q)⟩
theorem toTs {e : List Expr} {t : TT} {f : ST} (h : PTs X e t) (k : SimT T t f) : PTs X e (rT T f) := ⟨fun pins s s1 H Q I ⟨Z, L, st, r, d, st', w, ev, hf, q⟩ => h.run pins s s1 H Q I (k Z L st H s1 r d st' Q w ev hf q)⟩
theorem toA {e : List Expr} {t : TA} {f : SA} (h : PA X e t) (k : SimA T t f) : PA X e (rA T f) := ⟨fun pos pins s s1 H Q I ⟨Z, L, st, r, d, st', w, ev, hf, q⟩ => h.run pos pins s s1 H Q I (k Z L st H s1 r d st' Q w ev hf q)⟩
theorem toK {e : List Keyword} {t : TA} {f : SA} (h : PK X e t) (k : SimA T t f) : PK X e (rA T f) := ⟨fun pos pins s s1 H Q I ⟨Z, L, st, r, d, st', w, ev, hf, q⟩ => h.run pos pins s s1 H Q I (k Z L st H s1 r d st' Q w ev hf q)⟩
theorem toS {e : Stmt} {t : TS} {f : SS} (h : PS X e t) (k : SimS T t f) : PS X e (rS T f) := ⟨fun pins s s1 H D I ⟨Z, L, st, r, o, w, ev, hf, q⟩ => h.run pins s s1 H D I (k Z L st H s1 r o D w ev hf q)⟩
theorem toSs {e : List Stmt} {t : TS} {f : SS} (h : PSs X e t) (k : SimS T t f) : PSs X e (rS T f) := ⟨fun pins s s1 H D I ⟨Z, L, st, r, o, w, ev, hf, q⟩ => h.run pins s s1 H D I (k Z L st H s1 r o D w ev hf q)⟩
theorem toI {tg e : Expr} {t : TI} {f : SA} (h : PI X tg e t) (k : SimI T t f) : PI X tg e (rI T f) := ⟨fun pins s s1 H Q I ⟨Z, L, st, r, d, st', w, ev, hf, q⟩ => h.run pins s s1 H Q I (k Z L st H s1 r d st' Q w ev hf q)⟩
theorem toO {e : Option Expr} {t : TO} {f : SO} (h : PO X e t) (k : SimO T t f) : PO X e (rO T f) := ⟨fun pins s s1 H Q I ⟨Z, L, st, r, d, st', w, ev, hf, q⟩ => h.run pins s s1 H Q I (k Z L st H s1 r d st' Q w ev hf q)⟩
end
/-! ### the rules -/
section
variable {T : List (Addr × Str)} {X : Cx} {a b c e o : Expr} {es rest : List Expr} {fa fb fc : SE} {ga gb : ST} {fs : SA} {pos : Pos}
theorem jv (i : Nat) {x : Str} (hN : X.N[i]? = some x := by rfl) (hv : Vis X.env.scope x := by first | exact Or.inl rfl | exact Or.inr (Or.inl rfl) | exact Or.inr (Or.inr rfl)) (hd : (x == ("__debug__" : Str)) = false := by decide)
    (hcd : (x == ("__classdict__" : Str)) = false := by decide) : PE X (.Name x pos) (rE T (eVar i)) := toE (pe_var hN hv hd hcd) sim_var
theorem jInt {i : Int} {j : Nat} : PE X (.Constant (.int i) j pos) (rE T (eC (.int i))) := toE pe_int sim_int
theorem jStr {x : Str} {j : Nat} : PE X (.Constant (.str x) j pos) (rE T (eC (.str x))) := toE pe_str sim_str
theorem jBl {x : Bool} {j : Nat} : PE X (.Constant (.bool x) j pos) (rE T (eC (.bl x))) := toE pe_bl sim_bl
theorem jNon {j : Nat} : PE X (.Constant .none j pos) (rE T (eC .non)) := toE pe_non sim_non
theorem jGI {x : Str} {i : Int} {t : Tok} (hg : Gl X x) (hm : X.mg x = some (.int i t)) (hd : (x == ("__debug__" : Str)) = false := by decide) : PE X (.Name x pos) (rE T (eC (.int i))) := toE (pe_glob (v := .int i) hg hm ⟨t, rfl⟩ hd) sim_int
theorem jOp {op : Operator} {r : R2} {g : Sto → Dt → Dt → Option (Dt × Sto)} (ho : OpR X (binaryOp op) r) (hv : VO2 T r g) (ha : PE X a (rE T fa)) (hb : PE X b (rE T fb)) : PE X (.BinOp a op b pos) (rE T (eOp2 g fa fb)) := toE (pe_op ho ha hb) (sim_op sE sE hv)
theorem jCmp {op : CmpOp} {r : R2} {g : Sto → Dt → Dt → Option (Dt × Sto)} (ho : OpR X (compareOp op) r) (hv : VO2 T r g) (ha : PE X a (rE T fa)) (hb : PE X b (rE T fb)) (hm : behindInMarks op b = false := by first | rfl | exact nomark _) : PE X (.Compare a [op] [b] pos) (rE T (eOp2 g fa fb)) := toE (pe_cmpR ho ha hb hm) (sim_op sE sE hv)
theorem jtCmp {op : CmpOp} {r : R2} {g : Sto → Dt → Dt → Option (Dt × Sto)} (ho : OpR X (compareOp op) r) (hv : VO2 T r g) (ha : PE X a (rE T fa)) (hb : PE X b (rE T fb)) (hm : behindInMarks op b = false := by first | rfl | exact nomark _) : PT X (.Compare a [op] [b] pos) (rT T (cB (eOp2 g fa fb))) := toTT (pt_cmpR ho ha hb hm) (sim_cBT (sim_op sE sE hv))
theorem jtVal (h : PE X e (rE T fa)) (he : ∀ whole, isTrue e X.env whole = (do let v ← whole; standAt e.pos; holding [v] (truthy v)) := by intro _; rfl) : PT X e (rT T (cB fa)) := toTT (pt_val h he) (sim_cB sE)
theorem jtNot (h : PT X a (rT T ga)) : PT X (.UnaryOp .Not a pos) (rT T (cNot ga)) := toTT (pt_not h) (sim_not sT)
theorem jwAnd1 (h : PT X a (rT T ga)) : PW X (.BoolOp .And [a] pos) (rT T ga) := pw_and1 h
theorem jwOr1 (h : PT X a (rT T ga)) : PW X (.BoolOp .Or [a] pos) (rT T ga) := pw_or1 h
theorem jwAnd (ha : PT X a (rT T ga)) (hb : PW X (.BoolOp .And (b :: rest) pos) (rT T gb)) : PW X (.BoolOp .And (a :: b :: rest) pos) (rT T (cAnd ga gb)) := toW (pw_and ha hb) (sim_and sT sT)
theorem jwOr (ha : PT X a (rT T ga)) (hb : PW X (.BoolOp .Or (b :: rest) pos) (rT T gb)) : PW X (.BoolOp .Or (a :: b :: rest) pos) (rT T (cOr ga gb)) := toW (pw_or ha hb) (sim_or sT sT)
theorem jOne {op : BoolOp} (h : PE X a (rE T fa)) : PE X (.BoolOp op [a] pos) (rE T fa) := pe_one h
theorem jAnd (ha : PE X a (rE T fa)) (hb : PE X (.BoolOp .And (b :: rest) pos) (rE T fb)) : PE X (.BoolOp .And (a :: b :: rest) pos) (rE T (eAndV fa fb)) := toE (pe_and ha hb) (sim_andV sE sE)
theorem jOr (ha : PE X a (rE T fa)) (hb : PE X (.BoolOp .Or (b :: rest) pos) (rE T fb)) : PE X (.BoolOp .Or (a :: b :: rest) pos) (rE T (eOrV fa fb)) := toE (pe_or ha hb) (sim_orV sE sE)
theorem jNot (ha : PE X a (rE T fa)) : PE X (.UnaryOp .Not a pos) (rE T (eNotV fa)) := toE (pe_not ha) (sim_notV sE)
theorem jIf (hc : PT X c (rT T ga)) (ha : PE X a (rE T fa)) (hb : PE X b (rE T fb)) : PE X (.IfExp c a b pos) (rE T (eIf ga fa fb)) := toE (pe_ifExp hc ha hb) (sim_if sT sE sE)
theorem jNil : PA X [] (rA T aNil) := toA pa_nil sim_nil
theorem jCons (ha : PE X e (rE T fa)) (hr : PA X es (rA T fs)) (hs : starEach (e :: es) X.env = (false, eval e X.env) :: starEach es X.env := by rfl) : PA X (e :: es) (rA T (aCons fa fs)) := toA (pa_cons ha hr hs) (sim_cons sE sA)
theorem jB {x : Str} {id : String} {r : List V → Hp → VK → Prop} {g : Sto → List Dt → Option (Dt × Sto)} {p : Pos} (hc : CallR X (.builtin id) r) (hv : VON T r g) (hg : Gl X x) (hm : X.mg x = none) (hb : bootBuiltins x = some (.builtin id)) (ha : PA X (e :: es) (rA T fs)) (hn : x ≠ "__name__" := by decide) (hdb : (x == ("__debug__" : Str)) = false := by decide)
    (he : starEach (e :: es) X.env = (false, eval e X.env) :: starEach es X.env := by rfl) (hpl : (backTo pos (starEach es X.env)).any (·.1) = false := by rfl) : PE X (.Call (.Name x p) (e :: es) [] pos) (rE T (eN g fs)) := toE (pe_callB hc hg hm hb ha hn hdb he hpl) (sim_N sA hv)
theorem jTy {x : Str} {id : String} {r : List V → Hp → VK → Prop} {g : Sto → List Dt → Option (Dt × Sto)} {p : Pos} (hc : CallR X (.type id) r) (hv : VON T r g) (hg : Gl X x) (hm : X.mg x = none) (hb : bootBuiltins x = some (.type id)) (ha : PA X (e :: es) (rA T fs)) (hn : x ≠ "__name__" := by decide) (hdb : (x == ("__debug__" : Str)) = false := by decide)
    (he : starEach (e :: es) X.env = (false, eval e X.env) :: starEach es X.env := by rfl) (hpl : (backTo pos (starEach es X.env)).any (·.1) = false := by rfl) : PE X (.Call (.Name x p) (e :: es) [] pos) (rE T (eN g fs)) := toE (pe_callTy hc hg hm hb ha hn hdb he hpl) (sim_N sA hv)
/-- isinstance(e, c) -/
theorem jIsi {y : Str} {c : String} {p p2 : Pos} (hg : Gl X "isinstance") (hm : X.mg "isinstance" = none) (hgc : Gl X y) (hmc : X.mg y = none) (hbc : bootBuiltins y = some (.type c)) (ha : PE X e (rE T fa)) (hn : y ≠ "__name__" := by decide) (hdb : (y == ("__debug__" : Str)) = false := by decide)
    (he : starEach [e, .Name y p2] X.env = (false, eval e X.env) :: starEach [.Name y p2] X.env := by rfl) : PE X (.Call (.Name "isinstance" p) [e, .Name y p2] [] pos) (rE T (eN (gIs c) (aCons fa aNil))) :=
  toE (pe_callB call_isi hg hm boot_isinstance (pa_cons ha (pa_cons (pe_bltn (v := .ty c) hgc hmc hbc rfl hn hdb) pa_nil rfl) he) (by decide) (by decide) he rfl) (sim_isi sE)
/-- f(e, ..) -/
theorem jCall {k : Nat} {x : Str} {ps : List Str} {F : List Dt → Sto → Option (Dt × Sto)} {p : Pos} (c : GCal X.prog X.w X.K X.mg X.base k x ps (SpF T ps.length F)) (hr : Room k X.A) (hg : X.A.guards = some []) (gl : Gl X x) (ha : PA X (e :: es) (rA T fs)) (hdb : (x == ("__debug__" : Str)) = false := by decide)
    (he : starEach (e :: es) X.env = (false, eval e X.env) :: starEach es X.env := by rfl) (hpl : (backTo pos (starEach es X.env)).any (·.1) = false := by rfl) : PE X (.Call (.Name x p) (e :: es) [] pos) (rE T (eN (gF ps.length F) fs)) := toE (pe_g c hr hg gl ha hdb he hpl) (sim_g sA)
theorem jkNil : PK X [] (rA T aNil) := toK pk_nil sim_nil
theorem jkCons {kws : List Keyword} {nm : Option Str} {kpos : Pos} (ha : PE X e (rE T fa)) (hr : PK X kws (rA T fs)) : PK X (⟨nm, e, kpos⟩ :: kws) (rA T (aCons fa fs)) := toK (pk_cons ha hr) (sim_cons sE sA)
theorem jCallK {k : Nat} {x : Str} {ps : List Str} {F : List Dt → Sto → Option (Dt × Sto)} {p : Pos} {kws : List Keyword} {q : List Nat} (c : GCal X.prog X.w X.K X.mg X.base k x ps (SpF T ps.length F)) (hr : Room k X.A) (hg : X.A.guards = some []) (gl : Gl X x) (hk : PK X kws (rA T fs)) (hq : q.Perm (List.range ps.length)) (hdb : (x == ("__debug__" : Str)) = false := by decide)
    (hall : (backToKw pos (keywordEach kws X.env)).all (·.1.isSome) = true := by rfl) (hks : (backToKw pos (keywordEach kws X.env)).filterMap (·.1) = q.map fun i => ps.getD i "" := by rfl)
    (hpl : ((backTo pos (starEach [] X.env)).any (·.1) || (backToKw pos (keywordEach kws X.env)).any (·.1.isNone)) = false := by rfl) : PE X (.Call (.Name x p) [] kws pos) (rE T (eN (gFk ps.length q F) fs)) := toE (pe_gk c hr hg gl hk hq hdb hall hks hpl) (sim_gk sA hq)
theorem jIx (hu : X.A.units + 64 < cLine) (ha : PE X a (rE T fa)) (hb : PE X b (rE T fb)) (hs : PlainIx b := by intro _ _; rfl) : PE X (.Subscript a b pos) (rE T (eOp2 gIx fa fb)) := toE (pe_ix (ix_A hu) ha hb hs) (sim_op sE sE vo_Ix)
theorem joNone : PO X none (rO T oNo) := toO po_none sim_oNo
theorem joSome (h : PE X e (rE T fa)) : PO X (some e) (rO T (oE fa)) := toO (po_some h) (sim_oE sE)
theorem jSl {lo hi : Option Expr} {fl fh : SO} {p2 : Pos} (he : PE X e (rE T fa)) (hl : PO X lo (rO T fl)) (hh : PO X hi (rO T fh)) : PE X (.Subscript e (.Slice lo hi none p2) pos) (rE T (eSl fa fl fh)) := toE (pe_slice sl_any he hl hh) (sim_sl sE sO sO)
theorem jLstV (h : PA X es (rA T fs)) : PE X (.List es pos) (rE T (toV (small fs))) := toE (pe_lst h) (sim_lstV sA)
theorem jLstR (h : PA X es (rA T fs)) : PE X (.List es pos) (rE T (toR (small fs))) := toE (pe_lst h) (sim_lstR sA)
theorem jTup {x1 : Nat} (h : PA X es (rA T fs)) : PE X (.Tuple es x1 pos) (rE T (toT fs)) := toE (pe_tup h) (sim_tup sA)
theorem jDR : PE X (.Dict [] [] pos) (rE T eDR) := toE pe_dnewK sim_dnewR
theorem jFrz (h : PE X e (rE T fa)) : PE X e (rE T (eFrz fa)) := toE h (sim_eFrz sE)
theorem jSS {p p2 q : Pos} (hc : X.calm = true) (hu : X.A.units + 64 < cLine) (hg : Gl X "sorted") (hm : X.mg "sorted" = none) (hg2 : Gl X "set") (hm2 : X.mg "set" = none) (ha : PE X a (rE T fa)) (he : starEach [a] X.env = (false, eval a X.env) :: starEach [] X.env := by rfl)
    (he2 : starEach [.Call (.Name "set" p2) [a] [] q] X.env = (false, eval (.Call (.Name "set" p2) [a] [] q) X.env) :: starEach [] X.env := by rfl) : PE X (.Call (.Name "sorted" p) [.Call (.Name "set" p2) [a] [] q] [] pos) (rE T (eN gSS (aCons fa aNil))) :=
  toE (pe_callB (cr_sortSS hc hu) hg hm boot_sorted (pa_cons (pe_callTy (cr_setS hc) hg2 hm2 boot_set (pa_cons ha pa_nil he) (by decide) (by decide) he rfl) pa_nil he2) (by decide) (by decide) he2 rfl) (sim_ss sE)
theorem jSortK {k : Nat} {c R : Addr} {p0 p1 p2 p3 p4 p5 p6 p7 p8 p9 : Pos} (TB : LamX.TabB X.base X.mg c R) (hcode : X.env.code = .ref c) (hmT : (R, X.env.qual ++ "<lambda>") ∈ T) (huT : ∀ p ∈ T, p.1 = R → p.2 = X.env.qual ++ "<lambda>")
    (hr : Room (k + 2) X.A) (hg : Gl X "sorted") (hm : X.mg "sorted" = none) (hml : X.mg "len" = none) (ha : PE X a (rE T fa)) (hs : starEach [a] X.env = (false, eval a X.env) :: starEach [] X.env := by rfl) :
    PE X (.Call (.Name "sorted" p6) [a] [{ arg := some "key", value := .Lambda (lamP p0) (lamB p1 p2 p3 p4 p5) lamSc p7, pos := p8 }] p9) (rE T (eSortK fa)) := toE (pe_sortK TB hcode hmT huT hr hg hm hml ha hs) (sim_sortK sE)
theorem jJoin {apos : Pos} (ho : PE X o (rE T fa)) (he : PE X e (rE T fb)) (hs : starEach [e] X.env = [(false, eval e X.env)] := by rfl) (hbase : attributeBase o "join" X.env (eval o X.env) = eval o X.env := by rfl) (hline : (apos.endLine == pos.line) = true := by rfl) :
    PE X (.Call (.Attribute o "join" apos) [e] [] pos) (rE T (eM1 gJoin fa fb)) := toE (pe_join ho he hs hbase hline) (sim_join sE sE)
theorem jApp {apos : Pos} (ho : PE X o (rE T fa)) (ha : PA X [e] (rA T fs))
    (hbase : attributeBase o "append" X.env (eval o X.env) = eval o X.env := by rfl)
    (hfew : ((backTo pos (starEach [e] X.env)).all (fun x => !x.1) && (backToKw pos (keywordEach [] X.env)).all (fun x => x.1.isSome) && decide ([e].length + ([] : List Keyword).length + (if ([] : List Keyword).isEmpty then 0 else 1) < 30)) = true := by rfl)
    (hline : (apos.endLine == pos.line) = true := by rfl) (hs : starEach [e] X.env = (false, eval e X.env) :: starEach [] X.env := by rfl) :
    PE X (.Call (.Attribute o "append" apos) [e] [] pos) (rE T (eM isL gApp fa fs)) := toE (pe_bm PySem.F.plainAttrs_list PySem.F.slot_list_append PySem.F.type_list_append mt_append ho ha hbase hfew hline hs rfl) (sim_bmL sE sA vo_append)
theorem jEnds {apos : Pos} (ho : PE X o (rE T fa)) (ha : PA X [e] (rA T fs))
    (hbase : attributeBase o "endswith" X.env (eval o X.env) = eval o X.env := by rfl)
    (hfew : ((backTo pos (starEach [e] X.env)).all (fun x => !x.1) && (backToKw pos (keywordEach [] X.env)).all (fun x => x.1.isSome) && decide ([e].length + ([] : List Keyword).length + (if ([] : List Keyword).isEmpty then 0 else 1) < 30)) = true := by rfl)
    (hline : (apos.endLine == pos.line) = true := by rfl) (hs : starEach [e] X.env = (false, eval e X.env) :: starEach [] X.env := by rfl) :
    PE X (.Call (.Attribute o "endswith" apos) [e] [] pos) (rE T (eM isS gEnds fa fs)) := toE (pe_bm PySem.F.plainAttrs_str PySem.F.slot_str_endswith PySem.F.type_str_endswith mt_endswith ho ha hbase hfew hline hs rfl) (sim_bmS sE sA vo_ends)
/-! what is walked -/
theorem jiL {tg : Expr} (h : PE X e (rE T fa)) : PI X tg e (rI T (iE itL fa)) := toI (pi_list h) (sim_iL sE)
theorem jiS {tg : Expr} (h : PE X e (rE T fa)) : PI X tg e (rI T (iE itS fa)) := toI (pi_str h) (sim_iS sE)
theorem jiR1 {tg : Expr} {p : Pos} (hg : Gl X "range") (hm : X.mg "range" = none) (ha : PA X [a] (rA T fs)) (hs : starEach [a] X.env = [(false, eval a X.env)] := by rfl) : PI X tg (.Call (.Name "range" p) [a] [] pos) (rI T (iR rg1 fs)) := toI (pi_range1 hg hm ha hs) (sim_rg1 sA)
theorem jiR2 {tg : Expr} {p : Pos} (hg : Gl X "range") (hm : X.mg "range" = none) (ha : PA X [a, b] (rA T fs)) (hs : starEach [a, b] X.env = [(false, eval a X.env), (false, eval b X.env)] := by rfl) (hs2 : starEach [b] X.env = [(false, eval b X.env)] := by rfl) :
    PI X tg (.Call (.Name "range" p) [a, b] [] pos) (rI T (iR rg2 fs)) := toI (pi_range2 hg hm ha hs hs2) (sim_rg2 sA)
theorem jiEn {p tpos : Pos} {elts : List Expr} {kk : Nat} (hg : Gl X "enumerate") (hm : X.mg "enumerate" = none) (ha : PA X [e] (rA T fs)) (hs : starEach [e] X.env = [(false, eval e X.env)] := by rfl) :
    PI X (.Tuple elts kk tpos) (.Call (.Name "enumerate" p) [e] [] pos) (rI T (iR en fs)) := toI (pi_enum hg hm ha hs) (sim_enum sA)
/-! comprehensions -/
abbrev blkX (X : Cx) (scope : Scope) (s : Shared) (H : Hp) (C : Addr) (cl : List (Str × Addr)) (fp : List Addr) : Cx := X.blk s H scope (compEnvC scope cl C X.env) fp
theorem jLcV {elt tg iter : Expr} {ifs : List Expr} {scope : Scope} {own : List (Str × Nat)} {g : TG} {k : SG} {fi : SA} {is : List Nat} (hc : X.calm = true) (hN : X.N.Nodup) (hk : SimG T is g k) (hi : PI X tg iter (rI T fi)) (ok : BlkOk X.N X.env.scope scope own)
    (hg : ∀ s H C cl fp, PG (blkX X scope s H C cl fp) tg g) (ht : ∀ s H C cl fp, PTs (blkX X scope s H C cl fp) ifs (rT T ga)) (he : ∀ s H C cl fp, PE (blkX X scope s H C cl fp) elt (rE T fa)) (hz : ∀ i ∈ is, i ∈ own.map (·.2)) (hs : ∀ x, foldedSetIterable iter X.env x = pure x := by intro _; rfl) :
    PE X (.ListComp elt [⟨tg, iter, ifs, 0⟩] scope pos) (rE T (toV (lc fi (own.map (·.2)) k ga fa))) := toE (pe_lc hc hN hi ok hg ht he hs) (sim_lcV sI hk sT sE hz)
theorem jDcV {kx vx tg iter : Expr} {ifs : List Expr} {scope : Scope} {own : List (Str × Nat)} {g : TG} {k : SG} {fi : SA} {is : List Nat} (hc : X.calm = true) (hN : X.N.Nodup) (hk : SimG T is g k) (hi : PI X tg iter (rI T fi)) (ok : BlkOk X.N X.env.scope scope own)
    (hg : ∀ s H C cl fp, PG (blkX X scope s H C cl fp) tg g) (ht : ∀ s H C cl fp, PTs (blkX X scope s H C cl fp) ifs (rT T ga)) (hkx : ∀ s H C cl fp, PE (blkX X scope s H C cl fp) kx (rE T fa)) (hvx : ∀ s H C cl fp, PE (blkX X scope s H C cl fp) vx (rE T fb)) (hz : ∀ i ∈ is, i ∈ own.map (·.2)) (hs : ∀ x, foldedSetIterable iter X.env x = pure x := by intro _; rfl) :
    PE X (.DictComp kx vx [⟨tg, iter, ifs, 0⟩] scope pos) (rE T (dToV (dc fi (own.map (·.2)) k ga fa fb))) := toE (pe_dc hc hN hi ok hg ht hkx hvx hs) (sim_dcV sI hk sT sE sE hz)
/-! statements -/
variable {st : Stmt} {ss : List Stmt} {g k : SS}
theorem jsOne (h : PS X st (rS T g)) : PSs X [st] (rS T g) := pss_one h
theorem jsNil : PSs X [] (rS T sNx) := toSs pss_nil sim_nx
theorem jsCons (h1 : PS X st (rS T g)) (h2 : PSs X ss (rS T k)) : PSs X (st :: ss) (rS T (sSeq g k)) := toSs (pss_cons h1 h2) (sim_seq sS sS)
theorem jsFrz {i : Nat} (h : PSs X ss (rS T g)) : PSs X ss (rS T (sSeq (sFrz i) g)) := toSs h (sim_frz sS)
theorem jsNo : PSs X ss (rS T sNo) := toSs pss_never sim_never
theorem jsSet {i : Nat} {x : Str} {pos' : Pos} (hN : X.N.Nodup) (he : PE X e (rE T fa)) (hi : X.N[i]? = some x := by rfl) (hx : Loc X.env.scope x := by first | exact Or.inl rfl | exact Or.inr rfl) (hs : swapsWith e (some (.Name x pos')) pos.line X.env = pure false := by rfl) (hf : X.fn x = true ∨ X.env.scope.names.lookup x = some .local := by first | exact .inl rfl | exact .inr rfl) :
    PS X (.Assign [.Name x pos'] e pos) (rS T (sSet i fa)) := toS (ps_set hN hi hx he hs hf) (sim_set sE)
theorem jsSetLc {i : Nat} {y : Str} {py lpos : Pos} {elt tg iter : Expr} {ifs : List Expr} {scope : Scope} {own : List (Str × Nat)} {g : TG} {k : SG} {fi : SA} {is : List Nat} (hc : X.calm = true) (hN : X.N.Nodup) (hk : SimG T is g k)
    (hsw : swapsWith (.ListComp elt [⟨tg, iter, ifs, 0⟩] scope lpos) (some (.Name y py)) pos.line X.env = pure true) (hi : PI X tg iter (rI T fi)) (ok : BlkOk X.N X.env.scope scope own)
    (hg : ∀ s H C cl fp, PG (blkX X scope s H C cl fp) tg g) (ht : ∀ s H C cl fp, PTs (blkX X scope s H C cl fp) ifs (rT T ga)) (he : ∀ s H C cl fp, PE (blkX X scope s H C cl fp) elt (rE T fa)) (hz : ∀ i ∈ is, i ∈ own.map (·.2)) (hy : X.N[i]? = some y := by rfl) (hyl : X.env.scope.names.lookup y = some .local := by rfl) (hs : ∀ x, foldedSetIterable iter X.env x = pure x := by intro _; rfl) :
    PS X (.Assign [.Name y py] (.ListComp elt [⟨tg, iter, ifs, 0⟩] scope lpos) pos) (rS T (sSet i (toV (lc fi (own.map (·.2)) k ga fa)))) := toS (ps_setLc hc hN hy hyl hsw hi ok hg ht he hs) (sim_set (sim_lcV sI hk sT sE hz))
theorem jsRet (he : PE X e (rE T fa)) : PS X (.Return (some e) pos) (rS T (sRet fa)) := toS (ps_ret he) (sim_ret sE)
theorem jsRetN : PS X (.Return none pos) (rS T sRetN) := toS ps_retN sim_retN
theorem jsEx (he : PE X e (rE T fa)) (hs : swapsWith e none pos.line X.env = pure false := by rfl) : PS X (.Expr e pos) (rS T (sEx fa)) := toS (ps_expr he hs) (sim_ex sE)
theorem jsIf {p q : List Stmt} (hc : PT X c (rT T ga)) (ha : PSs X p (rS T g)) (hb : PSs X q (rS T k)) : PS X (.If c p q pos) (rS T (sIf ga g k)) := toS (ps_if hc ha hb) (sim_ifS sT sS sS)
theorem jsFor {tg iter : Expr} {body : List Stmt} {tgt : TG} {kt : SG} {fi : SA} {is : List Nat} (hp : PassesOwn (model X.prog X.w) X.A X.env X.xe) (hc : X.calm = true) (hk : SimG T is tgt kt) (hi : PI X tg iter (rI T fi)) (hg : PG X tg tgt) (hb : PSs X body (rS T g)) (hs : ∀ x, foldedSetIterable iter X.env x = pure x := by intro _; rfl) :
    PS X (.For tg iter body [] pos) (rS T (sFor fi kt g)) := toS (ps_for hp hc hi hg hb hs) (sim_for sI hk sS)
theorem jsDP {value i : Expr} {pos' : Pos} (hu : X.A.units + 64 < cLine) (ho : PE X o (rE T fa)) (hi : PE X i (rE T fb)) (hv : PE X value (rE T fc)) (hs : swapsWith value (some (.Subscript o i pos')) pos.line X.env = pure false := by rfl) : PS X (.Assign [.Subscript o i pos'] value pos) (rS T (sDP fa fb fc)) :=
  toS (ps_dput (by omega) ho hi hv hs) (sim_dput sE sE sE)
/-- xs[i] = v of a live list -/
def sLP (fd fk fv : SE) : SS := fun r st => (fv r st).bind fun x => (fd r x.2).bind fun y => (fk r y.2).bind fun z => match y.1, z.1 with
  | .ref i, .int k => (match z.2[i]? with
    | some (some (.lst ds)) => (ixN ds.length k).map fun j => .nx r (z.2.set i (some (.lst (ds.set j x.1))))
    | _ => none)
  | _, _ => none
theorem sim_lput {td ty tv : TE} {fd fk fv : SE} (hd : SimE T td fd) (hk : SimE T ty fk) (hv : SimE T tv fv) : SimS T (tAsg tv (gSub td ty rSetL)) (sLP fd fk fv) := by
  intro Z L st H s r o D w e h q
  obtain ⟨⟨dv, st1⟩, h1, h⟩ := bind_some' h
  obtain ⟨⟨dd, st2⟩, h2, h⟩ := bind_some' h
  obtain ⟨⟨dk, st3⟩, h3, h⟩ := bind_some' h
  refine hv Z L st H s r dv st1 _ w e h1 fun v H1 L1 f1 p1 => ?_
  refine hd Z L1 st1 H1 s r dd st2 _ f1.wd (e.keep f1) h2 fun x H2 L2 f2 p2 => ?_
  refine hk Z L2 st2 H2 s r dk st3 _ f2.wd ((e.keep f1).keep f2) h3 fun y H3 L3 f3 p3 => ?_
  dsimp only at h
  split at h
  · rename_i i k _
    split at h
    · rename_i ds hi
      obtain ⟨j, e1, e2⟩ := Option.map_eq_some_iff.mp h
      cases e2
      have p2' := p2.keep f3
      unfold Den at p2'
      obtain ⟨a, ia, rfl⟩ := p2'
      obtain ⟨nz, oo, eo, vs, rfl, t⟩ := f3.wd.own i a _ ia hi
      refine ⟨a, vs, k, j, rfl, den_int p3, eo, by rw [← t.len]; exact e1, ?_⟩
      have af := Afz.wr (o := .lst (vs.set j v)) (d' := .lst (ds.set j dv)) f3.wd ia hi ⟨_, rfl, t.set ((p1.keep f2).keep f3) j⟩
      exact q s _ L3 (f1.trans (f2.trans (f3.trans af))) ((((e.keep f1).keep f2).keep f3).keep af)
    · cases h
  · cases h
theorem jsLP {value i : Expr} {pos' : Pos} (ho : PE X o (rE T fa)) (hi : PE X i (rE T fb)) (hv : PE X value (rE T fc))
    (ha : ∀ v, assign (.Subscript o i pos') X.env v = (do
      let ov ← holding [v] (eval o X.env)
      let iv ← holding [v, ov] (eval i X.env)
      standAt pos'
      holding [v, ov, iv] (setItem ov iv v)
      release [v, ov, iv] []) := by intro _; rfl)
    (hs : swapsWithSole [.Subscript o i pos'] value pos.line X.env = pure false := by rfl) (hw : swappedStores [.Subscript o i pos'] value X.env = pure none := by rfl) (h1 : (assignEach [.Subscript o i pos'] X.env).map (·.2) = [assign (.Subscript o i pos') X.env] := by rfl) :
    PS X (.Assign [.Subscript o i pos'] value pos) (rS T (sLP fa fb fc)) := toS (ps_asg hv (pg_sub ho hi set_list ha) hs hw h1) (sim_lput sE sE sE)
end
end HB

set_option Elab.async false
set_option linter.all false
set_option maxRecDepth 100000
set_option maxHeartbeats 1000000
/-! HB, part q: defs by their derivations; the law's def; the head's hook with tables of code objects. -/
namespace HB
open PySem PySem.Spec PyProof.Rows L2

/-! ### calls by position alone -/
structure GP (P : Program) (w : World) (K : PySem.W.Frag) (mg : Str → Option Value) (base : Heap) (k : Nat) (x : Str) (ps : List Str) (sp : Sp) : Prop where
  ex : ∃ (f : Addr) (fd : FuncData), mg x = some (.ref f) ∧ PySem.W.keepIn K (.ref f) = true ∧ GFn P w K mg base k f fd ps sp ∧ ∀ (s : Shared) (us : List Value), us.length = ps.length → BindsTo s fd ⟨us, []⟩ (ps.zip us)
theorem jCallP {T : List (Addr × Str)} {X : Cx} {e : Expr} {es : List Expr} {fs : SA} {pos p : Pos} {k : Nat} {x : Str} {ps : List Str} {F : List Dt → Sto → Option (Dt × Sto)} (c : GP X.prog X.w X.K X.mg X.base k x ps (SpF T ps.length F)) (hr : Room k X.A) (hg : X.A.guards = some []) (gl : Gl X x) (ha : PA X (e :: es) (rA T fs)) (hdb : (x == ("__debug__" : Str)) = false := by decide)
    (he : starEach (e :: es) X.env = (false, eval e X.env) :: starEach es X.env := by rfl) (hpl : (backTo pos (starEach es X.env)).any (·.1) = false := by rfl) : PE X (.Call (.Name x p) (e :: es) [] pos) (rE T (eN (gF ps.length F) fs)) := by
  obtain ⟨f, fd, hm, hk, G, hb⟩ := c.ex
  have z : PE X (.Call (.Name x p) (e :: es) [] pos) (tG ps.length (SpF T ps.length F) (rA T fs)) := by
    constructor
    intro pins s s1 H Q I h
    refine wpAny_Call_Name_kw (ld_glob I gl hm ?_ hdb)
    refine PySem.W.callWith_K (h₀ := X.base) I.ok.mod.kin hk (thn (ha.run pos pins s s1 H _ I h) fun us s2 ⟨vs, H1, I1, r, hl, q⟩ => ⟨I1.kIn, ?_⟩) he hpl
    have hl' : us.length = ps.length := by rw [← r.length]; exact hl
    exact run_g G hr hg (hb s2 us hl') hl' I1 r q
  exact toE z (sim_g sA)
section
variable {T : List (Addr × Str)} {P : Program} {w : World} {K : PySem.W.Frag} {mg : Str → Option Value} {base : Heap} {x : Str} {args : Arguments} {body : List Stmt} {sc : Scope} {f : Addr} {fd : FuncData} {N ps : List Str} {k : Nat}
/-- a def by its derivation -/
theorem gfnJ {g : SS} (F : FunD K x x args body sc [] [] f fd) (S : FnScope N ps sc)
    (hb : ∀ A outer s H, Room k (gX P w K mg base N x sc f fd.code A outer s H).A → (gX P w K mg base N x sc f fd.code A outer s H).A.guards = some [] → PSs (gX P w K mg base N x sc f fd.code A outer s H) body (rS T g)) :
    GFn P w K mg base (k + 1) f fd ps (SpF T ps.length (bodyF g N.length)) := gfn F S hb sS
/-- a weaker promise -/
theorem GFn.weak {n : Nat} {F G : List Dt → Sto → Option (Dt × Sto)} (h : GFn P w K mg base k f fd ps (SpF T n F)) (hi : ∀ ds st x, G ds st = some x → F ds st = some x) : GFn P w K mg base k f fd ps (SpF T n G) := by
  refine h.imp fun vs H Q => ?_
  rintro ⟨Z, L, st, ds, d, st', hl, wd, dn, hF, q⟩
  exact ⟨Z, L, st, ds, d, st', hl, wd, dn, hi _ _ _ hF, q⟩
theorem liftV_mono {f g : List Dt → Option Dt} (h : ∀ ds d, f ds = some d → g ds = some d) (ds : List Dt) (st : Sto) (x : Dt × Sto) (e : liftV f ds st = some x) : liftV g ds st = some x := by
  unfold liftV at e ⊢
  split at e
  · rename_i hn
    obtain ⟨d, e1, e2⟩ := Option.map_eq_some_iff.mp e
    rw [if_pos hn, h ds d e1]
    exact congrArg some e2
  · cases e
theorem liftR_mono {f g : List Dt → Option Dt} (h : ∀ ds d, f ds = some d → g ds = some d) (ds : List Dt) (st : Sto) (x : Dt × Sto) (e : liftR f ds st = some x) : liftR g ds st = some x := by
  unfold liftR at e ⊢
  split at e
  · rename_i hn
    obtain ⟨d, e1, e2⟩ := Option.map_eq_some_iff.mp e
    rw [if_pos hn, h ds d e1]
    exact congrArg some e2
  · cases e
theorem liftE_mono {f g : Dt → List Dt → Option (Dt × Dt)} (h : ∀ c ds d, f c ds = some d → g c ds = some d) (ds : List Dt) (st : Sto) (x : Dt × Sto) (e : liftE f ds st = some x) : liftE g ds st = some x := by
  unfold liftE at e ⊢
  split at e
  · split at e
    · rename_i hn
      rw [if_pos hn]
      split at e
      · rename_i c hc
        split at e
        · rename_i hn2
          obtain ⟨d, e1, e2⟩ := Option.map_eq_some_iff.mp e
          simp only [hc, if_pos hn2, h _ _ d e1]
          exact congrArg some e2
        · cases e
      · cases e
    · cases e
  · cases e
theorem GFn.byV {n : Nat} {F : List Dt → Sto → Option (Dt × Sto)} {m : List Dt → Option Dt} (h : GFn P w K mg base k f fd ps (SpF T n F)) (hi : ∀ ds d, m ds = some d → fV F ds = some d) : GFn P w K mg base k f fd ps (SpF T n (liftV m)) := (gfn_V h).weak (liftV_mono hi)
theorem GFn.byR {n : Nat} {F : List Dt → Sto → Option (Dt × Sto)} {m : List Dt → Option Dt} (h : GFn P w K mg base k f fd ps (SpF T n F)) (hi : ∀ ds d, m ds = some d → fR F ds = some d) : GFn P w K mg base k f fd ps (SpF T n (liftR m)) := (gfn_R h).weak (liftR_mono hi)
theorem GFn.byE {n : Nat} {F : List Dt → Sto → Option (Dt × Sto)} {m : Dt → List Dt → Option (Dt × Dt)} (h : GFn P w K mg base k f fd ps (SpF T n F)) (hi : ∀ c ds d, m c ds = some d → fE F c ds = some d) : GFn P w K mg base k f fd ps (SpF T n (liftE m)) := (gfn_E h).weak (liftE_mono hi)
theorem GP.of {sp : Sp} (F : FunD K x x args body sc [] [] f fd) (hm : mg x = some (.ref f)) (G : GFn P w K mg base k f fd ps sp)
    (h : ∀ (kV doc pm : Value) (an : Option Addr) (cdv ct : Value) (us : List Value), us.length = ps.length → bindArgs (PySem.W.fnOf x x args body sc .none kV doc pm an cdv ct) ⟨us, []⟩ = pure (ps.zip us)) : GP P w K mg base k x ps sp :=
  ⟨f, fd, hm, F.kp, G, fun s us hl => FunD.bindsA F h s us hl⟩
theorem perm_one {p : List Nat} (h : p.Perm [0]) : p = [0] := List.perm_singleton.mp h
theorem perm_two {p : List Nat} (h : p.Perm [0, 1]) : p = [0, 1] ∨ p = [1, 0] := by
  have hl := h.length_eq
  match p, hl with
  | [a, b], _ =>
    have nd : [a, b].Nodup := h.nodup_iff.mpr (by decide)
    have ha : a ∈ [0, 1] := h.mem_iff.mp (by simp)
    have hb : b ∈ [0, 1] := h.mem_iff.mp (by simp)
    simp at nd ha hb
    rcases ha with rfl | rfl <;> rcases hb with rfl | rfl <;> first | exact absurd rfl nd | simp
theorem GCal.of {sp : Sp} (F : FunD K x x args body sc [] [] f fd) (hm : mg x = some (.ref f)) (G : GFn P w K mg base k f fd ps sp)
    (h : ∀ (kV doc pm : Value) (an : Option Addr) (cdv ct : Value) (us : List Value), us.length = ps.length → bindArgs (PySem.W.fnOf x x args body sc .none kV doc pm an cdv ct) ⟨us, []⟩ = pure (ps.zip us))
    (h2 : ∀ (kV doc pm : Value) (an : Option Addr) (cdv ct : Value) (p : List Nat) (ws : List Value), ws.length = ps.length → p.Perm (List.range ps.length) → bindArgs (PySem.W.fnOf x x args body sc .none kV doc pm an cdv ct) ⟨[], (p.map fun i => ps.getD i "").zip (p.map fun i => ws.getD i .none)⟩ = pure (ps.zip ws)) : GCal P w K mg base k x ps sp := by
  refine ⟨f, fd, hm, F.kp, G, fun s us hl => FunD.bindsA F h s us hl, fun s p ws hl hp => ?_⟩
  obtain ⟨oc, od, dV, kV, doc, pm, an, cdv, ct, osl, rfl, lk, hcd, hD, hK⟩ := F.ex
  rcases hD with ⟨_, rfl⟩ | ⟨e, _⟩
  · exact .of_eq (h2 kV doc pm an cdv ct p ws hl hp)
  · exact absurd rfl e
/-! ### the law's def -/
/-- what is asked of the law's plain function: ns, the script's numbers -/
def SpL (T : List (Addr × Str)) (K : PySem.W.Frag) (ok : List Int → Prop) : Sp := fun vs H Q _ => ∃ (a : Addr) (ns : List Int), vs = [.ref a] ∧ LamX.Tabs T H ∧ SqL K H a (ns.map V.int) ∧ ok ns ∧ ∀ H', Q (.bl true) H'
/-- the script's first numbers -/
def eScr (n : Int) (ns : List Int) : SE := fun _ st => some (.lst (cutL (ns.map Dt.int) none (some n)), st)
theorem dens_ints {L : List Addr} {B : Addr → Prop} {H : Hp} : ∀ xs : List Int, Dens L B H (xs.map Dt.int) (xs.map V.int)
  | [] => .nil
  | _ :: xs => .cons Den.int (dens_ints xs)
theorem gfnL {g : List Int → SS} {ok : List Int → Prop} {n : Int} {t : TE → TS} (F : FunD K x x args body sc [] [] f fd) (S : FnScope N ["_law_script"] sc)
    (hb : ∀ A outer s H, Room k (gX P w K mg base N x sc f fd.code A outer s H).A → (gX P w K mg base N x sc f fd.code A outer s H).A.guards = some [] → PSs (gX P w K mg base N x sc f fd.code A outer s H) body (t (tSl (rSlA K) (tVar 0) tNoPart (tPart (tC (.int n))))))
    (hs : ∀ ns te Z L st H s r o D, Wd T Z L st H → EnvOk L (Bad Z L st) H r s → EAt T Z L st H s r te (eScr n ns) → g ns r st = some o → OuOk T Z L st H D o → t te D s H)
    (hok : ∀ ns, ok ns → ∃ st', g ns (List.replicate N.length none) [] = some (.rt (.bl true) st')) :
    GFn P w K mg base (k + 1) f fd ["_law_script"] (SpL T K ok) := by
  obtain ⟨oc, od, dV, kV, doc, pm, an, cdv, ct, osl, rfl, lk, hcd, _, _⟩ := F.ex
  constructor
  intro A outer s H binds us vs Q hr hg e0 hbt hlu rv hsp
  obtain ⟨a, ns, rfl, tabs, hS, hk, q⟩ := hsp
  have keeps : ∀ b o, base.get? b = some o → s.heap.get? b = some o := fun b o e => (e0.bs b o e).1
  have inK : K.In s.heap := e0.mod.kin.keeps keeps
  have places : ∀ y ∈ (["_law_script"] : List Str).zip us, sc.names.lookup y.1 = some .local ∨ (sc.names.lookup y.1 = some .cell ∧ ((cellsFrom (s.heap.objs.size + 1) sc.names []).lookup y.1).isSome = true) := by
    intro y hy
    cases S.par y.1 (List.of_mem_zip (a := y.1) (b := y.2) hy).1 with
    | inl z => exact .inl z
    | inr z => exact .inr ⟨z, PySem.W.cellsFrom_some _ _ _ (.inl z)⟩
  refine codeAny_call_function hr.depth (inK _ _ lk) rfl S.co S.gen rfl (PySem.W.codeRec_of inK hcd) (hbt _ _ _ _ ?_)
  refine wpAny_newFunctionEnv_cells S.kind places fun env he s1 ic => ?_
  subst he
  refine ⟨(e0.mod.nolimit.keeps keeps).keeps ic.toInCall.keep, codeAny_func ?_⟩
  have I : Inv (cxOf CX0 P w K mg base N x sc f cdv A outer s H E0) [] (L2.start N [.ref a]) H s1 := inv_start S hr.hd e0 rfl rv ic
  have ht := hb A outer s H (hr.deeper _) hg
  obtain ⟨st', a1⟩ := hok ns hk
  have hN : 1 ≤ N.length := by
    have := congrArg List.length S.pre
    rw [List.length_take] at this
    simp at this
    omega
  have w0 : Wd T (fun _ => False) [] [] H := ⟨tabs, rfl, fun i j b d e h => by simp at h, fun i b d h => by simp at h, fun b z => z.elim⟩
  have ev : EnvOk [] (Bad (fun _ => False) [] []) H (List.replicate N.length none) (L2.start N [.ref a]) := by
    refine ⟨by unfold L2.start; simp; omega, fun i d e => ?_⟩
    rw [List.getElem?_replicate] at e
    split at e <;> cases e
  have reading : t (tSl (rSlA K) (tVar 0) tNoPart (tPart (tC (.int n)))) { nx := fun _ H' => Q .non H', rt := Q } (L2.start N [.ref a]) H := by
    refine hs ns _ _ _ _ _ _ _ _ _ w0 ev (fun d st2 Q2 hd q2 => ?_) a1 fun v H' L' f p => ?_
    · cases hd
      refine ⟨.ref a, rfl, n, rfl, .inl ⟨a, ns.map V.int, rfl, hS, fun p np => ?_⟩⟩
      refine q2 _ _ [] (.new w0 np) (.newL w0 np ?_)
      show Dens _ _ _ (cutL (ns.map Dt.int) none (some n)) (cutV (ns.map V.int) none (some n))
      unfold cutL cutV
      rw [List.length_map, List.length_map]
      exact ((dens_ints ns).drop _).take _
    · rw [den_bl p]; exact q H'
  refine wpAny_mono (ht.nox.run [] s1 _ H _ I reading) (fun fl s2 hq => ?_) fun _ _ hx => hx
  match fl, hq with
  | .ret u, ⟨v, _, H', J, rv', qv⟩ => exact ⟨v, H', J.os, J.bare, J.base, J.hok, rv', qv⟩
  | .next, ⟨_, H', J, qv⟩ => exact ⟨.non, H', J.os, J.bare, J.base, J.hok, rfl, qv⟩
  | .brk, ⟨_, _, _, qv⟩ => exact False.elim qv
  | .cont, ⟨_, _, _, qv⟩ => exact False.elim qv
end
end HB

set_option Elab.async false
set_option linter.all false
set_option maxRecDepth 100000
set_option maxHeartbeats 1000000
/-! HB, part r: the head's hook with tables of code objects; the end over it. -/
namespace HB
open PySem PySem.Spec PyProof.Rows L2

def tabAt (g : Addr → Option Obj) (R : Addr) : Bool := match g R with
  | some ⟨.none, none, .fields ps, sl⟩ => decide (ps.size = 0) && decide (sl.size = 0)
  | _ => false
def isStrV : Value → Bool
  | .str _ _ => true
  | _ => false
def isIntV : Value → Bool
  | .int _ _ => true
  | _ => false
def isBoolV : Value → Bool
  | .bool _ => true
  | _ => false
def hdOk (c R : Addr) (cls : Value) (vs : Array Value) : Bool :=
  decide (cls = .type "code") && (isStrV (vs.getD 18 .none) && (isIntV (vs.getD 7 .none) && (isBoolV (vs.getD 9 .none) && (isIntV (vs.getD 10 .none) && decide (c ≠ R)))))
def tabOk (g : Addr → Option Obj) (K : PySem.W.Frag) (x : Str) : Bool := match K.lookup (He.ga K x) with
  | some ⟨_, _, .func fd, _⟩ => (match fd.code with
    | .ref c => (match g c with
      | some ⟨cls, _, .fields vs, _⟩ => (match (vs[11]? : Option Value) with
        | some (.ref R) => (K.lookup R).isNone && (tabAt g R && hdOk c R cls vs)
        | _ => false)
      | _ => false)
    | _ => false)
  | _ => false
/-- the def x makes lambdas: c its code object, R the table -/
structure TabD (K : PySem.W.Frag) (h : Heap) (x : Str) (c R : Addr) : Prop where
  fn : ∃ oc od fd osl, K.lookup (He.ga K x) = some ⟨oc, od, .func fd, osl⟩ ∧ fd.code = .ref c
  no : K.lookup R = none
  tab : h.get? R = some tabO
  hd : PySem.W.CodeHd h c R
theorem tabAt_ok {h : Heap} {R : Addr} (e : tabAt h.get? R = true) : h.get? R = some tabO := by
  unfold tabAt at e
  split at e
  · rename_i ps sl q
    rw [Bool.and_eq_true, decide_eq_true_eq, decide_eq_true_eq] at e
    rw [q, Array.size_eq_zero_iff.mp e.1, Array.size_eq_zero_iff.mp e.2]
  · cases e
theorem str_of {v : Value} (h : isStrV v = true) : ∃ x t, v = .str x t := by
  cases v <;> first | exact ⟨_, _, rfl⟩ | cases h
theorem int_of {v : Value} (h : isIntV v = true) : ∃ x t, v = .int x t := by
  cases v <;> first | exact ⟨_, _, rfl⟩ | cases h
theorem bool_of {v : Value} (h : isBoolV v = true) : ∃ x, v = .bool x := by
  cases v <;> first | exact ⟨_, rfl⟩ | cases h
theorem tabOk_ok {h : Heap} {K : PySem.W.Frag} {x : Str} (e : tabOk h.get? K x = true) : ∃ c R, TabD K h x c R := by
  unfold tabOk at e
  split at e
  · rename_i oc od fd osl h1
    split at e
    · rename_i c h2
      split at e
      · rename_i cls od2 vs osl2 h3
        split at e
        · rename_i R h4
          simp only [Bool.and_eq_true] at e
          obtain ⟨e1, e2, e3⟩ := e
          unfold hdOk at e3
          simp only [Bool.and_eq_true, decide_eq_true_eq] at e3
          obtain ⟨a1, a2, a3, a4, a5, a6⟩ := e3
          obtain ⟨z1, t1, b1⟩ := str_of a2
          obtain ⟨z2, t2, b2⟩ := int_of a3
          obtain ⟨z3, b3⟩ := bool_of a4
          obtain ⟨z4, t4, b4⟩ := int_of a5
          refine ⟨c, R, ⟨oc, od, fd, osl, h1, h2⟩, Option.isNone_iff_eq_none.mp e1, tabAt_ok e2, _, vs, z1, t1, z2, t2, z3, z4, t4, h3, a1, rfl, h4, ?_, b1, b2, b3, b4, a6⟩
          rw [Array.getD_eq_getD_getElem?, h4]; rfl
        · cases e
      · cases e
    · cases e
  · cases e
def hookT (n : Nat) (fa : List He.Fa) (fn : List He.DefD) (ls : List Str) : PySem.W.Hook where
  α := He.AlD × Bool
  obs := fun s => (He.obsDG n fa fn s.heap.get?, ls.all (tabOk s.heap.get? (He.frG s.heap.get? (He.asD s.heap.get? n))))
  val := fun _ => (He.valD fn, true)
  says := fun _ h => ∃ K : PySem.W.Frag, K.In h ∧ He.SaysD fa fn K ∧ ∀ x ∈ ls, ∃ c R, TabD K h x c R
  of := fun _ s e => ⟨He.frG s.heap.get? (He.asD s.heap.get? n), He.frG_in, congrArg (fun z : He.AlD × Bool => z.1) e, fun x hx => tabOk_ok (List.all_eq_true.mp (congrArg (fun z : He.AlD × Bool => z.2) e) x hx)⟩
  keeps := fun _ _ _ ⟨K, hK, c, t⟩ k => ⟨K, PySem.W.Frag.In.keeps hK k, c, fun x hx => let ⟨a, R, d⟩ := t x hx; ⟨a, R, d.fn, d.no, k _ _ d.tab, d.hd.keeps k⟩⟩
def obT (n : Nat) (fa : List He.Fa) (fn : List He.DefD) (ls : List Str) (g : Addr → Option Obj) : He.AlD × Bool := (He.obsDG n fa fn g, ls.all (tabOk g (He.frG g (He.asD g n))))
theorem obT_eq {n : Nat} {fa : List He.Fa} {fn : List He.DefD} {ls : List Str} {g : Addr → Option Obj} {s : Shared} (h : ∀ a, g a = s.heap.get? a) : obT n fa fn ls g = (hookT n fa fn ls).obs s := by
  have e : g = s.heap.get? := funext h
  rw [e]; rfl
theorem walk_goE {l : PySem.W.OpenLaw} {n k : Nat} {q : Program} {loose : List Str} {XP : (Str → Option Value) → Heap → Prop} {YP : World → Heap → Prop} {d : DefRec} {x : Str}
    (hn : l.most = some n) (hn2 : n ≤ sizeLine) (hdf : d.params.defaults = []) (hr : Room k callerA)
    (F : ∀ (w : World) (mg : Str → Option Value) (fa : Addr) (h : Heap), YP w h → h.Ns mainGlobals mg → mg d.name = some (.ref fa) → ∃ K : PySem.W.Frag, K.In h ∧ LawAt l w K k n x mg fa h) :
    PySem.W.WalkO q loose XP YP l.row.toRowW d [] (fun f vs => PySem.call f vs) := by
  refine Att.attach_callB hn hdf fun w s₀ s₁ mg mb fa o pm cd doc a vs ns G Y ho hd hcd hmg hobj hints hlen hbits hg => ?_
  obtain ⟨K, KX, fd, cs, sp, hT, nT, C, hb, hsp, hF⟩ := F w mg fa _ Y G.T.g hmg
  exact law_go KX G.T.g G.T.b G.T.builtins G.T.nolimit hg hT nT C G.T.bmain hobj hints (Nat.le_trans hlen hn2) hr hF hb fun H hH hS => hsp H a ns hlen hbits hH hS
end HB

set_option Elab.async false
set_option linter.all false
set_option maxRecDepth 100000
set_option maxHeartbeats 1000000
/-! HB, part s: more of the rules, as the printed derivations use them. -/
namespace HB
open PySem PySem.Spec PyProof.Rows L2

abbrev cT : Int → Int → Bool := fun _ _ => true
def cMul (i j : Int) : Bool := decide ((-(2 ^ 64) < i ∧ i < 2 ^ 64) ∨ (-(2 ^ 64) < j ∧ j < 2 ^ 64))
def cDiv (_ j : Int) : Bool := decide (0 < j ∧ j < 1073741824)
def cMod (_ j : Int) : Bool := decide (0 < j)
def cPow (i j : Int) : Bool := decide (0 ≤ j ∧ (Builtin.Int.intBits i : Int) * j ≤ 2 ^ 27)
def gMin : Sto → Dt → Dt → Option (Dt × Sto) := gI cT fun i j => i - j
def gMul : Sto → Dt → Dt → Option (Dt × Sto) := gI cMul fun i j => i * j
def gDiv : Sto → Dt → Dt → Option (Dt × Sto) := gI cDiv fun i j => i / j
def gMod : Sto → Dt → Dt → Option (Dt × Sto) := gI cMod fun i j => i % j
def gPow : Sto → Dt → Dt → Option (Dt × Sto) := gI cPow fun i j => i ^ j.toNat
def gLt : Sto → Dt → Dt → Option (Dt × Sto) := gIb fun i j => decide (i < j)
def gGt : Sto → Dt → Dt → Option (Dt × Sto) := gIb fun i j => decide (j < i)
def gGe : Sto → Dt → Dt → Option (Dt × Sto) := gIb fun i j => decide (j ≤ i)
theorem cMul_ok {i j : Int} (h : cMul i j = true) : CMul i j := by unfold cMul at h; simp only [decide_eq_true_eq] at h; exact h
theorem cDiv_ok {i j : Int} (h : cDiv i j = true) : CDiv i j := by unfold cDiv at h; simp only [decide_eq_true_eq] at h; exact h
theorem cMod_ok {i j : Int} (h : cMod i j = true) : 0 < j := by unfold cMod at h; simp only [decide_eq_true_eq] at h; exact h
theorem cPow_ok {i j : Int} (h : cPow i j = true) : CPowW i j := by unfold cPow at h; simp only [decide_eq_true_eq] at h; exact h
section
variable {T : List (Addr × Str)} {X : Cx} {a b c e o : Expr} {es rest : List Expr} {fa fb fc : SE} {ga gb : ST} {fs : SA} {pos : Pos}
theorem jAdd (ha : PE X a (rE T fa)) (hb : PE X b (rE T fb)) : PE X (.BinOp a .Add b pos) (rE T (eOp2 gAdd fa fb)) := jOp op_Add vo_Add ha hb
theorem jMin (ha : PE X a (rE T fa)) (hb : PE X b (rE T fb)) : PE X (.BinOp a .Sub b pos) (rE T (eOp2 gMin fa fb)) := jOp op_sub vo_I0 ha hb
theorem jMul (ha : PE X a (rE T fa)) (hb : PE X b (rE T fb)) : PE X (.BinOp a .Mult b pos) (rE T (eOp2 gMul fa fb)) := jOp op_mul (vo_I fun i j h => cMul_ok h) ha hb
theorem jDiv (ha : PE X a (rE T fa)) (hb : PE X b (rE T fb)) : PE X (.BinOp a .FloorDiv b pos) (rE T (eOp2 gDiv fa fb)) := jOp op_fdiv (vo_I fun i j h => cDiv_ok h) ha hb
theorem jMod (ha : PE X a (rE T fa)) (hb : PE X b (rE T fb)) : PE X (.BinOp a .Mod b pos) (rE T (eOp2 gMod fa fb)) := jOp op_mod (vo_I fun i j h => cMod_ok h) ha hb
theorem jPow (ha : PE X a (rE T fa)) (hb : PE X b (rE T fb)) : PE X (.BinOp a .Pow b pos) (rE T (eOp2 gPow fa fb)) := jOp op_powW (vo_I fun i j h => cPow_ok h) ha hb
def eNeg (f : SE) : SE := fun r st => (f r st).bind fun x => match x.1 with
  | .int i => some (.int (-i), x.2)
  | _ => none
theorem jNeg (ha : PE X a (rE T fa)) : PE X (.UnaryOp .USub a pos) (rE T (eNeg fa)) := by
  refine toE (pe_un un_neg ha) fun Z L st H s r d st' Q w e h q => ?_
  obtain ⟨⟨dx, st1⟩, h1, h⟩ := bind_some' h
  refine sE Z L st H s r dx _ _ w e h1 fun x H1 L1 f1 p1 => ?_
  cases dx with
  | int i => cases h; exact ⟨i, den_int p1, q _ H1 L1 f1 Den.int⟩
  | _ => cases h
theorem vLt : VO2 T (rI0 fun i j => .bl (decide (i < j))) gLt := vo_Ib
theorem vGt : VO2 T (rI0 fun i j => .bl (decide (j < i))) gGt := vo_Ib
theorem vGe : VO2 T (rI0 fun i j => .bl (decide (j ≤ i))) gGe := vo_Ib
theorem jChain {op op' : CmpOp} {r r' : R2} {g g' : Sto → Dt → Dt → Option (Dt × Sto)} (ho : OpR X (compareOp op) r) (hv : VO2 T r g) (ho' : OpR X (compareOp op') r') (hv' : VO2 T r' g') (ha : PE X a (rE T fa)) (hb : PE X b (rE T fb)) (hc : PE X c (rE T fc))
    (hm : lastMarks [op, op'] [b, c] = false := by with_unfolding_all rfl) : PE X (.Compare a [op, op'] [b, c] pos) (rE T (eChain g g' fa fb fc)) := toE (pe_chain ho ho' ha hb hc hm) (sim_chain hv hv' sE sE sE)
theorem jtChain {op op' : CmpOp} {r r' : R2} {g g' : Sto → Dt → Dt → Option (Dt × Sto)} (ho : OpR X (compareOp op) r) (hv : VO2 T r g) (ho' : OpR X (compareOp op') r') (hv' : VO2 T r' g') (ha : PE X a (rE T fa)) (hb : PE X b (rE T fb)) (hc : PE X c (rE T fc))
    (hm : lastMarks [op, op'] [b, c] = false := by with_unfolding_all rfl) : PT X (.Compare a [op, op'] [b, c] pos) (rT T (cB (eChain g g' fa fb fc))) := toTT (pt_chain ho ho' ha hb hc hm) (sim_cBT (sim_chain hv hv' sE sE sE))
theorem jg (i : Nat) {x : Str} (hN : X.N.Nodup) (hi : X.N[i]? = some x := by rfl) (hx : Loc X.env.scope x := by first | exact Or.inl rfl | exact Or.inr rfl) (hf : X.fn x = true ∨ X.env.scope.names.lookup x = some .local := by first | exact .inl rfl | exact .inr rfl) : PG X (.Name x pos) (gName i) := pg_name hN hi hx hf
theorem sim_g2 {K : PySem.W.Frag} {i j : Nat} : SimG T [i, j] (gTup K 2 (gCons (gName i) (gCons (gName j) gNil))) (kTup (ksCons (kName i) (ksCons (kName j) ksNil))) := by
  refine sim_gtup (is := [i] ++ ([j] ++ [])) (sim_gcons sim_gname (sim_gcons sim_gname sim_gnil)) fun ds r r' h => ?_
  match ds, h with
  | [_, _], _ => rfl
  | [], h => cases h
  | [_], h => cases h
  | _ :: _ :: _ :: _, h => cases h
theorem jg2 {x y : Expr} {i j k : Nat} (hc : X.calm = true) (h1 : PG X x (gName i)) (h2 : PG X y (gName j)) (hs : (assignEach [x, y] X.env).map (·.2) = assign x X.env :: (assignEach [y] X.env).map (·.2) := by rfl) (hs2 : (assignEach [y] X.env).map (·.2) = assign y X.env :: (assignEach [] X.env).map (·.2) := by rfl)
    (hn : (assignEach [x, y] X.env).length = 2 := by rfl) (hst : (assignEach [x, y] X.env).findIdx? (·.1) = none := by rfl) : PG X (.Tuple [x, y] k pos) (gTup X.K 2 (gCons (gName i) (gCons (gName j) gNil))) := pg_tup hc (pgs_cons h1 (pgs_cons h2 pgs_nil hs2) hs) hn hst
theorem jLcR {elt tg iter : Expr} {ifs : List Expr} {scope : Scope} {own : List (Str × Nat)} {g : TG} {k : SG} {fi : SA} {is : List Nat} (hc : X.calm = true) (hN : X.N.Nodup) (hk : SimG T is g k) (hi : PI X tg iter (rI T fi)) (ok : BlkOk X.N X.env.scope scope own)
    (hg : ∀ s H C cl fp, PG (blkX X scope s H C cl fp) tg g) (ht : ∀ s H C cl fp, PTs (blkX X scope s H C cl fp) ifs (rT T ga)) (he : ∀ s H C cl fp, PE (blkX X scope s H C cl fp) elt (rE T fa)) (hz : ∀ i ∈ is, i ∈ own.map (·.2)) (hs : ∀ x, foldedSetIterable iter X.env x = pure x := by intro _; rfl) :
    PE X (.ListComp elt [⟨tg, iter, ifs, 0⟩] scope pos) (rE T (toR (lc fi (own.map (·.2)) k ga fa))) := toE (pe_lc hc hN hi ok hg ht he hs) (sim_lcR sI hk sT sE hz)
theorem jtNil : PTs X [] (rT T cYes) := toTs pts_nil sim_yes
theorem jtOne (h : PT X c (rT T ga)) : PTs X [c] (rT T ga) := pts_one h
end
end HB

set_option Elab.async false
set_option linter.all false
set_option maxRecDepth 100000
set_option maxHeartbeats 1000000
/-! HB, part t: the law's first statement. -/
namespace HB
open PySem PySem.Spec PyProof.Rows L2
section
variable {T : List (Addr × Str)} {K : PySem.W.Frag} {i j : Nat} {n : Int} {fz fd : SE} {gb gr : SS}
/-- for x in [f(y) for y in script[:n] + [0]]: .., the rest -/
def tLaw (T : List (Addr × Str)) (K : PySem.W.Frag) (i j : Nat) (fz fd : SE) (gb gr : SS) (te : TE) : TS :=
  tSeq (tFor (iList K (tLc (iList K (tOp rAdd te (rE T fz))) (gName j) tYes (rE T fd) [j])) (gName i) (rS T gb)) (rS T gr)
def gLaw (i j : Nat) (n : Int) (fz fd : SE) (gb gr : SS) (ns : List Int) : SS :=
  sSeq (sFor (iE itL (toV (lc (iE itL (eOp2 gAdd (eScr n ns) fz)) [j] (kName j) cYes fd))) (kName i) gb) gr
theorem law_first (ns : List Int) (te : TE) (Z : Addr → Prop) (L : List Addr) (st : Sto) (H : Hp) (s : L2.St) (r : Evr) (o : Ou) (D : Ends) (w : Wd T Z L st H) (e : EnvOk L (Bad Z L st) H r s) (hte : EAt T Z L st H s r te (eScr n ns))
    (h : gLaw i j n fz fd gb gr ns r st = some o) (q : OuOk T Z L st H D o) : tLaw T K i j fz fd gb gr te D s H := by
  obtain ⟨o1, h1, h2⟩ := bind_some' h
  refine for_run (at_iL (at_lcV (at_iL (at_op e hte sE vo_Add)) sim_gname sim_yes sE (by simp) w e)) sim_gname sS w e h1 ?_
  cases o1 with
  | nx r1 st1 =>
    intro s1 H1 L1 f1 e1
    refine sS Z L1 st1 H1 s1 r1 o _ f1.wd e1 h2 ?_
    cases o with
    | nx r2 st2 => exact fun s2 H2 L2 f2 e2 => q s2 H2 L2 (f1.trans f2) e2
    | rt d st2 => exact fun v H2 L2 f2 e2 => q v H2 L2 (f1.trans f2) e2
    | bk r2 st2 => exact fun s2 H2 L2 f2 e2 => q s2 H2 L2 (f1.trans f2) e2
    | ct r2 st2 => exact fun s2 H2 L2 f2 e2 => q s2 H2 L2 (f1.trans f2) e2
  | rt d st1 => cases h2; exact q
  | bk r1 st1 => cases h2; exact q
  | ct r1 st1 => cases h2; exact q
end
end HB

set_option Elab.async false
set_option linter.all false
set_option maxRecDepth 100000
set_option maxHeartbeats 1000000
/-! HB, part u: plain functions worked out, step by step. -/
namespace HB
open PySem PySem.Spec PyProof.Rows L2
section
variable {r r1 : Evr} {st st1 st2 st3 : Sto} {d x y z : Dt} {fa fb fc : SE} {ds : List Dt} {fs : SA} {ca cb : ST} {g k : SS} {o : Ou} {a b : Bool}
theorem v_var {i : Nat} (h : r[i]? = some (some d)) : eVar i r st = some (d, st) := by unfold eVar; rw [h]
theorem v_op {f : Sto → Dt → Dt → Option (Dt × Sto)} {q : Dt × Sto} (ha : fa r st = some (x, st1)) (hb : fb r st1 = some (y, st2)) (h : f st2 x y = some q) : eOp2 f fa fb r st = some q := by unfold eOp2; rw [ha]; show (fb r st1).bind _ = _; rw [hb]; exact h
theorem v_nil : aNil r st = some ([], st) := rfl
theorem v_cons (ha : fa r st = some (x, st1)) (hb : fs r st1 = some (ds, st2)) : aCons fa fs r st = some (x :: ds, st2) := by unfold aCons; rw [ha]; show (fs r st1).bind _ = _; rw [hb]; rfl
theorem v_one (ha : fa r st = some (x, st1)) : aCons fa aNil r st = some ([x], st1) := v_cons ha v_nil
theorem v_N {f : Sto → List Dt → Option (Dt × Sto)} {q : Dt × Sto} (ha : fs r st = some (ds, st1)) (h : f st1 ds = some q) : eN f fs r st = some q := by unfold eN; rw [ha]; exact h
theorem v_chain {f f' : Sto → Dt → Dt → Option (Dt × Sto)} {q : Dt × Sto} (ha : fa r st = some (x, st1)) (hb : fb r st1 = some (y, st2)) (h : f st2 x y = some (.bl true, st3)) {st4 : Sto} (hc : fc r st3 = some (z, st4)) (h' : f' st4 y z = some q) : eChain f f' fa fb fc r st = some q := by
  unfold eChain; rw [ha]; show (fb r st1).bind _ = _; rw [hb]; show (f st2 x y).bind _ = _; rw [h]; show (fc r st3).bind _ = _; rw [hc]; exact h'
theorem v_chain0 {f f' : Sto → Dt → Dt → Option (Dt × Sto)} (ha : fa r st = some (x, st1)) (hb : fb r st1 = some (y, st2)) (h : f st2 x y = some (.bl false, st3)) : eChain f f' fa fb fc r st = some (.bl false, st3) := by
  unfold eChain; rw [ha]; show (fb r st1).bind _ = _; rw [hb]; show (f st2 x y).bind _ = _; rw [h]; rfl
theorem v_and (ha : fa r st = some (.bl true, st1)) {q : Dt × Sto} (hb : fb r st1 = some q) : eAndV fa fb r st = some q := by unfold eAndV; rw [ha]; exact hb
theorem v_sl {l h : SO} {lo hi : Option Int} (ha : fa r st = some (x, st1)) (h1 : l r st1 = some (lo, st2)) (h2 : h r st2 = some (hi, st3)) (e : gSl st3 x lo hi = some d) : eSl fa l h r st = some (d, st3) := by
  unfold eSl; rw [ha]; show (l r st1).bind _ = _; rw [h1]; show (h r st2).bind _ = _; rw [h2]; show (gSl st3 x lo hi).map _ = _; rw [e]; rfl
theorem v_oE {i : Int} (ha : fa r st = some (.int i, st1)) : oE fa r st = some (some i, st1) := by unfold oE; rw [ha]; rfl
theorem v_toV (h : fs r st = some (ds, st1)) : toV fs r st = some (.lst ds, st1) := by unfold toV; rw [h]; rfl
theorem v_toR (h : fs r st = some (ds, st1)) : toR fs r st = some (.ref st1.length, st1 ++ [some (.lst ds)]) := by unfold toR; rw [h]; rfl
theorem v_small (h : fs r st = some (ds, st1)) (hl : ds.length ≤ sizeLine) : small fs r st = some (ds, st1) := by unfold small; rw [h]; exact if_pos hl
theorem v_gF {n : Nat} {F : List Dt → Sto → Option (Dt × Sto)} {q : Dt × Sto} (hn : ds.length = n) (h : F ds st = some q) : gF n F st ds = some q := by unfold gF; rw [if_pos hn]; exact h
theorem v_V {m : List Dt → Option Dt} (hn : noRefs ds = true) (h : m ds = some d) : liftV m ds st = some (d, st) := by unfold liftV; rw [if_pos hn, h]; rfl
theorem v_R {m : List Dt → Option Dt} (hn : noRefs ds = true) (h : m ds = some d) : liftR m ds st = some (.ref st.length, st ++ [some d]) := by unfold liftR; rw [if_pos hn, h]; rfl
theorem v_Ee {m : Dt → List Dt → Option (Dt × Dt)} {i : Nat} {c c' : Dt} (hn : noRefs ds = true) (hi : st[i]? = some (some c)) (hc : noRef c = true) (h : m c ds = some (d, c')) : liftE m (.ref i :: ds) st = some (d, st.set i (some c')) := by
  unfold liftE; dsimp only; rw [if_pos hn, hi]; dsimp only; rw [if_pos hc, h]; rfl
theorem t_B (ha : fa r st = some (.bl a, st1)) : cB fa r st = some (a, st1) := by unfold cB; rw [ha]; rfl
theorem t_not (ha : ca r st = some (a, st1)) : cNot ca r st = some (!a, st1) := by unfold cNot; rw [ha]; rfl
theorem t_orF (ha : ca r st = some (false, st1)) {q : Bool × Sto} (hb : cb r st1 = some q) : cOr ca cb r st = some q := by unfold cOr; rw [ha]; exact hb
theorem t_orT (ha : ca r st = some (true, st1)) : cOr ca cb r st = some (true, st1) := by unfold cOr; rw [ha]; rfl
theorem t_andT (ha : ca r st = some (true, st1)) {q : Bool × Sto} (hb : cb r st1 = some q) : cAnd ca cb r st = some q := by unfold cAnd; rw [ha]; exact hb
theorem t_andF (ha : ca r st = some (false, st1)) : cAnd ca cb r st = some (false, st1) := by unfold cAnd; rw [ha]; rfl
theorem s_seq (h1 : g r st = some (.nx r1 st1)) {q : Ou} (h2 : k r1 st1 = some q) : sSeq g k r st = some q := by unfold sSeq; rw [h1]; exact h2
theorem s_seqRt (h1 : g r st = some (.rt d st1)) : sSeq g k r st = some (.rt d st1) := by unfold sSeq; rw [h1]; rfl
theorem s_ifF (hc : ca r st = some (false, st1)) {q : Ou} (h : k r st1 = some q) : sIf ca g k r st = some q := by unfold sIf; rw [hc]; exact h
theorem s_ifT (hc : ca r st = some (true, st1)) {q : Ou} (h : g r st1 = some q) : sIf ca g k r st = some q := by unfold sIf; rw [hc]; exact h
theorem s_set {i : Nat} (h : fa r st = some (d, st1)) : sSet i fa r st = some (.nx (r.set i (some d)) st1) := by unfold sSet; rw [h]; rfl
theorem s_ret (h : fa r st = some (d, st1)) : sRet fa r st = some (.rt d st1) := by unfold sRet; rw [h]; rfl
theorem s_ex (h : fa r st = some (d, st1)) : sEx fa r st = some (.nx r st1) := by unfold sEx; rw [h]; rfl
theorem s_for {fi : SA} {kt : SG} {xs : List Dt} (h : fi r st = some (xs, st1)) {q : Ou} (h2 : sForGo kt g xs r st1 = some q) : sFor fi kt g r st = some q := by unfold sFor; rw [h]; exact h2
theorem v_iE {f : Sto → Dt → Option (List Dt)} {xs : List Dt} (h : fa r st = some (d, st1)) (h2 : f st1 d = some xs) : iE f fa r st = some (xs, st1) := by unfold iE; rw [h]; show (f st1 d).map _ = _; rw [h2]; rfl
theorem v_iR {f : List Dt → Option (List Dt)} {xs : List Dt} (h : fs r st = some (ds, st1)) (h2 : f ds = some xs) : iR f fs r st = some (xs, st1) := by unfold iR; rw [h]; show (f ds).map _ = _; rw [h2]; rfl
/-- one turn of for -/
theorem for_cons {kt : SG} {xs : List Dt} {r2 : Evr} (hk : kt x r = some r1) (h : g r1 st = some (.nx r2 st1)) {q : Ou} (h2 : sForGo kt g xs r2 st1 = some q) : sForGo kt g (x :: xs) r st = some q := by
  show (kt x r).bind _ = _; rw [hk]; show (g r1 st).bind _ = _; rw [h]; exact h2
/-- a comprehension that leaves the store -/
theorem lcGo_pure {α : Type} {kt : SG} {c : ST} {f : SE} (D : α → Dt) (p : α → Bool) (q : α → Dt) : ∀ xs : List α, (∀ w ∈ xs, ∃ r1, kt (D w) r = some r1 ∧ c r1 st = some (p w, st) ∧ (p w = true → f r1 st = some (q w, st))) → lcGo kt c f r (xs.map D) st = some ((xs.filter p).map q, st)
  | [], _ => rfl
  | w :: xs, h => by
    obtain ⟨r1, h1, h2, h3⟩ := h w List.mem_cons_self
    have ih := lcGo_pure D p q xs fun v hv => h v (List.mem_cons_of_mem _ hv)
    show (kt (D w) r).bind _ = _
    rw [h1]
    show (c r1 st).bind _ = _
    rw [h2]
    cases hp : p w with
    | true =>
      show (f r1 st).bind _ = _
      rw [h3 hp]
      show (lcGo kt c f r (xs.map D) st).bind _ = _
      rw [ih, List.filter_cons_of_pos hp]
      rfl
    | false =>
      show lcGo kt c f r (xs.map D) st = _
      rw [ih, List.filter_cons_of_neg (by simp [hp])]
theorem lc_pure {α : Type} {fi : SA} {own : List Nat} {kt : SG} {c : ST} {f : SE} (D : α → Dt) (p : α → Bool) (q : α → Dt) (xs : List α) (hi : fi r st = some (xs.map D, st1))
    (h : ∀ w ∈ xs, ∃ r1, kt (D w) (wipeD r own) = some r1 ∧ c r1 st1 = some (p w, st1) ∧ (p w = true → f r1 st1 = some (q w, st1))) (hl : xs.length ≤ sizeLine) : lc fi own kt c f r st = some ((xs.filter p).map q, st1) := by
  unfold lc
  rw [hi]
  show (lcGo kt c f (wipeD r own) (xs.map D) st1).bind _ = _
  rw [lcGo_pure D p q xs h]
  refine if_pos ?_
  rw [List.length_map]
  exact Nat.le_trans (List.length_filter_le _ _) hl
/-- .. without a test -/
theorem lc_map {α : Type} {fi : SA} {own : List Nat} {kt : SG} {f : SE} (D : α → Dt) (q : α → Dt) (xs : List α) (hi : fi r st = some (xs.map D, st1))
    (h : ∀ w ∈ xs, ∃ r1, kt (D w) (wipeD r own) = some r1 ∧ f r1 st1 = some (q w, st1)) (hl : xs.length ≤ sizeLine) : lc fi own kt cYes f r st = some (xs.map q, st1) := by
  have := lc_pure (c := cYes) D (fun _ => true) q xs hi (fun w hw => let ⟨r1, h1, h2⟩ := h w hw; ⟨r1, h1, rfl, fun _ => h2⟩) hl
  rw [List.filter_eq_self.mpr (by simp)] at this
  exact this
theorem b_rt {n : Nat} (h : g (startD n ds) [] = some (.rt d st1)) : bodyF g n ds [] = some (d, st1) := by unfold bodyF; rw [h]; rfl
theorem b_nx {n : Nat} (h : g (startD n ds) [] = some (.nx r st1)) : bodyF g n ds [] = some (.non, st1) := by unfold bodyF; rw [h]; rfl
theorem fV_of {F : List Dt → Sto → Option (Dt × Sto)} (h : F ds [] = some (x, st1)) (h2 : deref st1 6 x = some d) : fV F ds = some d := by unfold fV; rw [h]; exact h2
theorem deref_no {n : Nat} (h : noRef d = true) : deref st n d = some d := by
  cases n with
  | zero => unfold deref; rw [if_pos h]
  | succ n => unfold deref; rw [if_pos h]
theorem derefs_no : ∀ {n : Nat} {ds : List Dt}, noRefs ds = true → derefs st n ds = some ds
  | 0, [], _ => by unfold derefs; rfl
  | n + 1, [], _ => by unfold derefs; rfl
  | 0, d :: ds, h => by unfold derefs; rw [if_pos h]
  | n + 1, d :: ds, h => by
    have h' := h
    unfold noRefs at h'
    rw [Bool.and_eq_true] at h'
    unfold derefs
    rw [deref_no h'.1]
    show (derefs st n ds).map _ = _
    rw [derefs_no h'.2]
    rfl
theorem deref_ref {n i : Nat} (hi : st[i]? = some (some d)) (h : noRef d = true) : deref st (n + 1) (.ref i) = some d := by
  unfold deref
  rw [if_neg (by unfold noRef; simp)]
  simp only [hi]
  exact deref_no h
theorem fR_lst {F : List Dt → Sto → Option (Dt × Sto)} {i : Nat} {es : List Dt} (h : F ds [] = some (.ref i, st1)) (hi : st1[i]? = some (some (.lst es))) (hn : noRefs es = true) : fR F ds = some (.lst es) := by
  unfold fR
  rw [h]
  show (match st1[i]? with
    | some (some (.lst ds)) => (derefs (st1.set i none) 6 ds).map Dt.lst
    | some (some (.dic ks ds)) => (derefs (st1.set i none) 6 ds).map (Dt.dic ks)
    | _ => none) = _
  rw [hi]
  show (derefs (st1.set i none) 6 es).map _ = _
  rw [derefs_no hn]
  rfl
theorem fV_lst {F : List Dt → Sto → Option (Dt × Sto)} {i : Nat} {es : List Dt} (h : F ds [] = some (.ref i, st1)) (hi : st1[i]? = some (some (.lst es))) (hn : noRefs es = true) : fV F ds = some (.lst es) :=
  fV_of h (deref_ref hi (by unfold noRef; exact hn))
theorem fE_of {F : List Dt → Sto → Option (Dt × Sto)} {c c' : Dt} (h : F (.ref 0 :: ds) [some c] = some (x, st1)) (h0 : st1[0]? = some (some c')) (hn : noRef c' = true) (hx : deref (st1.set 0 none) 6 x = some d) : fE F c ds = some (d, c') := by
  unfold fE
  rw [h]
  show (match st1[0]? with
    | some (some c') => if noRef c' = true then (deref (st1.set 0 none) 6 x).map fun d => (d, c') else none
    | _ => none) = _
  rw [h0]
  show (if noRef c' = true then _ else none) = _
  rw [if_pos hn, hx]
  rfl
end
/-! plain data -/
theorem noRefs_str : ∀ l : List Str, noRefs (l.map Dt.str) = true
  | [] => by unfold noRefs; rfl
  | x :: l => by
    show noRefs (Dt.str x :: l.map Dt.str) = true
    unfold noRefs
    rw [noRefs_str l]
    unfold noRef
    rfl
theorem noRef_lstS (l : List Str) : noRef (.lst (l.map Dt.str)) = true := by unfold noRef; exact noRefs_str l
theorem strs_self (l : List Str) : strs' (l.map Dt.str) = some l := by
  have := strs_map (fun x : Str => x) l
  simpa using this
theorem strs_inv : ∀ {ds : List Dt} {l : List Str}, strs' ds = some l → ds = l.map Dt.str
  | [], _, h => by cases h; rfl
  | d :: ds, l, h => by
    cases d with
    | str x =>
      obtain ⟨m, h1, h2⟩ := Option.map_eq_some_iff.mp h
      subst h2
      rw [strs_inv h1]
      rfl
    | _ => cases h
theorem v_gI {C : Int → Int → Bool} {f : Int → Int → Int} {st : Sto} {i j : Int} (h : C i j = true) : gI C f st (.int i) (.int j) = some (.int (f i j), st) := by
  show (if C i j = true then _ else _) = _
  exact if_pos h
theorem v_le (st : Sto) (i j : Int) : gLe st (.int i) (.int j) = some (.bl (decide (i ≤ j)), st) := rfl
theorem v_leS (st : Sto) (i j : Str) : gLe st (.str i) (.str j) = some (.bl (!decide (j.cps.toList < i.cps.toList)), st) := rfl
theorem v_lenL {st : Sto} {d : Dt} {ds : List Dt} (h : d = .lst ds) : gLen st [d] = some (.int ds.length, st) := by subst h; rfl
theorem v_lenS {st : Sto} {z : Str} (h : z.length ≤ sizeLine) : gLen st [.str z] = some (.int z.length, st) := by
  show (if z.length ≤ sizeLine then _ else _) = _
  exact if_pos h
theorem v_slS {st : Sto} {z : Str} {lo hi : Option Int} (h : z.length ≤ sizeLine) : gSl st (.str z) lo hi = some (.str (cutS z lo hi)) := by
  show (if z.length ≤ sizeLine then _ else _) = _
  exact if_pos h
theorem v_ixL {st : Sto} {ds : List Dt} {i : Int} {d : Dt} (h : atI ds i = some d) : gIx st (.lst ds) (.int i) = some (d, st) := by
  show (atI ds i).map _ = _
  rw [h]; rfl
theorem v_ixS {st : Sto} {z : Str} {i : Int} {c : Nat} (hz : z.length ≤ sizeLine) (h : atI z.cps.toList i = some c) : gIx st (.str z) (.int i) = some (.str ⟨#[c]⟩, st) := by
  show (if z.length ≤ sizeLine then (atI z.cps.toList i).map _ else none) = _
  rw [if_pos hz, h]; rfl
theorem v_eqS {st : Sto} {x y : Str} : gEq st (.str x) (.str y) = some (.bl (decide (x = y)), st) := by
  show ((if scal (.str x) (.str y) = true then some (decide (V.str x = V.str y)) else none).map _) = _
  have : decide (V.str x = V.str y) = decide (x = y) := by simp
  rw [this]; rfl
theorem v_neS {st : Sto} {x y : Str} : gNe st (.str x) (.str y) = some (.bl (!decide (x = y)), st) := by
  show ((if scal (.str x) (.str y) = true then some (decide (V.str x = V.str y)) else none).map _) = _
  have : decide (V.str x = V.str y) = decide (x = y) := by simp
  rw [this]; rfl
theorem v_neI {st : Sto} {x y : Int} : gNe st (.int x) (.int y) = some (.bl (!decide (x = y)), st) := by
  show ((if scal (.int x) (.int y) = true then some (decide (V.int x = V.int y)) else none).map _) = _
  have : decide (V.int x = V.int y) = decide (x = y) := by simp
  rw [this]; rfl
theorem v_neB {st : Sto} {x y : Bool} : gNe st (.bl x) (.bl y) = some (.bl (!decide (x = y)), st) := by
  show ((if scal (.bl x) (.bl y) = true then some (decide (V.bl x = V.bl y)) else none).map _) = _
  have : decide (V.bl x = V.bl y) = decide (x = y) := by simp
  rw [this]; rfl
theorem flats_str : ∀ l : List Str, flats (l.map Dt.str) = some (l.map V.str)
  | l => by
    have := flats_map (fun x : Str => Dt.str x) (fun x => V.str x) (fun x => rfl) l
    exact this
theorem inV_str (x : Str) : ∀ l : List Str, inV (.str x) (l.map V.str) = decide (x ∈ l)
  | [] => by simp [inV]
  | y :: l => by
    have ih := inV_str x l
    unfold inV at ih ⊢
    rw [List.map_cons, List.any_cons, ih]
    have e : eqV (V.str y) (V.str x) = decide (x = y) := by
      by_cases h : x = y
      · subst h; simp [eqV]
      · have h' : ¬ y = x := fun z => h z.symm
        simp [eqV, h, h']
    rw [e]
    by_cases h : x = y <;> simp [h]
theorem v_inS {st : Sto} {x : Str} {l : List Str} {neg : Bool} {d : Dt} (h : asL st d = some (l.map Dt.str)) : gIn neg st (.str x) d = some (.bl (if neg then !decide (x ∈ l) else decide (x ∈ l)), st) := by
  unfold gIn inD
  rw [h]
  show ((flats (l.map Dt.str)).map _).map _ = _
  rw [flats_str]
  show some (Dt.bl (if neg = true then !(inV (.str x) (l.map V.str)) else inV (.str x) (l.map V.str)), st) = _
  rw [inV_str]
end HB

set_option Elab.async false
set_option linter.all false
set_option maxRecDepth 100000
set_option maxHeartbeats 1000000
/-! HB, part v: == and != of data with dicts. -/
namespace HB
open PySem PySem.Spec PyProof.Rows L2

def allO : List (Option Bool) → Option Bool
  | [] => some true
  | o :: os => o.bind fun b => (allO os).map fun c => b && c
def eqPl (x y : Dt) : Option Bool := (py [] 8 x).bind fun a => (py [] 8 y).bind fun b => if (SeqAt.shaped a && SeqAt.shaped b) = true then some (PyData.eqv a b) else none
/-- equal or not, data without live objects -/
def eqQ : Nat → Dt → Dt → Option Bool
  | 0, _, _ => none
  | n + 1, x, y => match x, y with
    | .lst xs, .lst ys => if xs.length = ys.length then allO (List.zipWith (eqQ n) xs ys) else some false
    | .dic ks xs, .dic ls ys => if ks.Nodup ∧ ks.length = xs.length ∧ ls.length = ys.length then (if ks.length = ls.length then allO ((ks.zip xs).map fun p => match pGet p.1 ls ys with
        | none => some false
        | some y => eqQ n p.2 y) else some false) else none
    | x, y => eqPl x y
theorem allO_of : ∀ {os : List (Option Bool)} {b : Bool}, allO os = some b → ∃ cs : List Bool, os = cs.map some ∧ b = cs.all id
  | [], b, h => by cases h; exact ⟨[], rfl, rfl⟩
  | o :: os, b, h => by
    obtain ⟨c, h1, h2⟩ := bind_some' h
    obtain ⟨d, h3, h4⟩ := Option.map_eq_some_iff.mp h2
    obtain ⟨cs, h5, h6⟩ := allO_of h3
    exact ⟨c :: cs, by rw [h1, h5]; rfl, by rw [← h4, h6]; rfl⟩
theorem allO_map : ∀ cs : List Bool, allO (cs.map some) = some (cs.all id)
  | [] => rfl
  | c :: cs => by
    show ((allO (cs.map some)).map fun d => c && d) = _
    rw [allO_map cs]; rfl
theorem pGet_mem {α : Type} : ∀ {ks : List Key} {xs : List α}, ks.Nodup → ∀ p ∈ ks.zip xs, pGet p.1 ks xs = some p.2
  | [], xs, _, p, h => by simp at h
  | k :: ks, [], _, p, h => by simp at h
  | k :: ks, x :: xs, nd, p, h => by
    rw [List.zip_cons_cons] at h
    rw [List.nodup_cons] at nd
    rcases List.mem_cons.mp h with e | h
    · subst e; simp [pGet]
    · have hm : p.1 ∈ ks := (List.of_mem_zip (a := p.1) (b := p.2) h).1
      have hne : ¬ k = p.1 := fun z => nd.1 (z ▸ hm)
      have ih := pGet_mem nd.2 p h
      simp [pGet, hne, ih]
theorem eqPl_refl {x : Dt} {b : Bool} (h : eqPl x x = some b) : b = true := by
  obtain ⟨a, h1, h2⟩ := bind_some' h
  obtain ⟨c, h3, h4⟩ := bind_some' h2
  rw [h1] at h3
  cases h3
  split at h4
  · rename_i hs
    cases h4
    rw [Bool.and_eq_true] at hs
    exact SeqAt.eqv_refl a (SeqAt.canLay_of_shaped hs.1)
  · cases h4
theorem eqQ_refl : ∀ (n : Nat) (x : Dt) (b : Bool), eqQ n x x = some b → b = true
  | 0, _, _, h => by cases h
  | n + 1, x, b, h => by
    have ih := eqQ_refl n
    cases x with
    | lst ys =>
      unfold eqQ at h
      dsimp only at h
      rw [if_pos rfl] at h
      obtain ⟨cs, h1, h2⟩ := allO_of h
      rw [h2, List.all_eq_true]
      intro c hc
      have hm : some c ∈ List.zipWith (eqQ n) ys ys := by rw [h1]; exact List.mem_map_of_mem hc
      have key : ∀ l : List Dt, some c ∈ List.zipWith (eqQ n) l l → ∃ d ∈ l, eqQ n d d = some c := by
        intro l
        induction l with
        | nil => intro z; simp at z
        | cons d l k =>
          intro z
          rw [List.zipWith_cons_cons] at z
          rcases List.mem_cons.mp z with z | z
          · exact ⟨d, by simp, z.symm⟩
          · obtain ⟨d', m, e⟩ := k z
            exact ⟨d', by simp [m], e⟩
      obtain ⟨d, _, e⟩ := key ys hm
      exact ih d c e
    | dic ks xs =>
      unfold eqQ at h
      dsimp only at h
      split at h
      · rename_i hk
        rw [if_pos rfl] at h
        obtain ⟨cs, h1, h2⟩ := allO_of h
        rw [h2, List.all_eq_true]
        intro c hc
        have hm : some c ∈ cs.map some := List.mem_map_of_mem hc
        rw [← h1] at hm
        obtain ⟨p, hp, e⟩ := List.mem_map.mp hm
        rw [pGet_mem hk.1 p hp] at e
        exact ih p.2 c e
      · cases h
    | _ => exact eqPl_refl h
section
variable {X : Cx} {pins : List (Addr × Obj)} {s1 : L2.St} {H : Hp} {s : Shared} {L : List Addr} {B : Addr → Prop}
theorem pyD {d : Dt} {p : PyData} {v : V} {K : PySem.W.Frag} (hn : noRef d = true) (h : py [] 8 d = some p) (q : Den L B H d v) : Dp K H v p := by
  have w : Wd ([] : List (Addr × Str)) (fun _ => False) [] [] H := ⟨fun p hp => by simp at hp, rfl, fun i j a d e h => by simp at h, fun k a d h => by simp at h, fun a z => z.elim⟩
  exact py_ok (B := fun _ => False) w h ((q.anyL hn).mono fun _ z => z.elim)
theorem eqPl_ok (I : Inv X pins s1 H s) {A : Around} (hu : A.units + 64 < cLine) {dx dy : Dt} {b : Bool} {x y : V} {v u : Value} (h : eqPl dx dy = some b) (nx : noRef dx = true) (ny : noRef dy = true) (px : Den L B H dx x) (py' : Den L B H dy y) (rx : RelV x v) (ry : RelV y u) : SeqAt.EqP X.prog X.w A s v u b := by
  obtain ⟨a, h1, h2⟩ := bind_some' h
  obtain ⟨c, h3, h4⟩ := bind_some' h2
  split at h4
  · rename_i hs
    cases h4
    rw [Bool.and_eq_true] at hs
    obtain ⟨as, r1⟩ := Dp.reads I a x v (pyD (K := X.K) nx h1 px) rx
    obtain ⟨bs, r2⟩ := Dp.reads I c y u (pyD (K := X.K) ny h3 py') ry
    exact (SeqAt.eqAt_reads a c A s v u as bs r1 r2 (SeqAt.canLay_of_shaped hs.1) (SeqAt.canLay_of_shaped hs.2) (SeqAt.room_of_shaped hs.1 hu)).eqP
  · cases h4
theorem hitsQ {A : Around} {n : Nat} {ls : List Key} {ys : List Dt} {us : List V} {vb : List (Key × Value)} (ih : ∀ dx dy b, eqQ n dx dy = some b → noRef dx = true → noRef dy = true → ∀ x y v u, Den L B H dx x → Den L B H dy y → RelV x v → RelV y u → SeqAt.EqP X.prog X.w A s v u b)
    (ny : noRefs ys = true) (ey : Dens L B H ys us) (el : ls.length = us.length) (rb : KV (ls.zip us) vb) : ∀ (ks : List Key) (xs : List Dt) (vs : List V) (va : List (Key × Value)) (r : Bool), ks.length = vs.length → noRefs xs = true → Dens L B H xs vs → KV (ks.zip vs) va →
    allO ((ks.zip xs).map fun p => match pGet p.1 ls ys with
      | none => some false
      | some y => eqQ n p.2 y) = some r → PySem.W.KeqHitsP X.prog X.w A s vb va r
  | [], xs, vs, va, r, _, _, _, ra, h => by
    cases ra
    cases h
    exact .nil
  | k :: ks, [], vs, va, r, hl, _, d, ra, h => by
    unfold Dens at d
    subst d
    simp at hl
  | k :: ks, x :: xs, vs, va, r, hl, nx, d, ra, h => by
    obtain ⟨v, vs', rfl, pv, d'⟩ := d.uncons
    unfold noRefs at nx
    rw [Bool.and_eq_true] at nx
    rw [List.zip_cons_cons] at ra h
    cases ra with
    | @cons _ q _ qs h1 h2 =>
    obtain ⟨e1, e2⟩ := h1
    obtain ⟨qk, qv⟩ := q
    have e1' : k = qk := e1
    subst e1'
    rw [List.map_cons] at h
    obtain ⟨b, h3, h4⟩ := bind_some' h
    obtain ⟨c, h5, h6⟩ := Option.map_eq_some_iff.mp h4
    have rest := hitsQ ih ny ey el rb ks xs vs' qs c (by simpa using hl) nx.2 d' h2 h5
    have rr : RelO (pGet k ls us) (valueAt vb k) := by rw [← pGet_val]; exact rb.val k
    dsimp only at h3
    rcases ey.pGet k (ks := ls) with ⟨z1, z2⟩ | ⟨dy, y, z1, z2, py'⟩
    · rw [z1] at h3
      cases h3
      rw [z2] at rr
      have hn : valueAt vb k = none := by
        cases q : valueAt vb k with
        | none => rfl
        | some z => rw [q] at rr; exact rr.elim
      rw [← h6]
      exact .miss hn
    · rw [z1] at h3
      rw [z2] at rr
      obtain ⟨w, hw, rw'⟩ := rr.some_of
      rw [← h6]
      refine .hit hw (ih x dy b h3 nx.1 ?_ v y qv w pv py' e2 rw') rest
      have : ∀ {ls : List Key} {ys : List Dt}, noRefs ys = true → pGet k ls ys = some dy → noRef dy = true := by
        intro ls
        induction ls with
        | nil => intro ys _ z; cases ys <;> simp [pGet] at z
        | cons l ls g =>
          intro ys nn z
          cases ys with
          | nil => simp [pGet] at z
          | cons y ys =>
            unfold noRefs at nn
            rw [Bool.and_eq_true] at nn
            by_cases hk : l = k
            · simp [pGet, hk] at z
              exact z ▸ nn.1
            · simp [pGet, hk] at z
              exact g nn.2 z
      exact this ny z1
/-- the items of two lists -/
theorem itemsQ {A : Around} {n : Nat} (ih : ∀ dx dy b, eqQ n dx dy = some b → noRef dx = true → noRef dy = true → ∀ x y v u, Den L B H dx x → Den L B H dy y → RelV x v → RelV y u → SeqAt.EqP X.prog X.w A s v u b) :
    ∀ (xs ys : List Dt) (vs us : List V) (va vb : List Value) (cs : List Bool), noRefs xs = true → noRefs ys = true → Dens L B H xs vs → Dens L B H ys us → Vals vs va → Vals us vb → List.zipWith (eqQ n) xs ys = cs.map some → ∀ j (h1 : j < va.length) (h2 : j < vb.length), SeqAt.EqP X.prog X.w A s va[j] vb[j] (cs.getD j true)
  | [], ys, vs, us, va, vb, cs, _, _, dx, dy, ra, rb, e, j, h1, h2 => by
    unfold Dens at dx
    subst dx
    cases ra
    simp at h1
  | x :: xs, [], vs, us, va, vb, cs, _, _, dx, dy, ra, rb, e, j, h1, h2 => by
    unfold Dens at dy
    subst dy
    cases rb
    simp at h2
  | x :: xs, y :: ys, vs, us, va, vb, cs, nx, ny, dx, dy, ra, rb, e, j, h1, h2 => by
    obtain ⟨v, vs', rfl, pv, dx'⟩ := dx.uncons
    obtain ⟨u, us', rfl, pu, dy'⟩ := dy.uncons
    unfold noRefs at nx ny
    rw [Bool.and_eq_true] at nx ny
    rw [List.zipWith_cons_cons] at e
    cases ra with
    | cons a1 b1 =>
    cases rb with
    | cons a2 b2 =>
    cases cs with
    | nil => simp at e
    | cons c cs =>
    rw [List.map_cons] at e
    injection e with e1 e2
    cases j with
    | zero => exact ih x y c e1 nx.1 ny.1 v u _ _ pv pu a1 a2
    | succ j => exact itemsQ ih xs ys vs' us' _ _ cs nx.2 ny.2 dx' dy' b1 b2 e2 j (Nat.lt_of_succ_lt_succ h1) (Nat.lt_of_succ_lt_succ h2)
theorem all_getD : ∀ cs : List Bool, ((List.range cs.length).all fun j => cs.getD j true) = cs.all id
  | [] => rfl
  | c :: cs => by
    rw [List.length_cons, List.range_succ_eq_map, List.all_cons, List.all_map, List.all_cons, ← all_getD cs]
    rfl
/-! != of lists, of dicts -/
section
variable {prog : Program} {w : World}
open AutoSeq1 (wpAny_loadPart')
open MeetsSeq MeetsSeq2 MeetsSeq3 SeqRoads2 SeqAt
theorem neQ_loop (l b : Addr) (xs ys : Array Value) (n m : Nat) (dd de : Option Addr) (sl se : Array (Option Value)) (hsz : xs.size = ys.size) (e : Nat → Bool) (k : Nat) : ∀ i : Nat, xs.size - i = k → MeetsIn prog w (Builtin.«list.__eq__.loop» ⟨[.ref l, .ref b, rawInt i, rawInt 3], []⟩)
    (fun A R s => s.heap.get? l = some { cls := .type "list", dict := dd, data := .seq xs n, slots := sl } ∧ s.heap.get? b = some { cls := .type "list", dict := de, data := .seq ys m, slots := se } ∧ (∀ j (h1 : j < xs.size) (h2 : j < ys.size), EqP prog w A.in1 s xs[j] ys[j] (e j)) ∧ R (.ok (.ret (.bool (!((List.range xs.size).drop i).all e)))) s) := by
  induction k with
  | zero =>
    intro i hk A R s h
    obtain ⟨hp, g, d, tk, os⟩ := s; obtain ⟨hl, hb, he, h⟩ := h
    wp_walk using wpAny_loadPart' hl, wpAny_loadPart' hb
    have x1 : xs[((i : Nat) : Int).toNat]? = none := by simp; omega
    have x2 : ys[((i : Nat) : Int).toNat]? = none := by simp; omega
    have x3 : (List.range xs.size).drop i = [] := by simp; omega
    rw [x3] at h
    rw [x1, x2]
    wp_walk using wpAny_loadPart' hl, wpAny_loadPart' hb
    show R (.ok (.ret (.bool (xs.size != ys.size)))) _
    rw [hsz]
    simpa using h
  | succ k ih =>
    intro i hk A R s h
    obtain ⟨hp, g, d, tk, os⟩ := s; obtain ⟨hl, hb, he, h⟩ := h
    wp_walk using wpAny_loadPart' hl, wpAny_loadPart' hb
    have l1 : i < xs.size := by omega
    have l2 : i < ys.size := by omega
    have x1 : xs[((i : Nat) : Int).toNat]? = some xs[i] := by simp [l1]
    have x2 : ys[((i : Nat) : Int).toNat]? = some ys[i] := by simp [l2]
    have x3 : (List.range xs.size).drop i = i :: (List.range xs.size).drop (i + 1) := by simp [List.drop_eq_getElem_cons, l1]
    have x4 : ((i : Int) + 1) = ((i + 1 : Nat) : Int) := by push_cast; rfl
    rw [x3, List.all_cons] at h
    rw [x1, x2]
    refine wpAny_bind (he i l1 l2 _ _ ?_)
    cases x5 : e i with
    | true =>
      rw [x5] at h
      wp_walk
      rw [x4]
      exact ⟨plainId_quiet plain_eq_loop _, codeAny_builtin entry_eq_loop (by rw [Around.under_plainId plain_eq_loop _]; exact ih (i + 1) (by omega) A R _ ⟨hl, hb, he, by simpa using h⟩)⟩
    | false =>
      rw [x5] at h
      wp_walk using wpAny_loadPart' hl, wpAny_loadPart' hb
      rw [x1, x2]
      wp_walk
      simpa using h
theorem neQ_list (l b : Addr) (xs ys : Array Value) (n m : Nat) (dd de : Option Addr) (sl se : Array (Option Value)) (hsz : xs.size = ys.size) (e : Nat → Bool) : MeetsIn prog w (Builtin.«list.__ne__» ⟨[.ref l, .ref b], []⟩)
    (fun A R s => s.heap.get? l = some { cls := .type "list", dict := dd, data := .seq xs n, slots := sl } ∧ s.heap.get? b = some { cls := .type "list", dict := de, data := .seq ys m, slots := se } ∧ (∀ j (h1 : j < xs.size) (h2 : j < ys.size), EqP prog w A.in1 s xs[j] ys[j] (e j)) ∧ R (.ok (.ret (.bool (!(List.range xs.size).all e)))) s) := by
  intro A R s h
  obtain ⟨hp, g, d, tk, os⟩ := s; obtain ⟨hl, hb, he, h⟩ := h
  have y1 := AutoSeq1.sub_list_list
  have y2 : ¬ (xs.size != ys.size) = true := by simp [hsz]
  wp_walk using wpAny_loadPart' hl, wpAny_loadPart' hb
  exact ⟨plainId_quiet plain_eq_loop _, codeAny_builtin entry_eq_loop (by rw [Around.under_plainId plain_eq_loop _]; exact neQ_loop l b xs ys n m dd de sl se hsz e _ 0 rfl A R _ ⟨hl, hb, he, by simpa using h⟩)⟩
theorem neQ_lists {A : Around} {s : Shared} {l b : Addr} {xs ys : Array Value} {e : Nat → Bool} (hl : s.heap.IsList l xs) (hb : s.heap.IsList b ys) (hsz : xs.size = ys.size) (hu : A.units < cLine)
    (he : ∀ j (h1 : j < xs.size) (h2 : j < ys.size), EqP prog w A.in1 s xs[j] ys[j] (e j)) (E Q : Value → Shared → Prop) (h : Q (.bool (!(List.range xs.size).all e)) s) : wpAny (model prog w) A (richCompare .NotEq (.ref l) (.ref b)) Q E s := by
  obtain ⟨⟨c1, dd, d1, sl⟩, o1, e1, n, f1⟩ := id hl
  obtain ⟨⟨c2, de, d2, se⟩, o2, e2, m, f2⟩ := id hb
  simp only at e1 f1 e2 f2
  subst e1 f1 e2 f2
  have ta : s.TypeIs (.ref l) "list" := ⟨_, o1, rfl⟩
  have tb : s.TypeIs (.ref b) "list" := ⟨_, o2, rfl⟩
  exact wpAny_richCompare_same_room (op := .NotEq) ta tb F.slot_list_ne (call_meetsIn F.slot_list_ne ta F.entry_list_ne (F.args_list_ne_2 _ _) (neQ_list l b xs ys n m dd de sl se hsz e) ⟨o1, o2, he, ⟨(fun x => nomatch x), h⟩⟩) hu
end
section
variable {prog : Program} {w : World} {κ : Type} [DecidableEq κ] {knd : KeyKind prog w κ} {A : Around} {s : Shared}
open PySem.W in
theorem neQ_dicts {a b : Addr} {ka kb : List (κ × Value)} {r : Bool} (ha : (a == sysModules) = false) (hb : (b == sysModules) = false) (da : s.heap.DictOf knd a ka) (db : s.heap.DictOf knd b kb) (hu : A.units < cLine) (hits : ka.length = kb.length → KeqHitsP prog w A.in1 s kb ka r) (E Q : Value → Shared → Prop)
    (h : Q (.bool (!(ka.length == kb.length && r))) s) : wpAny (model prog w) A (richCompare .NotEq (.ref a) (.ref b)) Q E s := by
  have ta := da.typeIs
  have tb := db.typeIs
  refine wpAny_richCompare_same_room (op := .NotEq) ta tb PySem.F.slot_dict_ne (wpAny_call_entry PySem.F.slot_dict_ne ta PySem.F.entry_dict_ne ?_ (PySem.F.args_dict_ne_2 _ _)) hu
  show wpAny _ _ (Builtin.Dict.dictSlotArgs "__ne__" _ >>= _) _ _ s
  refine wpAny_bind ?_
  unfold Builtin.Dict.dictSlotArgs
  refine wpAny_bind (wpAny_notOrdered_dict ta (by
    show wpAny _ _ (pure (Value.ref a, Value.ref b)) _ _ s
    refine wpAny_pure (wpAny_bind (wpAny_isInstance (T := "dict") tb PySem.F.sub_dict_dict ?_))
    simp only [Bool.not_true, Bool.false_eq_true, if_false]
    refine wpAny_bind (wpAny_pure (wpAny_bind (wpAny_pure (wpAny_bind (samePairsP ha hb da db hits (wpAny_pure ⟨_, rfl, ?_, ?_⟩))))))
    · exact fun x => nomatch x
    · simpa using h))
end
/-! the whole -/
theorem rcQ (I : Inv X pins s1 H s) {A : Around} {n : Nat} (hu : A.units < cLine) (ih : ∀ dx dy b, eqQ n dx dy = some b → noRef dx = true → noRef dy = true → ∀ x y v u, Den L B H dx x → Den L B H dy y → RelV x v → RelV y u → SeqAt.EqP X.prog X.w A.in1 s v u b)
    {xs ys : List Dt} {b : Bool} {x y : V} {v u : Value} (h : eqQ (n + 1) (.lst xs) (.lst ys) = some b) (nx : noRefs xs = true) (ny : noRefs ys = true) (px : Den L B H (.lst xs) x) (py' : Den L B H (.lst ys) y) (rx : RelV x v) (ry : RelV y u) :
    ∃ a c, v = .ref a ∧ u = .ref c ∧ (∀ (E Q : Value → Shared → Prop), Q (.bool b) s → wpAny (model X.prog X.w) A (richCompare .Eq v u) Q E s) ∧ (∀ (E Q : Value → Shared → Prop), Q (.bool (!b)) s → wpAny (model X.prog X.w) A (richCompare .NotEq v u) Q E s) := by
  unfold Den at px py'
  obtain ⟨a, vs, rfl, _, e1, t1⟩ := px
  obtain ⟨c, us, rfl, _, e2, t2⟩ := py'
  obtain rfl : v = Value.ref a := rx
  obtain rfl : u = Value.ref c := ry
  obtain ⟨va, r1, p1, _⟩ := I.list (SqL.of (K := X.K) e1)
  obtain ⟨vb, r2, p2, _⟩ := I.list (SqL.of (K := X.K) e2)
  have hx : xs.length = va.length := by rw [t1.len]; exact r1.length
  have hy : ys.length = vb.length := by rw [t2.len]; exact r2.length
  refine ⟨a, c, rfl, rfl, ?_⟩
  unfold eqQ at h
  dsimp only at h
  split at h
  · rename_i hl
    obtain ⟨cs, h1, h2⟩ := allO_of h
    have hc : cs.length = va.length := by
      have := congrArg List.length h1
      rw [List.length_zipWith, List.length_map] at this
      omega
    have hsz : va.toArray.size = vb.toArray.size := by simp; omega
    have it := itemsQ ih xs ys vs us va vb cs nx ny t1 t2 r1 r2 h1
    have it' : ∀ j (h1 : j < va.toArray.size) (h2 : j < vb.toArray.size), SeqAt.EqP X.prog X.w A.in1 s va.toArray[j] vb.toArray[j] (cs.getD j true) := fun j h1 h2 => by
      have z := it j (by simpa using h1) (by simpa using h2)
      simpa using z
    have eb : ((List.range va.toArray.size).all fun j => cs.getD j true) = b := by
      rw [h2, ← all_getD cs, hc]; simp
    refine ⟨fun E Q q => SeqAt.rcP_lists (e := fun j => cs.getD j true) p1.isList p2.isList hsz hu it' E Q ?_, fun E Q q => neQ_lists (e := fun j => cs.getD j true) p1.isList p2.isList hsz hu it' E Q ?_⟩
    · rw [eb]; exact q
    · rw [eb]; exact q
  · rename_i hl
    cases h
    have hne : (va.toArray.size != vb.toArray.size) = true := by simp; omega
    exact ⟨fun E Q q => SeqAt.RcAt.lists_lengths p1.isList p2.isList hne hu X.prog X.w E Q q, fun E Q q => SeqAt.RcNeAt.lists_lengths p1.isList p2.isList hne hu X.prog X.w E Q q⟩
theorem rcQd (I : Inv X pins s1 H s) {A : Around} {n : Nat} (hu : A.units < cLine) (ih : ∀ dx dy b, eqQ n dx dy = some b → noRef dx = true → noRef dy = true → ∀ x y v u, Den L B H dx x → Den L B H dy y → RelV x v → RelV y u → SeqAt.EqP X.prog X.w A.in1 s v u b)
    {ks ls : List Key} {xs ys : List Dt} {b : Bool} {x y : V} {v u : Value} (h : eqQ (n + 1) (.dic ks xs) (.dic ls ys) = some b) (nx : noRefs xs = true) (ny : noRefs ys = true) (px : Den L B H (.dic ks xs) x) (py' : Den L B H (.dic ls ys) y) (rx : RelV x v) (ry : RelV y u) :
    ∃ a c, v = .ref a ∧ u = .ref c ∧ (∀ (E Q : Value → Shared → Prop), Q (.bool b) s → wpAny (model X.prog X.w) A (richCompare .Eq v u) Q E s) ∧ (∀ (E Q : Value → Shared → Prop), Q (.bool (!b)) s → wpAny (model X.prog X.w) A (richCompare .NotEq v u) Q E s) := by
  unfold Den at px py'
  obtain ⟨a, vs, rfl, _, e1, l1, t1⟩ := px
  obtain ⟨c, us, rfl, _, e2, l2, t2⟩ := py'
  obtain rfl : v = Value.ref a := rx
  obtain rfl : u = Value.ref c := ry
  obtain ⟨_, ya, va, ra, da⟩ := e1.ok I.hok
  obtain ⟨_, yb, vb, rb, db⟩ := e2.ok I.hok
  have hx : ks.length = va.length := by have := ra.length; rw [List.length_zip] at this; omega
  have hy : ls.length = vb.length := by have := rb.length; rw [List.length_zip] at this; omega
  refine ⟨a, c, rfl, rfl, ?_⟩
  unfold eqQ at h
  dsimp only at h
  split at h
  · rename_i hk
    split at h
    · rename_i hl
      have hits := hitsQ ih ny t2 l2 rb ks xs vs va b l1 nx t1 ra h
      have el : (va.length == vb.length) = true := by simp; omega
      refine ⟨fun E Q q => PySem.W.rcP_dicts (knd := mixKind X.prog X.w) (r := b) ya yb da db hu (fun _ => hits) E Q ?_, fun E Q q => neQ_dicts (knd := mixKind X.prog X.w) (r := b) ya yb da db hu (fun _ => hits) E Q ?_⟩
      · rw [el, Bool.true_and]; exact q
      · rw [el, Bool.true_and]; exact q
    · rename_i hl
      cases h
      have el : (va.length == vb.length) = false := by simp; omega
      have no : va.length = vb.length → PySem.W.KeqHitsP X.prog X.w A.in1 s vb va true := fun z => absurd z (by omega)
      refine ⟨fun E Q q => PySem.W.rcP_dicts (knd := mixKind X.prog X.w) (r := true) ya yb da db hu no E Q ?_, fun E Q q => neQ_dicts (knd := mixKind X.prog X.w) (r := true) ya yb da db hu no E Q ?_⟩
      · rw [el]; exact q
      · rw [el]; exact q
  · cases h
theorem eqQ_ok (I : Inv X pins s1 H s) : ∀ (n : Nat) (A : Around), A.units + n + 64 < cLine → ∀ dx dy b, eqQ n dx dy = some b → noRef dx = true → noRef dy = true → ∀ x y v u, Den L B H dx x → Den L B H dy y → RelV x v → RelV y u → SeqAt.EqP X.prog X.w A s v u b
  | 0, A, hu, dx, dy, b, h, _, _, x, y, v, u, _, _, _, _ => by cases h
  | n + 1, A, hu, dx, dy, b, h, nx, ny, x, y, v, u, px, py', rx, ry => by
    have ih := eqQ_ok I n A.in1 (by show A.units + 1 + n + 64 < cLine; omega)
    have same : ∀ a : Addr, x = .ref a → y = .ref a → b = true := fun a e1 e2 => by
      subst e1; subst e2
      have := Den.one nx ny px py'
      subst this
      exact eqQ_refl _ _ _ h
    have fin : ∀ a c : Addr, v = .ref a → u = .ref c → x = .ref a → y = .ref c → (∀ (E Q : Value → Shared → Prop), Q (.bool b) s → wpAny (model X.prog X.w) A (richCompare .Eq v u) Q E s) → SeqAt.EqP X.prog X.w A s v u b := fun a c e1 e2 e3 e4 k => by
      subst e1; subst e2
      by_cases hac : a = c
      · subst hac
        rw [same a e3 e4]
        exact (SeqAt.EqAt.same _).eqP
      · exact SeqAt.eqP_refs hac k
    cases dx with
    | lst xs =>
      cases dy with
      | lst ys =>
        unfold noRef at nx ny
        obtain ⟨a, c, e1, e2, k, _⟩ := rcQ I (A := A) (by omega) ih h nx ny px py' rx ry
        unfold Den at px py'
        obtain ⟨a', vs, rfl, _⟩ := px
        obtain ⟨c', us, rfl, _⟩ := py'
        have z1 : v = .ref a' := rx
        have z2 : u = .ref c' := ry
        rw [z1] at e1; cases e1
        rw [z2] at e2; cases e2
        exact fin a c z1 z2 rfl rfl k
      | _ => exact eqPl_ok I (by omega) h nx ny px py' rx ry
    | dic ks xs =>
      cases dy with
      | dic ls ys =>
        unfold noRef at nx ny
        obtain ⟨a, c, e1, e2, k, _⟩ := rcQd I (A := A) (by omega) ih h nx ny px py' rx ry
        unfold Den at px py'
        obtain ⟨a', vs, rfl, _⟩ := px
        obtain ⟨c', us, rfl, _⟩ := py'
        have z1 : v = .ref a' := rx
        have z2 : u = .ref c' := ry
        rw [z1] at e1; cases e1
        rw [z2] at e2; cases e2
        exact fin a c z1 z2 rfl rfl k
      | _ => exact eqPl_ok I (by omega) h nx ny px py' rx ry
    | _ => exact eqPl_ok I (by omega) h nx ny px py' rx ry
end
/-- both lists or both dicts -/
def alikeD : Dt → Dt → Bool
  | .lst _, .lst _ => true
  | .dic _ _, .dic _ _ => true
  | _, _ => false
def rEqQ (neg : Bool) : R2 := fun x y H Q => ∃ (L : List Addr) (B : Addr → Prop) (dx dy : Dt) (b : Bool), noRef dx = true ∧ noRef dy = true ∧ alikeD dx dy = true ∧ eqQ 8 dx dy = some b ∧ Den L B H dx x ∧ Den L B H dy y ∧ Q (.bl (if neg then !b else b)) H
theorem op_EqQ {X : Cx} (hu : X.A.units + 80 < cLine) : OpR X (compareOp .Eq) (rEqQ false) := by
  intro pins s σ H x y v u Q I rx ry ⟨L, B, dx, dy, b, nx, ny, ha, h, px, py', q⟩
  have ih := eqQ_ok (L := L) (B := B) I 7 X.A.in1 (by show X.A.units + 1 + 7 + 64 < cLine; omega)
  cases dx with
  | lst xs =>
    cases dy with
    | lst ys =>
      unfold noRef at nx ny
      obtain ⟨a, c, e1, e2, k, _⟩ := rcQ I (A := X.A) (by omega) ih h nx ny px py' rx ry
      exact k _ _ ⟨.bl b, H, I, rfl, q⟩
    | _ => cases ha
  | dic ks xs =>
    cases dy with
    | dic ls ys =>
      unfold noRef at nx ny
      obtain ⟨a, c, e1, e2, k, _⟩ := rcQd I (A := X.A) (by omega) ih h nx ny px py' rx ry
      exact k _ _ ⟨.bl b, H, I, rfl, q⟩
    | _ => cases ha
  | _ => cases ha
theorem op_NeQ {X : Cx} (hu : X.A.units + 80 < cLine) : OpR X (compareOp .NotEq) (rEqQ true) := by
  intro pins s σ H x y v u Q I rx ry ⟨L, B, dx, dy, b, nx, ny, ha, h, px, py', q⟩
  have ih := eqQ_ok (L := L) (B := B) I 7 X.A.in1 (by show X.A.units + 1 + 7 + 64 < cLine; omega)
  cases dx with
  | lst xs =>
    cases dy with
    | lst ys =>
      unfold noRef at nx ny
      obtain ⟨a, c, e1, e2, _, k⟩ := rcQ I (A := X.A) (by omega) ih h nx ny px py' rx ry
      exact k _ _ ⟨.bl (!b), H, I, rfl, q⟩
    | _ => cases ha
  | dic ks xs =>
    cases dy with
    | dic ls ys =>
      unfold noRef at nx ny
      obtain ⟨a, c, e1, e2, _, k⟩ := rcQd I (A := X.A) (by omega) ih h nx ny px py' rx ry
      exact k _ _ ⟨.bl (!b), H, I, rfl, q⟩
    | _ => cases ha
  | _ => cases ha
/-- == and != of lists and dicts, else as before -/
def eqB (st : Sto) (x y : Dt) : Option Bool := (deref st 8 x).bind fun a => (deref st 8 y).bind fun b => if alikeD a b = true then (if noRef a = true ∧ noRef b = true then eqQ 8 a b else none) else eqD st x y
def gEqB (st : Sto) (x y : Dt) : Option (Dt × Sto) := (eqB st x y).map fun b => (.bl b, st)
def gNeB (st : Sto) (x y : Dt) : Option (Dt × Sto) := (eqB st x y).map fun b => (.bl (!b), st)
def rEqZ (K : PySem.W.Frag) : R2 := fun x y H Q => rEqA K x y H Q ∨ rEqQ false x y H Q
def rNeZ (K : PySem.W.Frag) : R2 := fun x y H Q => rNeA K x y H Q ∨ rEqQ true x y H Q
theorem op_EqZ {X : Cx} {k : Nat} (hr : Room k X.A) : OpR X (compareOp .Eq) (rEqZ X.K) := OpR.or (op_EqA hr.units) (op_EqQ (by have := hr.un; omega))
theorem op_NeZ {X : Cx} {k : Nat} (hr : Room k X.A) : OpR X (compareOp .NotEq) (rNeZ X.K) := OpR.or (op_NeA hr.units) (op_NeQ (by have := hr.un; omega))
section
variable {T : List (Addr × Str)} {K : PySem.W.Frag}
theorem vo_EqZ : VO2 T (rEqZ K) gEqB := by
  intro Z L st H x y dx dy d st' Q w hx hy h q
  obtain ⟨b, h1, h2⟩ := Option.map_eq_some_iff.mp h
  cases h2
  obtain ⟨a, e1, e2⟩ := bind_some' h1
  obtain ⟨c, e3, e4⟩ := bind_some' e2
  split at e4
  · rename_i ha
    split at e4
    · rename_i hn
      exact .inr ⟨L, Z, a, c, b, hn.1, hn.2, ha, e4, deref_ok w e1 (hx.mono fun b z => .inl z), deref_ok w e3 (hy.mono fun b z => .inl z), q _ H L (.refl w) Den.bl⟩
    · cases e4
  · exact .inl (vo_Eq Z L st H x y dx dy _ _ Q w hx hy (by unfold gEq; rw [e4]; rfl) q)
theorem vo_NeZ : VO2 T (rNeZ K) gNeB := by
  intro Z L st H x y dx dy d st' Q w hx hy h q
  obtain ⟨b, h1, h2⟩ := Option.map_eq_some_iff.mp h
  cases h2
  obtain ⟨a, e1, e2⟩ := bind_some' h1
  obtain ⟨c, e3, e4⟩ := bind_some' e2
  split at e4
  · rename_i ha
    split at e4
    · rename_i hn
      exact .inr ⟨L, Z, a, c, b, hn.1, hn.2, ha, e4, deref_ok w e1 (hx.mono fun b z => .inl z), deref_ok w e3 (hy.mono fun b z => .inl z), q _ H L (.refl w) Den.bl⟩
    · cases e4
  · exact .inl (vo_Ne Z L st H x y dx dy _ _ Q w hx hy (by unfold gNe; rw [e4]; rfl) q)
end
end HB

set_option Elab.async false
set_option linter.all false
set_option maxRecDepth 100000
set_option maxHeartbeats 1000000
/-! HB, part w: while, clear, list(d), list(d.items()), xs[::-1], dict(pairs), displays of dicts, xs * k, is None, targets of many names. -/
namespace HB
open PySem PySem.Spec PyProof.Rows L2

/-! ### dicts out of pairs -/
def pMrg {α : Type} : List Key → List α → List (Key × α) → List Key × List α
  | ks, ys, [] => (ks, ys)
  | ks, ys, p :: r => pMrg (pPut p.1 p.2 ks ys).1 (pPut p.1 p.2 ks ys).2 r
theorem pMrg_len {α : Type} : ∀ (r : List (Key × α)) (ks : List Key) (ys : List α), ks.length = ys.length → (pMrg ks ys r).1.length = (pMrg ks ys r).2.length
  | [], ks, ys, h => h
  | p :: r, ks, ys, h => pMrg_len r _ _ (pPut_len p.1 p.2 h)
theorem pMrg_zip : ∀ (r : List (Key × V)) (ks : List Key) (vs : List V), ks.length = vs.length → mergeK (ks.zip vs) r = (pMrg ks vs r).1.zip (pMrg ks vs r).2
  | [], ks, vs, h => rfl
  | p :: r, ks, vs, h => by
    show mergeK (putK (ks.zip vs) p.1 p.2) r = _
    rw [pPut_zip p.1 p.2 h]
    exact pMrg_zip r _ _ (pPut_len p.1 p.2 h)
theorem pMrg_ok {L : List Addr} {B : Addr → Prop} {H : Hp} : ∀ (ps : List Key) (ds : List Dt) (vs : List V) (ks : List Key) (xs : List Dt) (us : List V), Dens L B H ds vs → Dens L B H xs us → (pMrg ks xs (ps.zip ds)).1 = (pMrg ks us (ps.zip vs)).1 ∧ Dens L B H (pMrg ks xs (ps.zip ds)).2 (pMrg ks us (ps.zip vs)).2
  | [], ds, vs, ks, xs, us, _, h => ⟨rfl, h⟩
  | p :: ps, [], vs, ks, xs, us, d, h => by
    unfold Dens at d
    subst d
    exact ⟨rfl, h⟩
  | p :: ps, d :: ds, vs, ks, xs, us, q, h => by
    obtain ⟨v, vs', rfl, pv, t⟩ := q.uncons
    have ih := pMrg_ok ps ds vs' (pPut p d ks xs).1 (pPut p d ks xs).2 (pPut p v ks us).2 t (Dens.pPut pv p h)
    show (pMrg (pPut p d ks xs).1 (pPut p d ks xs).2 (ps.zip ds)).1 = (pMrg (pPut p v ks us).1 (pPut p v ks us).2 (ps.zip vs')).1 ∧ Dens L B H (pMrg (pPut p d ks xs).1 (pPut p d ks xs).2 (ps.zip ds)).2 (pMrg (pPut p v ks us).1 (pPut p v ks us).2 (ps.zip vs')).2
    rw [← pPut_keys p d v ks xs us]
    exact ih
/-- what a list of pairs makes -/
def pairD : Dt → Option (Key × Dt)
  | .tup [k, v] => (keyD k).map fun k => (k, v)
  | _ => none
def pairsD : List Dt → Option (List Key × List Dt)
  | [] => some ([], [])
  | d :: ds => (pairD d).bind fun p => (pairsD ds).map fun r => (p.1 :: r.1, p.2 :: r.2)
theorem pairs_ok {L : List Addr} {B : Addr → Prop} {H : Hp} {K : PySem.W.Frag} : ∀ {ds : List Dt} {vs : List V} {ks : List Key} {xs : List Dt}, Dens L B H ds vs → pairsD ds = some (ks, xs) → ∃ (as : List Addr) (us : List V), vs = as.map V.ref ∧ ks.length = us.length ∧ Dens L B H xs us ∧ Paired (fun p kv => SqT K H p [kV kv.1, kv.2]) as (ks.zip us)
  | [], vs, ks, xs, h, e => by
    unfold Dens at h
    subst h
    cases e
    exact ⟨[], [], rfl, rfl, .nil, .nil⟩
  | d :: ds, vs, ks, xs, h, e => by
    obtain ⟨v, r, rfl, q, t⟩ := h.uncons
    obtain ⟨⟨k, y⟩, e1, e2⟩ := bind_some' e
    obtain ⟨⟨ks', xs'⟩, e3, e4⟩ := Option.map_eq_some_iff.mp e2
    cases e4
    obtain ⟨as, us, rfl, hl, dn, pr⟩ := pairs_ok (K := K) t e3
    unfold pairD at e1
    split at e1
    · rename_i kd vd
      obtain ⟨k', e5, e6⟩ := Option.map_eq_some_iff.mp e1
      cases e6
      unfold Den at q
      obtain ⟨a, ws, rfl, ha, tw⟩ := q
      obtain ⟨x, y', rfl, px, py'⟩ := dens2 tw
      have ek := keyD_ok px e5
      subst ek
      exact ⟨a :: as, y' :: us, rfl, by simp [hl], .cons py' dn, .cons (SqT.of ha) pr⟩
    · cases e1
def gDictP (st : Sto) (xs : List Dt) : Option (Dt × Sto) := match xs with
  | [x] => (asL st x).bind fun ds => (pairsD ds).map fun p => (.dic (pMrg [] [] (p.1.zip p.2)).1 (pMrg [] [] (p.1.zip p.2)).2, st)
  | _ => none
def gDictPR (st : Sto) (xs : List Dt) : Option (Dt × Sto) := match xs with
  | [x] => (asL st x).bind fun ds => (pairsD ds).map fun p => (.ref st.length, st ++ [some (.dic (pMrg [] [] (p.1.zip p.2)).1 (pMrg [] [] (p.1.zip p.2)).2)])
  | _ => none
def rDictP (K : PySem.W.Frag) : List V → Hp → VK → Prop := fun xs H Q => ∃ (a : Addr) (ps : List Addr) (kvs : List (Key × V)), xs = [.ref a] ∧ SqL K H a (ps.map V.ref) ∧ Paired (fun p kv => SqT K H p [kV kv.1, kv.2]) ps kvs ∧
    ∀ p, H p = none → Q (.ref p) (upd H p (.dK (mergeK [] kvs)))
section
variable {T : List (Addr × Str)} {K : PySem.W.Frag}
theorem vo_dictP : VON T (rDictP K) gDictP := by
  intro Z L st H xs dxs d st' Q w hx h q
  unfold gDictP at h
  split at h
  · rename_i x
    obtain ⟨ds, h1, h2⟩ := bind_some' h
    obtain ⟨⟨ks, ys⟩, h3, h4⟩ := Option.map_eq_some_iff.mp h2
    cases h4
    obtain ⟨v, rfl, p⟩ := dens1 hx
    obtain ⟨a, vs, rfl, ea, t⟩ := asL_ok w p h1
    obtain ⟨as, us, rfl, hl, dn, pr⟩ := pairs_ok (K := K) t h3
    refine ⟨a, as, ks.zip us, rfl, SqL.of ea, pr, fun p np => ?_⟩
    obtain ⟨k1, k2⟩ := pMrg_ok ks ys us [] [] [] dn .nil
    have e1 : mergeK [] (ks.zip us) = (pMrg [] [] (ks.zip us)).1.zip (pMrg [] [] (ks.zip us)).2 := pMrg_zip (ks.zip us) [] [] rfl
    rw [e1]
    refine q _ _ L (.new w np) ?_
    rw [k1]
    exact .newD w np (pMrg_len _ _ _ rfl) k2
  · cases h
theorem vo_dictPR : VON T (rDictP K) gDictPR := by
  intro Z L st H xs dxs d st' Q w hx h q
  unfold gDictPR at h
  split at h
  · rename_i x
    obtain ⟨ds, h1, h2⟩ := bind_some' h
    obtain ⟨⟨ks, ys⟩, h3, h4⟩ := Option.map_eq_some_iff.mp h2
    cases h4
    obtain ⟨v, rfl, p⟩ := dens1 hx
    obtain ⟨a, vs, rfl, ea, t⟩ := asL_ok w p h1
    obtain ⟨as, us, rfl, hl, dn, pr⟩ := pairs_ok (K := K) t h3
    refine ⟨a, as, ks.zip us, rfl, SqL.of ea, pr, fun p np => ?_⟩
    obtain ⟨k1, k2⟩ := pMrg_ok ks ys us [] [] [] dn .nil
    have e1 : mergeK [] (ks.zip us) = (pMrg [] [] (ks.zip us)).1.zip (pMrg [] [] (ks.zip us)).2 := pMrg_zip (ks.zip us) [] [] rfl
    rw [e1, ← k1]
    refine q _ _ (L ++ [p]) (.newR w np ⟨_, rfl, ?_, k2⟩) ?_
    · rw [k1]; exact pMrg_len _ _ _ rfl
    · unfold Den
      exact ⟨p, by rw [← w.len]; simp, rfl⟩
  · cases h
end
/-! ### list(d), list(d.items()) -/
def keyDt : Key → Dt
  | .inl i => .int i
  | .inr x => .str x
def rListR : List V → Hp → VK → Prop := fun xs H Q => ∃ p kvs, xs = [.ref p] ∧ Rd H p (.dK kvs) ∧ ∀ q, H q = none → Q (.ref q) (upd H q (.lst (kvs.map fun kv => kV kv.1)))
theorem call_listR {X : Cx} (hc : X.calm = true) : CallR X (.type "list") rListR := by
  rintro pins s σ H _ us Q I r ⟨p, kvs, rfl, hk, q⟩
  obtain ⟨u, rfl, rx⟩ := vals1 r
  obtain rfl : u = Value.ref p := rx
  obtain ⟨z, lo, vs, rk, hd⟩ := hk.ok I.hok
  obtain ⟨ep, hat⟩ := hd.dictAt
  have hl := rk.length
  refine PySem.W.kdl_call (PySem.W.kdl_dict (knd := mixKind X.prog X.w) (kvs := vs) (ep := ep) lo) (I.ok.hd hc) hat (by omega) fun h' tk ac c' kp hS ha => ⟨.ref s.heap.objs.size, upd H s.heap.objs.size (.lst (kvs.map fun kv => kV kv.1)), I.laid kp (Nat.le_refl _) (show ObjOk X.prog X.w _ _ _ (.lst (kvs.map fun kv => kV kv.1)) from ⟨by rw [List.length_map]; exact z, ac.toList, c', ?_, by rw [Array.toArray_toList]; exact hS⟩), rfl, q _ (I.hok.fresh (Nat.le_refl _))⟩
  have el : ac.toList.length = ac.size := by simp
  refine vals_of_at (by rw [List.length_map, el, ha.1, hl]) fun j x y h1 h2 => ?_
  obtain ⟨k, y', hk', hi⟩ := ha.2 j y (by rw [← Array.getElem?_toList]; exact h2)
  obtain ⟨x', e1, _⟩ := KV.at' rk hk'
  rw [List.getElem?_map, e1] at h1
  cases h1
  exact keyIs_rel hi
def gListD (st : Sto) (xs : List Dt) : Option (Dt × Sto) := match xs with
  | [x] => (match asL st x with
    | some ds => some (.lst ds, st)
    | none => (asD st x).map fun p => (.lst (p.1.map keyDt), st))
  | _ => none
def gListDR (st : Sto) (xs : List Dt) : Option (Dt × Sto) := match xs with
  | [x] => (match asL st x with
    | some ds => some (.ref st.length, st ++ [some (.lst ds)])
    | none => (asD st x).map fun p => (.ref st.length, st ++ [some (.lst (p.1.map keyDt))]))
  | _ => none
def rListO (K : PySem.W.Frag) : List V → Hp → VK → Prop := fun xs H Q => ∃ p ys, xs = [.ref p] ∧ (SqL K H p ys ∨ SqT K H p ys) ∧ ∀ l, H l = none → Q (.ref l) (upd H l (.lst ys))
def rListA (K : PySem.W.Frag) : List V → Hp → VK → Prop := fun xs H Q => rListO K xs H Q ∨ rListR xs H Q
theorem call_listA {X : Cx} (hc : X.calm = true) : CallR X (.type "list") (rListA X.K) := CallR.or call_list_of (call_listR hc)
theorem dens_keys {L : List Addr} {B : Addr → Prop} {H : Hp} : ∀ (ks : List Key) (vs : List V), ks.length = vs.length → Dens L B H (ks.map keyDt) ((ks.zip vs).map fun kv => kV kv.1)
  | [], _, _ => .nil
  | k :: ks, [], h => by simp at h
  | k :: ks, v :: vs, h => by
    refine .cons ?_ (dens_keys ks vs (by simpa using h))
    cases k with
    | inl i => exact Den.int
    | inr x => exact Den.str
section
variable {T : List (Addr × Str)} {K : PySem.W.Frag}
theorem vo_listD : VON T (rListA K) gListD := by
  intro Z L st H xs dxs d st' Q w hx h q
  unfold gListD at h
  split at h
  · obtain ⟨v, rfl, p⟩ := dens1 hx
    split at h
    · rename_i ds hd
      cases h
      obtain ⟨a, vs, rfl, ea, t⟩ := asL_ok w p hd
      exact .inl ⟨a, vs, rfl, .inl (SqL.of ea), fun l nl => q _ _ L (.new w nl) (.newL w nl t)⟩
    · obtain ⟨⟨ks, ds⟩, h1, h2⟩ := Option.map_eq_some_iff.mp h
      cases h2
      obtain ⟨a, vs, rfl, ra, hl, t⟩ := asD_ok w p h1
      exact .inr ⟨a, _, rfl, ra, fun l nl => q _ _ L (.new w nl) (.newL w nl (dens_keys ks vs hl))⟩
  · cases h
theorem vo_listDR : VON T (rListA K) gListDR := by
  intro Z L st H xs dxs d st' Q w hx h q
  have fin : ∀ (l : Addr) (ds : List Dt) (vs : List V), H l = none → Dens L (Bad Z L st) H ds vs → (∀ v H' L', Af T Z L st H L' (st ++ [some (.lst ds)]) H' → Den L' (Bad Z L' (st ++ [some (.lst ds)])) H' (.ref st.length) v → Q v H') → Q (.ref l) (upd H l (.lst vs)) := fun l ds vs nl t q => by
    refine q _ _ (L ++ [l]) (.newR w nl ⟨vs, rfl, t⟩) ?_
    unfold Den
    exact ⟨l, by rw [← w.len]; simp, rfl⟩
  unfold gListDR at h
  split at h
  · obtain ⟨v, rfl, p⟩ := dens1 hx
    split at h
    · rename_i ds hd
      cases h
      obtain ⟨a, vs, rfl, ea, t⟩ := asL_ok w p hd
      exact .inl ⟨a, vs, rfl, .inl (SqL.of ea), fun l nl => fin l ds vs nl t q⟩
    · obtain ⟨⟨ks, ds⟩, h1, h2⟩ := Option.map_eq_some_iff.mp h
      cases h2
      obtain ⟨a, vs, rfl, ra, hl, t⟩ := asD_ok w p h1
      exact .inr ⟨a, _, rfl, ra, fun l nl => fin l _ _ nl (dens_keys ks vs hl) q⟩
  · cases h
end
/-- list(e.items()) -/
def rItR : V → Hp → VK → Prop := fun x H Q => ∃ (d : Addr) (kvs : List (Key × V)), x = .ref d ∧ Rd H d (.dK kvs) ∧
  ∀ (H' : Hp) (p : Addr) (ts : List Addr), (∀ b o, H b = some o → H' b = some o) → H p = none → (∀ t ∈ ts, H t = none) → p ∉ ts → H' p = some (.lst (ts.map V.ref)) → Paired (fun (t : Addr) (q : Key × V) => H' t = some (.tup [kV q.1, q.2])) ts kvs → Q (.ref p) H'
def tItR (te : TE) : TE := fun σ H Q => te σ H fun x H1 => rItR x H1 Q
theorem pe_itR {X : Cx} {e : Expr} {te : TE} {p ap cp pos : Pos} (hc : X.calm = true) (he : PE X e te) (hg : Gl X "list") (hm : X.mg "list" = none) (hb : attributeBase e "items" X.env (eval e X.env) = eval e X.env := by rfl) (hl : (ap.endLine == cp.line) = true := by rfl)
    (hs : starEach [.Call (.Attribute e "items" ap) [] [] cp] X.env = (false, eval (.Call (.Attribute e "items" ap) [] [] cp) X.env) :: starEach [] X.env := by rfl) :
    PE X (.Call (.Name "list" p) [.Call (.Attribute e "items" ap) [] [] cp] [] pos) (tItR te) := by
  constructor
  intro pins s σ H Q I hq
  refine wpAny_Call_Name_kw (ld_blt I hg hm boot_list (PyProof.Rows.callWith_type1 ?_ hs rfl))
  rw [hs]
  refine Calls.spliced_cons (wpAny_Call_method (T := "dict") (id := "dict.items") hb rfl hl F.plainAttrs_dict F.slot_dict_items F.type_dict_items (thn (he.run pins s σ H _ I hq) ?_))
  rintro u s1 ⟨x, H1, I1, rx, d, kvs, rfl, hd, q⟩
  obtain rfl : u = Value.ref d := rx
  obtain ⟨hz, hs0, vs, kv, hdo⟩ := hd.ok I1.hok
  obtain ⟨ep, hat⟩ := hdo.dictAt
  have lk := kv.length
  have I2 : Inv X pins σ H1 { s1 with heap := s1.heap.push { cls := .type "dict_items", data := .fields #[.ref d] } } := I1.kept (t' := s1.toks) fun _ _ q => Heap.get?_push_of_some _ q
  refine ⟨hdo.typeIs, hdo.mapOf.noDict, ?_⟩
  show wpAny _ _ (callWith cp (.builtin "dict.items") _ [] []) _ X.xe s1
  refine method_meetsIn F.slot_dict_items F.entry_dict_items rfl (PySem.evalArgs_none ⟨rfl, hdo.typeIs, F.args_dict_items_1 _, _, meets_dict_items (mixKind X.prog X.w) d hs0, ⟨vs, hdo⟩, Calls.spliced_nil ?_⟩)
  refine PySem.W.kdx_call (knd := mixKind X.prog X.w) (kvs := vs) (ep := ep) (I1.ok.hd hc) ⟨_, Heap.get?_push_size _ rfl, rfl, rfl⟩ (hat.push _) (by omega) fun h' tk ac c as hk hS hl hG ha => ?_
  obtain ⟨H', k1, k2, k3, k4, k5, k6, J⟩ := LiI.items_laid (tk := tk) I2 hz kv hk hS hl hG ha
  exact ⟨.ref _, H', J, rfl, q H' _ as k1 k2 k3 k4 k5 k6⟩
def itemsL (ks : List Key) (ds : List Dt) : List Dt := (ks.zip ds).map fun p => .tup [keyDt p.1, p.2]
def eItems (f : SE) : SE := fun r st => (f r st).bind fun x => (asD x.2 x.1).map fun p => (.lst (itemsL p.1 p.2), x.2)
section
variable {T : List (Addr × Str)}
theorem dens_items {L : List Addr} {B : Addr → Prop} {H H' : Hp} (hk : ∀ b o, H b = some o → H' b = some o) : ∀ (ks : List Key) (ds : List Dt) (vs : List V) (ts : List Addr), ks.length = vs.length → Dens L B H ds vs → Paired (fun (t : Addr) (q : Key × V) => H' t = some (.tup [kV q.1, q.2])) ts (ks.zip vs) → Dens L B H' (itemsL ks ds) (ts.map V.ref)
  | [], ds, vs, ts, _, _, pr => by
    cases pr
    exact .nil
  | k :: ks, [], vs, ts, hl, d, pr => by
    unfold Dens at d
    subst d
    simp at hl
  | k :: ks, x :: ds, vs, ts, hl, d, pr => by
    obtain ⟨v, vs', rfl, pv, t⟩ := d.uncons
    rw [List.zip_cons_cons] at pr
    cases pr with
    | @cons t0 _ ts' _ h1 h2 =>
      refine Dens.cons ?_ (dens_items hk ks ds vs' ts' (by simpa using hl) t h2)
      unfold Den
      refine ⟨t0, [kV k, v], rfl, h1, .cons ?_ (.cons (pv.ext hk) .nil)⟩
      cases k with
      | inl i => exact Den.int
      | inr x => exact Den.str
theorem sim_items {te : TE} {f : SE} (hf : SimE T te f) : SimE T (tItR te) (eItems f) := by
  intro Z L st H s r d st' Q w e h q
  obtain ⟨⟨dx, st1⟩, h1, h2⟩ := bind_some' h
  obtain ⟨⟨ks, ds⟩, h3, h4⟩ := Option.map_eq_some_iff.mp h2
  cases h4
  refine hf Z L st H s r dx _ _ w e h1 fun x H1 L1 f1 p1 => ?_
  obtain ⟨a, vs, rfl, ra, hl, t⟩ := asD_ok f1.wd p1 h3
  refine ⟨a, _, rfl, ra, fun H' p ts kp np nt hp ep pr => ?_⟩
  have f2 : Af T Z L1 st1 H1 L1 st1 H' := Afz.ext f1.wd kp
  refine q _ H' L1 (f1.trans f2) ?_
  unfold Den
  exact ⟨p, ts.map V.ref, rfl, f1.wd.notBad np, ep, dens_items kp ks ds vs ts hl t pr⟩
/-! ### xs[::-1] -/
def eRev (f : SE) : SE := fun r st => (f r st).bind fun x => (asL x.2 x.1).map fun ds => (.lst ds.reverse, x.2)
theorem sim_rev {te : TE} {f : SE} {K : PySem.W.Frag} (hf : SimE T te f) : SimE T (tRevL K te) (eRev f) := by
  intro Z L st H s r d st' Q w e h q
  obtain ⟨⟨dx, st1⟩, h1, h2⟩ := bind_some' h
  obtain ⟨ds, h3, h4⟩ := Option.map_eq_some_iff.mp h2
  cases h4
  refine hf Z L st H s r dx _ _ w e h1 fun x H1 L1 f1 p1 => ?_
  obtain ⟨a, vs, rfl, ea, t⟩ := asL_ok f1.wd p1 h3
  exact ⟨a, vs, rfl, SqL.of ea, fun p np => q _ _ L1 (f1.trans (.new f1.wd np)) (.newL f1.wd np t.reverse)⟩
/-! ### d.clear() -/
def eClr (f : SE) : SE := fun r st => (f r st).bind fun x => match x.1 with
  | .ref k => (match x.2[k]? with
    | some (some (.dic _ _)) => some (.non, x.2.set k (some (.dic [] [])))
    | _ => none)
  | _ => none
theorem sim_clr {te : TE} {f : SE} {K : PySem.W.Frag} (hf : SimE T te f) : SimE T (tBM0 K "dict" rDClear te) (eClr f) := by
  intro Z L st H s r d st' Q w e h q
  obtain ⟨⟨dx, st1⟩, h1, h2⟩ := bind_some' h
  refine hf Z L st H s r dx _ _ w e h1 fun x H1 L1 f1 p1 => ?_
  cases dx with
  | ref k =>
    dsimp only at h2
    split at h2
    · rename_i ks ds hk
      cases h2
      unfold Den at p1
      obtain ⟨a, ka, rfl⟩ := p1
      obtain ⟨nz, o, eo, vs, rfl, el, t⟩ := f1.wd.own k a _ ka hk
      refine ⟨.inr (.inr (.inl ⟨rfl, .inl ⟨_, eo⟩⟩)), a, _, rfl, rfl, eo, ?_⟩
      have af := Afz.wr (o := .dK []) (d' := .dic [] []) f1.wd ka hk ⟨[], rfl, rfl, .nil⟩
      exact q _ _ L1 (f1.trans af) Den.non
    · cases h2
  | _ => cases h2
/-! ### displays of dicts -/
def ePairs : List (SE × SE) → Evr → Sto → Option ((List Key × List Dt) × Sto)
  | [] => fun _ st => some (([], []), st)
  | p :: r => fun ev st => (p.1 ev st).bind fun x => (p.2 ev x.2).bind fun y => (keyD x.1).bind fun k => (ePairs r ev y.2).map fun z => ((k :: z.1.1, y.1 :: z.1.2), z.2)
def eDisp (ps : List (SE × SE)) : Evr → Sto → Option ((List Key × List Dt) × Sto) := fun ev st => (ePairs ps ev st).bind fun z => if z.1.1.length ≤ 15 then some (pMrg [] [] (z.1.1.zip z.1.2), z.2) else none
theorem pairs_run : ∀ (ps : List (SE × SE)) {Z : Addr → Prop} {L : List Addr} {st : Sto} {H : Hp} {s : L2.St} {ev : Evr} {ks : List Key} {ds : List Dt} {st' : Sto} {Q : List (V × V) → Hp → Prop}, Wd T Z L st H → EnvOk L (Bad Z L st) H ev s → ePairs ps ev st = some ((ks, ds), st') →
    (∀ vs H' L', Af T Z L st H L' st' H' → ks.length = vs.length → Dens L' (Bad Z L' st') H' ds vs → Q ((ks.zip vs).map fun kv => (kV kv.1, kv.2)) H') → tPairs (ps.map fun p => (rE T p.1, rE T p.2)) s H Q
  | [], Z, L, st, H, s, ev, ks, ds, st', Q, w, e, h, q => by
    cases h
    exact q [] H L (.refl w) rfl .nil
  | p :: ps, Z, L, st, H, s, ev, ks, ds, st', Q, w, e, h, q => by
    obtain ⟨⟨dx, st1⟩, h1, h⟩ := bind_some' h
    obtain ⟨⟨dy, st2⟩, h2, h⟩ := bind_some' h
    obtain ⟨k, h3, h⟩ := bind_some' h
    obtain ⟨⟨⟨ks', ds'⟩, st3⟩, h4, h5⟩ := Option.map_eq_some_iff.mp h
    cases h5
    refine sE Z L st H s ev dx st1 _ w e h1 fun x H1 L1 f1 p1 => ?_
    refine sE Z L1 st1 H1 s ev dy st2 _ f1.wd (e.keep f1) h2 fun y H2 L2 f2 p2 => ?_
    refine pairs_run ps f2.wd ((e.keep f1).keep f2) h4 fun vs H3 L3 f3 hl t => ?_
    have ek := keyD_ok p1 h3
    subst ek
    exact q (y :: vs) H3 L3 (f1.trans (f2.trans f3)) (by simp [hl]) (.cons (p2.keep f3) t)
theorem disp_run (ps : List (SE × SE)) {Z : Addr → Prop} {L : List Addr} {st : Sto} {H : Hp} {s : L2.St} {ev : Evr} {ks : List Key} {ds : List Dt} {st' : Sto} {Q : VK} (w : Wd T Z L st H) (e : EnvOk L (Bad Z L st) H ev s) (h : eDisp ps ev st = some ((ks, ds), st'))
    (q : ∀ D vs H' L', Afz T Z L st H (zAnd Z D) L' st' H' → H D = none → H' D = some (.dK (ks.zip vs)) → ks.length = vs.length → Dens L' (Bad (zAnd Z D) L' st') H' ds vs → Q (.ref D) H') : tDisp (ps.map fun p => (rE T p.1, rE T p.2)) s H Q := by
  obtain ⟨⟨⟨ks0, ds0⟩, st1⟩, h1, h2⟩ := bind_some' h
  split at h2
  case isFalse => cases h2
  case isTrue h15 =>
  have e2 : pMrg [] [] (ks0.zip ds0) = (ks, ds) := congrArg Prod.fst (Option.some.inj h2)
  have e3 : st1 = st' := congrArg Prod.snd (Option.some.inj h2)
  subst e3
  intro D nD
  have m1 : Afz T Z L st H (zAnd Z D) L st (upd H D (.dK [])) := Afz.mine w nD
  refine pairs_run ps m1.wd (e.keep m1) h1 fun vs H2 L2 f2 hl t => ?_
  have hD : H2 D = some (.dK []) := f2.kp D _ upd_same (fun z => by
    obtain ⟨j, d, j1, j2⟩ := z
    exact (m1.wd.own j D d j1 j2).1 (.inr rfl)) (fun ps z => by cases z)
  refine ⟨hD, ks0.zip vs, rfl, by rw [List.length_zip]; dsimp only at h15; omega, ?_⟩
  have zD : zAnd Z D D := .inr rfl
  have tD : ∀ zs, H2 D ≠ some (.tup zs) := fun zs z => by rw [hD] at z; cases z
  obtain ⟨k1, k2⟩ := pMrg_ok ks0 ds0 vs [] [] [] t .nil
  have e1 : mergeK [] (ks0.zip vs) = (pMrg [] [] (ks0.zip vs)).1.zip (pMrg [] [] (ks0.zip vs)).2 := pMrg_zip (ks0.zip vs) [] [] rfl
  have wd3 : Wd T (zAnd Z D) L2 st1 (upd H2 D (.dK (mergeK [] (ks0.zip vs)))) := f2.wd.chg zD fun u eu => by rw [hD] at eu; cases eu; exact .inr ⟨_, rfl⟩
  have fa := m1.trans f2
  refine q D _ _ L2 ⟨wd3, fa.pre, fun b u eb nl nt => ?_, fa.nw, fun b n z => ?_, fun b us eb => ?_, fa.fr, fa.zs⟩ nD (by rw [upd_same, e1, ← k1, e2]) (by rw [e2] at k1; rw [show ks = _ from k1]; exact pMrg_len _ _ _ rfl) (by rw [e2] at k2; exact k2.chg (.inl zD) tD)
  · rw [upd_ne (ne_of_none eb nD)]; exact fa.kp b u eb nl nt
  · by_cases hb : b = D
    · rw [hb, upd_same] at z; cases z
    · rw [upd_ne hb] at z; exact fa.trk b n z
  · rw [upd_ne (ne_of_none eb nD)]; exact fa.tp b us eb
theorem sim_dispV (ps : List (SE × SE)) : SimE T (tDisp (ps.map fun p => (rE T p.1, rE T p.2))) (dToV (eDisp ps)) := by
  intro Z L st H s r d st' Q w e h q
  obtain ⟨⟨⟨ks, zs⟩, st1⟩, a1, h⟩ := bind_some' h
  cases h
  refine disp_run ps w e a1 fun D vs H' L' ff nD hD hl hv => ?_
  refine q _ H' L' ff.back ?_
  unfold Den
  refine ⟨D, vs, rfl, fun z => ?_, .inl hD, hl, hv.mono bad_zAnd⟩
  rcases z with z | ⟨j, d, j1, j2⟩
  · exact w.zt D z nD
  · exact (ff.wd.own j D d j1 j2).1 (.inr rfl)
theorem sim_dispR (ps : List (SE × SE)) : SimE T (tDisp (ps.map fun p => (rE T p.1, rE T p.2))) (dToR (eDisp ps)) := by
  intro Z L st H s r d st' Q w e h q
  obtain ⟨⟨⟨ks, zs⟩, st1⟩, a1, h⟩ := bind_some' h
  cases h
  refine disp_run ps w e a1 fun D vs H' L' ff nD hD hl hv => ?_
  refine q _ H' (L' ++ [D]) (ff.claim w nD hD ⟨vs, rfl, hl, hv⟩) ?_
  unfold Den
  exact ⟨D, by rw [← ff.wd.len]; simp, rfl⟩
end
/-! ### xs * k -/
def rMulA : R2 := fun x y H Q => L2.rI CMul (fun i j => .int (i * j)) x y H Q ∨ L2.rRep x y H Q
theorem op_MulA {X : Cx} : OpR X (binaryOp .Mult) rMulA := OpR.or op_mul op_rep
def gMulA (st : Sto) (x y : Dt) : Option (Dt × Sto) := match x, y with
  | .int i, .int j => if cMul i j = true then some (.int (i * j), st) else none
  | x, .int k => (asL st x).bind fun ds => if -(2 ^ 63) ≤ k ∧ k < 2 ^ 63 ∧ ds.length * k.toNat ≤ sizeLine then some (.lst (List.replicate k.toNat ds).flatten, st) else none
  | _, _ => none
section
variable {T : List (Addr × Str)}
theorem Dens.rep {L : List Addr} {B : Addr → Prop} {H : Hp} {ds : List Dt} {vs : List V} (t : Dens L B H ds vs) : ∀ n : Nat, Dens L B H (List.replicate n ds).flatten (List.replicate n vs).flatten
  | 0 => .nil
  | n + 1 => by
    rw [List.replicate_succ, List.replicate_succ, List.flatten_cons, List.flatten_cons]
    exact t.append (Dens.rep t n)
theorem vo_MulA : VO2 T rMulA gMulA := by
  intro Z L st H x y dx dy d st' Q w hx hy h q
  unfold gMulA at h
  split at h
  · split at h
    · rename_i hc
      cases h
      exact .inl ⟨_, _, den_int hx, den_int hy, cMul_ok hc, q _ H L (.refl w) Den.int⟩
    · cases h
  · rename_i k _
    obtain ⟨ds, h1, h2⟩ := bind_some' h
    split at h2
    · rename_i hk
      cases h2
      obtain ⟨a, vs, rfl, ea, t⟩ := asL_ok w hx h1
      exact .inr ⟨a, k, vs, rfl, den_int hy, ea, hk.1, hk.2.1, by rw [← t.len]; exact hk.2.2, fun p np => q _ _ L (.new w np) (.newL w np (t.rep _))⟩
    · cases h2
  · cases h
end
/-! ### is None -/
def isNon : Dt → Bool
  | .non => true
  | _ => false
def gIsN (st : Sto) (x y : Dt) : Option (Dt × Sto) := match y with
  | .non => some (.bl (isNon x), st)
  | _ => none
def gNotN (st : Sto) (x y : Dt) : Option (Dt × Sto) := match y with
  | .non => some (.bl (!isNon x), st)
  | _ => none
section
variable {T : List (Addr × Str)}
theorem isNon_ok {L : List Addr} {B : Addr → Prop} {H : Hp} {d : Dt} {v : V} (h : Den L B H d v) : decide (v = .non) = isNon d := by
  cases d with
  | non => rw [den_non h]; rfl
  | bl b => rw [den_bl h]; rfl
  | int b => rw [den_int h]; rfl
  | str b => rw [den_str h]; rfl
  | ref k => unfold Den at h; obtain ⟨a, _, rfl⟩ := h; rfl
  | lst ds => unfold Den at h; obtain ⟨a, vs, rfl, _⟩ := h; rfl
  | tup ds => unfold Den at h; obtain ⟨a, vs, rfl, _⟩ := h; rfl
  | dic ks ds => unfold Den at h; obtain ⟨a, vs, rfl, _⟩ := h; rfl
theorem vo_isN : VO2 T (fun x y H Q => y = .non ∧ Q (.bl (decide (x = .non))) H) gIsN := by
  intro Z L st H x y dx dy d st' Q w hx hy h q
  unfold gIsN at h
  split at h
  · cases h
    exact ⟨den_non hy, by rw [isNon_ok hx]; exact q _ H L (.refl w) Den.bl⟩
  · cases h
theorem vo_notN : VO2 T (fun x y H Q => y = .non ∧ Q (.bl (!decide (x = .non))) H) gNotN := by
  intro Z L st H x y dx dy d st' Q w hx hy h q
  unfold gNotN at h
  split at h
  · cases h
    exact ⟨den_non hy, by rw [isNon_ok hx]; exact q _ H L (.refl w) Den.bl⟩
  · cases h
end
/-! ### targets of many names; x += e -/
def sAsg (k : SG) (f : SE) : SS := fun r st => (f r st).bind fun x => (k x.1 r).map fun r' => .nx r' x.2
def sPar (is : List Nat) (f : SA) : SS := fun r st => (f r st).bind fun x => if x.1.length = is.length then some (.nx ((is.zip x.1).foldl (fun r p => r.set p.1 (some p.2)) r) x.2) else none
def sAug (i : Nat) (g : Sto → Dt → Dt → Option (Dt × Sto)) (f : SE) : SS := fun r st => match r[i]? with
  | some (some d) => (f r st).bind fun y => (g y.2 d y.1).map fun z => .nx (r.set i (some z.1)) z.2
  | _ => none
section
variable {T : List (Addr × Str)}
theorem sim_asg {is : List Nat} {ta : TE} {fa : SE} {tg : TG} {k : SG} (ha : SimE T ta fa) (hg : SimG T is tg k) : SimS T (tAsg ta tg) (sAsg k fa) := by
  intro Z L st H s r o D w e h q
  obtain ⟨⟨dx, st1⟩, h1, h⟩ := bind_some' h
  obtain ⟨r', h2, h3⟩ := Option.map_eq_some_iff.mp h
  cases h3
  refine ha Z L st H s r dx st1 _ w e h1 fun v H1 L1 f1 p1 => ?_
  exact hg Z L1 st1 H1 s r v dx r' _ f1.wd (e.keep f1) p1 h2 fun s' e' _ => q s' H1 L1 f1 e'
theorem sim_par2 {i j : Nat} {ta : TA} {fa : SA} (ha : SimA T ta fa) : SimS T (tPar i j ta) (sPar [i, j] fa) := by
  intro Z L st H s r o D w e h q
  obtain ⟨⟨ds, st1⟩, h1, h⟩ := bind_some' h
  split at h
  · rename_i hl
    cases h
    refine ha Z L st H s r ds st1 _ w e h1 fun vs H1 L1 f1 p1 => ?_
    match ds, hl with
    | [x, y], _ =>
      obtain ⟨v, u, rfl, pv, pu⟩ := dens2 p1
      exact ⟨v, u, rfl, q _ H1 L1 f1 (((e.keep f1).set i pv).set j pu)⟩
  · cases h
theorem sim_par3 {i j l : Nat} {ta : TA} {fa : SA} (ha : SimA T ta fa) : SimS T (tPar3 i j l ta) (sPar [i, j, l] fa) := by
  intro Z L st H s r o D w e h q
  obtain ⟨⟨ds, st1⟩, h1, h⟩ := bind_some' h
  split at h
  · rename_i hl
    cases h
    refine ha Z L st H s r ds st1 _ w e h1 fun vs H1 L1 f1 p1 => ?_
    match ds, hl with
    | [x, y, z], _ =>
      obtain ⟨v, vs1, rfl, pv, p1⟩ := p1.uncons
      obtain ⟨u, t, rfl, pu, pt⟩ := dens2 p1
      exact ⟨v, u, t, rfl, q _ H1 L1 f1 ((((e.keep f1).set i pv).set j pu).set l pt)⟩
  · cases h
theorem sim_augI {i : Nat} {ta : TE} {fa : SE} {f : Int → Int → Int} (ha : SimE T ta fa) : SimS T (tAug i ta (ipI f)) (sAug i (gI cT f) fa) := by
  intro Z L st H s r o D w e h q
  unfold sAug at h
  split at h
  · rename_i d hd
    obtain ⟨⟨dy, st1⟩, h1, h⟩ := bind_some' h
    obtain ⟨⟨dz, st2⟩, h2, h3⟩ := Option.map_eq_some_iff.mp h
    cases h3
    obtain ⟨x, hx, px⟩ := e.2 i d hd
    refine ⟨x, hx, ha Z L st H s r dy st1 _ w e h1 fun y H1 L1 f1 p1 => ?_⟩
    cases d with
    | int a =>
      cases dy with
      | int b =>
        have h2' : (if cT a b = true then some (Dt.int (f a b), st1) else none) = some (dz, st2) := h2
        rw [if_pos rfl] at h2'
        cases h2'
        rw [den_int px, den_int p1]
        exact ⟨a, b, rfl, rfl, q _ H1 L1 f1 ((e.keep f1).set i Den.int)⟩
      | _ => cases h2
    | _ => cases h2
  · cases h
end
end HB

set_option Elab.async false
set_option linter.all false
set_option maxRecDepth 100000
set_option maxHeartbeats 1000000
/-! HB, part x: the rules of parts v and w as printed derivations use them. -/
namespace HB
open PySem PySem.Spec PyProof.Rows L2
section
variable {T : List (Addr × Str)} {X : Cx} {a b c e o : Expr} {es rest : List Expr} {fa fb fc : SE} {ga gb : ST} {fs : SA} {pos : Pos} {g k : SS}
theorem jsWh (n : Nat) {body : List Stmt} (hc : PT X c (rT T ga)) (hb : PSs X body (rS T g)) (hp : PassesOwn (model X.prog X.w) X.A X.env X.xe := by exact PassesOwn.never) : PS X (.While c body [] pos) (rS T (sWh ga g n)) := toS (ps_while hp hc hb) (sim_wh sT sS n)
theorem jClr {ap : Pos} (ho : PE X o (rE T fa)) (hb : attributeBase o "clear" X.env (eval o X.env) = eval o X.env := by rfl) (hl : (ap.endLine == pos.line) = true := by rfl) : PE X (.Call (.Attribute o "clear" ap) [] [] pos) (rE T (eClr fa)) := toE (pe_dclear ho hb hl) (sim_clr sE)
theorem call_dictQ (hc : X.calm = true) : CallR X (.type "dict") (rDictP X.K) := call_dictP hc
theorem jItems {p ap cp : Pos} (hc : X.calm = true) (hg : Gl X "list") (hm : X.mg "list" = none) (he : PE X e (rE T fa)) (hb : attributeBase e "items" X.env (eval e X.env) = eval e X.env := by rfl) (hl : (ap.endLine == cp.line) = true := by rfl)
    (hs : starEach [.Call (.Attribute e "items" ap) [] [] cp] X.env = (false, eval (.Call (.Attribute e "items" ap) [] [] cp) X.env) :: starEach [] X.env := by rfl) : PE X (.Call (.Name "list" p) [.Call (.Attribute e "items" ap) [] [] cp] [] pos) (rE T (eItems fa)) := toE (pe_itR hc he hg hm hb hl hs) (sim_items sE)
theorem jRev {k : Nat} {p1 p2 p3 : Pos} (he : PE X e (rE T fa)) : PE X (.Subscript e (.Slice none none (some (.UnaryOp .USub (.Constant (.int 1) k p1) p2)) p3) pos) (rE T (eRev fa)) := toE (pe_revL he) (sim_rev sE)
theorem jpNil : PPs X pos [] [] (([] : List (SE × SE)).map fun p => (rE T p.1, rE T p.2)) := pps_nil
theorem jpCons {k v : Expr} {ks : List (Option Expr)} {vs : List Expr} {fk fv : SE} {ps : List (SE × SE)} (hk : PE X k (rE T fk)) (hv : PE X v (rE T fv)) (hr : PPs X pos ks vs (ps.map fun p => (rE T p.1, rE T p.2))) : PPs X pos (some k :: ks) (v :: vs) (((fk, fv) :: ps).map fun p => (rE T p.1, rE T p.2)) := pps_cons hk hv hr
theorem jDispV {keys : List (Option Expr)} {values : List Expr} {ps : List (SE × SE)} (h : PPs X pos keys values (ps.map fun p => (rE T p.1, rE T p.2))) (hall : keys.all (·.isSome) = true := by rfl) (hl : keys.length = values.length := by rfl) (h0 : keys ≠ [] := by (intro z; cases z)) (h15 : keys.length ≤ 15 := by decide) :
    PE X (.Dict keys values pos) (rE T (dToV (eDisp ps))) := toE (pe_disp h hall hl h0 h15) (sim_dispV ps)
theorem jDispR {keys : List (Option Expr)} {values : List Expr} {ps : List (SE × SE)} (h : PPs X pos keys values (ps.map fun p => (rE T p.1, rE T p.2))) (hall : keys.all (·.isSome) = true := by rfl) (hl : keys.length = values.length := by rfl) (h0 : keys ≠ [] := by (intro z; cases z)) (h15 : keys.length ≤ 15 := by decide) :
    PE X (.Dict keys values pos) (rE T (dToR (eDisp ps))) := toE (pe_disp h hall hl h0 h15) (sim_dispR ps)
theorem jMulA (ha : PE X a (rE T fa)) (hb : PE X b (rE T fb)) : PE X (.BinOp a .Mult b pos) (rE T (eOp2 gMulA fa fb)) := jOp op_MulA vo_MulA ha hb
/-! targets -/
theorem sim_g3 {K : PySem.W.Frag} {i j l : Nat} : SimG T [i, j, l] (gTup K 3 (gCons (gName i) (gCons (gName j) (gCons (gName l) gNil)))) (kTup (ksCons (kName i) (ksCons (kName j) (ksCons (kName l) ksNil)))) := by
  refine sim_gtup (is := [i] ++ ([j] ++ ([l] ++ []))) (sim_gcons sim_gname (sim_gcons sim_gname (sim_gcons sim_gname sim_gnil))) fun ds r r' h => ?_
  match ds, h with
  | [_, _, _], _ => rfl
  | [], h => cases h
  | [_], h => cases h
  | [_, _], h => cases h
  | _ :: _ :: _ :: _ :: _, h => cases h
theorem sim_g4 {K : PySem.W.Frag} {i j l m : Nat} : SimG T [i, j, l, m] (gTup K 4 (gCons (gName i) (gCons (gName j) (gCons (gName l) (gCons (gName m) gNil))))) (kTup (ksCons (kName i) (ksCons (kName j) (ksCons (kName l) (ksCons (kName m) ksNil))))) := by
  refine sim_gtup (is := [i] ++ ([j] ++ ([l] ++ ([m] ++ [])))) (sim_gcons sim_gname (sim_gcons sim_gname (sim_gcons sim_gname (sim_gcons sim_gname sim_gnil)))) fun ds r r' h => ?_
  match ds, h with
  | [_, _, _, _], _ => rfl
  | [], h => cases h
  | [_], h => cases h
  | [_, _], h => cases h
  | [_, _, _], h => cases h
  | _ :: _ :: _ :: _ :: _ :: _, h => cases h
theorem jg3 {x y z : Expr} {i j l k : Nat} (hc : X.calm = true) (h1 : PG X x (gName i)) (h2 : PG X y (gName j)) (h3 : PG X z (gName l)) (hs : (assignEach [x, y, z] X.env).map (·.2) = assign x X.env :: (assignEach [y, z] X.env).map (·.2) := by rfl) (hs2 : (assignEach [y, z] X.env).map (·.2) = assign y X.env :: (assignEach [z] X.env).map (·.2) := by rfl) (hs3 : (assignEach [z] X.env).map (·.2) = assign z X.env :: (assignEach [] X.env).map (·.2) := by rfl)
    (hn : (assignEach [x, y, z] X.env).length = 3 := by rfl) (hst : (assignEach [x, y, z] X.env).findIdx? (·.1) = none := by rfl) : PG X (.Tuple [x, y, z] k pos) (gTup X.K 3 (gCons (gName i) (gCons (gName j) (gCons (gName l) gNil)))) := pg_tup hc (pgs_cons h1 (pgs_cons h2 (pgs_cons h3 pgs_nil hs3) hs2) hs) hn hst
theorem jg4 {x y z v : Expr} {i j l m k : Nat} (hc : X.calm = true) (h1 : PG X x (gName i)) (h2 : PG X y (gName j)) (h3 : PG X z (gName l)) (h4 : PG X v (gName m)) (hs : (assignEach [x, y, z, v] X.env).map (·.2) = assign x X.env :: (assignEach [y, z, v] X.env).map (·.2) := by rfl) (hs2 : (assignEach [y, z, v] X.env).map (·.2) = assign y X.env :: (assignEach [z, v] X.env).map (·.2) := by rfl) (hs3 : (assignEach [z, v] X.env).map (·.2) = assign z X.env :: (assignEach [v] X.env).map (·.2) := by rfl) (hs4 : (assignEach [v] X.env).map (·.2) = assign v X.env :: (assignEach [] X.env).map (·.2) := by rfl)
    (hn : (assignEach [x, y, z, v] X.env).length = 4 := by rfl) (hst : (assignEach [x, y, z, v] X.env).findIdx? (·.1) = none := by rfl) : PG X (.Tuple [x, y, z, v] k pos) (gTup X.K 4 (gCons (gName i) (gCons (gName j) (gCons (gName l) (gCons (gName m) gNil))))) := pg_tup hc (pgs_cons h1 (pgs_cons h2 (pgs_cons h3 (pgs_cons h4 pgs_nil hs4) hs3) hs2) hs) hn hst
/-- x, y = e -/
theorem jsAsg {tg : Expr} {tgt : TG} {kt : SG} {is : List Nat} (hk : SimG T is tgt kt) (he : PE X e (rE T fa)) (hg : PG X tg tgt) (hs : swapsWithSole [tg] e pos.line X.env = pure false := by rfl) (hw : swappedStores [tg] e X.env = pure none := by rfl) (h1 : (assignEach [tg] X.env).map (·.2) = [assign tg X.env] := by rfl) :
    PS X (.Assign [tg] e pos) (rS T (sAsg kt fa)) := toS (ps_asg he hg hs hw h1) (sim_asg sE hk)
/-- x, y = a, b -/
theorem jsPar2 {i j : Nat} {x y : Str} {px py pt : Pos} {kt k2 : Nat} {pt2 : Pos} (hc : X.calm = true) (hN : X.N.Nodup) (ha : PA X [a, b] (rA T fs)) (hi : X.N[i]? = some x := by rfl) (hj : X.N[j]? = some y := by rfl) (hij : i ≠ j := by decide) (hx : X.env.scope.names.lookup x = some .local := by rfl) (hy : X.env.scope.names.lookup y = some .local := by rfl)
    (hw : swappedStores [.Tuple [.Name x px, .Name y py] kt pt] (.Tuple [a, b] k2 pt2) X.env = pure (some [x, y]) := by rfl) (hs : swapsWithSole [.Tuple [.Name x px, .Name y py] kt pt] (.Tuple [a, b] k2 pt2) pos.line X.env = pure false := by rfl) :
    PS X (.Assign [.Tuple [.Name x px, .Name y py] kt pt] (.Tuple [a, b] k2 pt2) pos) (rS T (sPar [i, j] fs)) := toS (ps_par hc hN hi hj hij hx hy ha hw hs) (sim_par2 sA)
theorem jsPar3 {i j l : Nat} {x y z : Str} {px py pz pt : Pos} {kt k2 : Nat} {pt2 : Pos} (hc : X.calm = true) (hN : X.N.Nodup) (ha : PA X [a, b, c] (rA T fs)) (hi : X.N[i]? = some x := by rfl) (hj : X.N[j]? = some y := by rfl) (hl : X.N[l]? = some z := by rfl) (hij : i ≠ j := by decide) (hil : i ≠ l := by decide) (hjl : j ≠ l := by decide) (hx : X.env.scope.names.lookup x = some .local := by rfl) (hy : X.env.scope.names.lookup y = some .local := by rfl) (hz : X.env.scope.names.lookup z = some .local := by rfl)
    (hw : swappedStores [.Tuple [.Name x px, .Name y py, .Name z pz] kt pt] (.Tuple [a, b, c] k2 pt2) X.env = pure (some [x, y, z]) := by rfl) (hs : swapsWithSole [.Tuple [.Name x px, .Name y py, .Name z pz] kt pt] (.Tuple [a, b, c] k2 pt2) pos.line X.env = pure false := by rfl) :
    PS X (.Assign [.Tuple [.Name x px, .Name y py, .Name z pz] kt pt] (.Tuple [a, b, c] k2 pt2) pos) (rS T (sPar [i, j, l] fs)) := toS (ps_par3 hc hN hi hj hl hij hil hjl hx hy hz ha hw hs) (sim_par3 sA)
theorem jsAugP {i : Nat} {x : Str} {p2 : Pos} (hN : X.N.Nodup) (he : PE X e (rE T fa)) (hi : X.N[i]? = some x := by rfl) (hx : Loc X.env.scope x := by first | exact Or.inl rfl | exact Or.inr rfl) (hf : X.fn x = true ∨ X.env.scope.names.lookup x = some .local := by first | exact .inl rfl | exact .inr rfl) :
    PS X (.AugAssign (.Name x p2) .Add e pos) (rS T (sAug i (gI cT fun i j => i + j) fa)) := toS (ps_aug hN hi hx he ip_add hf) (sim_augI sE)
end
end HB

set_option Elab.async false
set_option linter.all false
set_option maxRecDepth 100000
set_option maxHeartbeats 1000000
/-! HB, part y: calls by keywords in one order; dict comprehensions as live objects. -/
namespace HB
open PySem PySem.Spec PyProof.Rows L2
/-- a global name that holds such a def, called by keywords in the order q -/
structure GCq (P : Program) (w : World) (K : PySem.W.Frag) (mg : Str → Option Value) (base : Heap) (k : Nat) (x : Str) (ps : List Str) (q : List Nat) (sp : Sp) : Prop where
  ex : ∃ (f : Addr) (fd : FuncData), mg x = some (.ref f) ∧ PySem.W.keepIn K (.ref f) = true ∧ GFn P w K mg base k f fd ps sp ∧
    ∀ (s : Shared) (ws : List Value), ws.length = ps.length → BindsTo s fd ⟨[], (q.map fun i => ps.getD i "").zip (q.map fun i => ws.getD i .none)⟩ (ps.zip ws)
section
variable {X : Cx} {k : Nat} {x : Str} {ps : List Str} {sp : Sp} {p pos : Pos} {e : Expr} {es : List Expr} {t : TA} {kws : List Keyword}
theorem pe_gq {q : List Nat} (c : GCq X.prog X.w X.K X.mg X.base k x ps q sp) (hr : Room k X.A) (hg : X.A.guards = some []) (gl : Gl X x) (hk : PK X kws t) (hq : q.Perm (List.range ps.length)) (hdb : (x == ("__debug__" : Str)) = false := by decide)
    (hall : (backToKw pos (keywordEach kws X.env)).all (·.1.isSome) = true := by rfl) (hks : (backToKw pos (keywordEach kws X.env)).filterMap (·.1) = q.map fun i => ps.getD i "" := by rfl)
    (hpl : ((backTo pos (starEach [] X.env)).any (·.1) || (backToKw pos (keywordEach kws X.env)).any (·.1.isNone)) = false := by rfl) : PE X (.Call (.Name x p) [] kws pos) (tGk ps.length q sp t) := by
  obtain ⟨f, fd, hm, hk', F, hb⟩ := c.ex
  constructor
  intro pins s s1 H Q I h
  refine wpAny_Call_Name_kw (ld_glob I gl hm ?_ hdb)
  refine PySem.W.callWith_KW0 (h₀ := X.base) I.ok.mod.kin hk' hall (thn (hk.run pos pins s s1 H _ I h) fun ws s2 ⟨vs, H1, I1, r, us, hl, ev, qq⟩ => ⟨I1.kIn, ?_⟩) hpl
  rw [hks]
  have hm' : ∀ i, i < us.length → ∃ j, q[j]? = some i := fun i hi => by
    have : i ∈ q := hq.mem_iff.mpr (by simp; omega)
    exact List.mem_iff_getElem?.mp this
  -- the values in the parameters' order
  have key : ∃ zs : List Value, Vals us zs ∧ ws = q.map fun i => zs.getD i .none := by
    have hex : ∀ i : Nat, ∃ z : Value, i < us.length → (RelV (us.getD i .non) z ∧ ∀ j : Nat, q[j]? = some i → ws[j]? = some z) := fun i => by
      by_cases hi : i < us.length
      · obtain ⟨j, hj⟩ := hm' i hi
        have hv : vs[j]? = some (us.getD i .non) := by rw [ev, List.getElem?_map, hj]; rfl
        obtain ⟨z, hz, rz⟩ := r.get hv
        refine ⟨z, fun _ => ⟨rz, fun j' hj' => ?_⟩⟩
        have nd : q.Nodup := hq.nodup_iff.mpr List.nodup_range
        have : j = j' := nodupIx nd hj hj'
        subst this
        exact hz
      · exact ⟨.none, fun h => absurd h hi⟩
    obtain ⟨z, hz⟩ := Classical.axiomOfChoice hex
    refine ⟨(List.range us.length).map z, ?_, ?_⟩
    · have all : ∀ (n : Nat) (us' : List V) (g : Nat → Value), us'.length = n → (∀ i, i < n → RelV (us'.getD i .non) (g i)) → Vals us' ((List.range n).map g) := by
        intro n
        induction n with
        | zero => intro us' g h1 _; rw [List.length_eq_zero_iff.mp h1]; exact .nil
        | succ n ih =>
          intro us' g h1 h2
          match us', h1 with
          | u :: us', h1 =>
            rw [List.range_succ_eq_map, List.map_cons, List.map_map]
            exact .cons (h2 0 (by omega)) (ih us' _ (by simpa using h1) fun i hi => by simpa using h2 (i + 1) (by omega))
      exact all us.length us z rfl fun i hi => (hz i hi).1
    · apply List.ext_getElem?
      intro j
      rw [List.getElem?_map]
      cases hj : q[j]? with
      | none =>
        have : q.length ≤ j := List.getElem?_eq_none_iff.mp hj
        rw [List.getElem?_eq_none]
        · rfl
        · have e1 := r.length
          have e2 : vs.length = q.length := by rw [ev, List.length_map]
          omega
      | some i =>
        have hi : i < us.length := by
          have : i ∈ q := List.mem_of_getElem? hj
          have := hq.mem_iff.mp this
          simp at this
          omega
        rw [(hz i hi).2 j hj]
        simp [hi]
  obtain ⟨zs, rz, ez⟩ := key
  have hlz : zs.length = ps.length := by rw [← rz.length]; exact hl
  rw [ez]
  exact run_g F hr hg (hb s2 zs hlz) hlz I1 rz qq
end
section
variable {T : List (Addr × Str)} {P : Program} {w : World} {K : PySem.W.Frag} {mg : Str → Option Value} {base : Heap} {x : Str} {args : Arguments} {body : List Stmt} {sc : Scope} {f : Addr} {fd : FuncData} {N ps : List Str} {k : Nat}
theorem GCq.of {sp : Sp} {q : List Nat} (F : FunD K x x args body sc [] [] f fd) (hm : mg x = some (.ref f)) (G : GFn P w K mg base k f fd ps sp)
    (h2 : ∀ (kV doc pm : Value) (an : Option Addr) (cdv ct : Value) (ws : List Value), ws.length = ps.length → bindArgs (PySem.W.fnOf x x args body sc .none kV doc pm an cdv ct) ⟨[], (q.map fun i => ps.getD i "").zip (q.map fun i => ws.getD i .none)⟩ = pure (ps.zip ws)) : GCq P w K mg base k x ps q sp := by
  refine ⟨f, fd, hm, F.kp, G, fun s ws hl => ?_⟩
  obtain ⟨oc, od, dV, kV, doc, pm, an, cdv, ct, osl, rfl, lk, hcd, hD, hK⟩ := F.ex
  rcases hD with ⟨_, rfl⟩ | ⟨e, _⟩
  · exact .of_eq (h2 kV doc pm an cdv ct ws hl)
  · exact absurd rfl e
end
section
variable {T : List (Addr × Str)} {X : Cx} {e : Expr} {fa fb : SE} {ga : ST} {fs : SA} {pos : Pos}
theorem jCallQ {k : Nat} {x : Str} {ps : List Str} {F : List Dt → Sto → Option (Dt × Sto)} {p : Pos} {kws : List Keyword} {q : List Nat} (c : GCq X.prog X.w X.K X.mg X.base k x ps q (SpF T ps.length F)) (hr : Room k X.A) (hg : X.A.guards = some []) (gl : Gl X x) (hk : PK X kws (rA T fs)) (hq : q.Perm (List.range ps.length)) (hdb : (x == ("__debug__" : Str)) = false := by decide)
    (hall : (backToKw pos (keywordEach kws X.env)).all (·.1.isSome) = true := by rfl) (hks : (backToKw pos (keywordEach kws X.env)).filterMap (·.1) = q.map fun i => ps.getD i "" := by rfl)
    (hpl : ((backTo pos (starEach [] X.env)).any (·.1) || (backToKw pos (keywordEach kws X.env)).any (·.1.isNone)) = false := by rfl) : PE X (.Call (.Name x p) [] kws pos) (rE T (eN (gFk ps.length q F) fs)) := toE (pe_gq c hr hg gl hk hq hdb hall hks hpl) (sim_gk sA hq)
theorem jDcR {kx vx tg iter : Expr} {ifs : List Expr} {scope : Scope} {own : List (Str × Nat)} {g : TG} {k : SG} {fi : SA} {is : List Nat} (hc : X.calm = true) (hN : X.N.Nodup) (hk : SimG T is g k) (hi : PI X tg iter (rI T fi)) (ok : BlkOk X.N X.env.scope scope own)
    (hg : ∀ s H C cl fp, PG (blkX X scope s H C cl fp) tg g) (ht : ∀ s H C cl fp, PTs (blkX X scope s H C cl fp) ifs (rT T ga)) (hkx : ∀ s H C cl fp, PE (blkX X scope s H C cl fp) kx (rE T fa)) (hvx : ∀ s H C cl fp, PE (blkX X scope s H C cl fp) vx (rE T fb)) (hz : ∀ i ∈ is, i ∈ own.map (·.2)) (hs : ∀ x, foldedSetIterable iter X.env x = pure x := by intro _; rfl) :
    PE X (.DictComp kx vx [⟨tg, iter, ifs, 0⟩] scope pos) (rE T (dToR (dc fi (own.map (·.2)) k ga fa fb))) := toE (pe_dc hc hN hi ok hg ht hkx hvx hs) (sim_dcR sI hk sT sE sE hz)
end
end HB

set_option Elab.async false
set_option linter.all false
set_option maxRecDepth 100000
set_option maxHeartbeats 1000000
/-! The plain theory of words and states, with no def in sight. -/
namespace HB
open PySem PySem.Spec PyProof.Rows L2
def letB (z : Str) : Bool := !decide (z.cps.toList < ("!" : Str).cps.toList) && !decide (("~" : Str).cps.toList < z.cps.toList)
def wordB (n : Nat) (w : Str) : Bool := decide (1 ≤ w.length) && (decide (w.length ≤ 7) && (w.cps.toList.all (fun c => letB ⟨#[c]⟩) && decide (w.length = n)))
def goodW (ws : List Str) : Bool := decide (1 ≤ ws.length) && (decide (ws.length ≤ 5) && (ws.all (wordB (ws.headD "").length) && decide ws.Nodup))
def ins2 (k : Str) (l : List Str) : List Str := if k ∈ l then l else l ++ [k]
def pre (w : Str) (n : Nat) : Str := ⟨(w.cps.toList.take n).toArray⟩
def preOf (w : Str) : List Str := (List.range (w.length + 1)).map (pre w)
def keysOf (ws : List Str) : List Str := (ws.flatMap preOf).foldl (fun l k => ins2 k l) []
def allSt (ws : List Str) : List Str := sortK (keysOf ws)
def lastS (z : Str) : Str := ⟨#[z.cps.toList.getLastD 0]⟩
def after (ws : List Str) (s : Str) : List Str := ((allSt ws).filter fun (o : Str) => decide (o ≠ ("" : Str)) && decide (pre o (o.length - 1) = s)).map lastS
def below (ws : List Str) (s : Str) : List Str := (allSt ws).filter fun o => decide (o.length < s.length) && Txt.endswith s o
def bigM : Int := ((10 ^ 60) ^ 60) ^ 4
def mixN (a k : Int) : Int :=
  let n := (a % 1000003 + k * k * 7919 + k) * 48271 % 2147483629
  let m := n * n % 2147483587
  m * (m + 2) % 2147483579 / 7
structure Drw where
  a : Int
  k : Nat
  b : Bool
def Drw.dt (x : Drw) : Dt := .lst [.int x.a, .int x.k, .bl x.b]
def nextN (x : Drw) : Int × Drw := if x.b = true then (x.a % 1000000, ⟨x.a / 1000000, x.k + 1, x.b⟩) else (mixN x.a (x.k + 1), ⟨x.a, x.k + 1, x.b⟩)
def signsOf (i : Nat) : Str := (["ab", "ab", "abc", "!~z"] : List Str).getD i ""
def wordOf (sg : Str) : Nat → Drw → List Nat × Drw
  | 0, x => ([], x)
  | n + 1, x => let y := nextN x; let z := wordOf sg n y.2; (sg.cps.toList.getD ((y.1 % sg.length).toNat) 0 :: z.1, z.2)
def wordsOf (sg : Str) (lg : Nat) : Nat → List Str → Drw → List Str × Drw
  | 0, l, x => (l, x)
  | n + 1, l, x => let y := wordOf sg lg x; wordsOf sg lg n (ins2 ⟨y.1.toArray⟩ l) y.2
def lawWords (most : Int) (x : Drw) : List Str × Drw :=
  let y1 := nextN x
  let y2 := nextN y1.2
  let y3 := nextN y2.2
  wordsOf (signsOf (y1.1 % 4).toNat) (1 + y2.1 % most).toNat (1 + y3.1 % 5).toNat [] y3.2
theorem line_ge : 16777216 ≤ sizeLine := by decide
structure Good (ws : List Str) (n : Nat) : Prop where
  n1 : 1 ≤ n
  n7 : n ≤ 7
  l1 : 1 ≤ ws.length
  l5 : ws.length ≤ 5
  len : ∀ w ∈ ws, w.length = n
  let_ : ∀ w ∈ ws, ∀ c ∈ w.cps.toList, letB ⟨#[c]⟩ = true
  nd : ws.Nodup
theorem good_of {ws : List Str} (h : goodW ws = true) : ∃ n, Good ws n := by
  unfold goodW at h
  simp only [Bool.and_eq_true, decide_eq_true_eq, List.all_eq_true] at h
  obtain ⟨h1, h2, h3, h4⟩ := h
  have key : ∀ w ∈ ws, 1 ≤ w.length ∧ w.length ≤ 7 ∧ (∀ c ∈ w.cps.toList, letB ⟨#[c]⟩ = true) ∧ w.length = (ws.headD "").length := fun w hw => by
    have := h3 w hw
    unfold wordB at this
    simp only [Bool.and_eq_true, decide_eq_true_eq, List.all_eq_true] at this
    exact this
  match ws, h1, h2, h4, key with
  | w :: ws, h1, h2, h4, key =>
    have k0 := key w List.mem_cons_self
    exact ⟨w.length, k0.1, k0.2.1, h1, h2, fun v hv => (key v hv).2.2.2, fun v hv => (key v hv).2.2.1, h4⟩
theorem v_toR0 {fs : SA} {r : Evr} {st : Sto} {ds : List Dt} (h : fs r st = some (ds, [])) : toR fs r st = some (.ref 0, [some (.lst ds)]) := v_toR h
theorem b_rt0 {g : SS} {n : Nat} {ds : List Dt} {st st1 : Sto} {d : Dt} (h : g (startD n ds) st = some (.rt d st1)) : bodyF g n ds st = some (d, st1) := by unfold bodyF; rw [h]; rfl
theorem hMd (i j : Int) (h : 0 < j) : cMod i j = true := by unfold cMod; exact decide_eq_true h
theorem hDv (i j : Int) (h : 0 < j ∧ j < 1073741824) : cDiv i j = true := by unfold cDiv; exact decide_eq_true h
theorem t_nT {c : ST} {r : Evr} {st st1 : Sto} (h : c r st = some (true, st1)) : cNot c r st = some (false, st1) := t_not h
theorem t_nF {c : ST} {r : Evr} {st st1 : Sto} (h : c r st = some (false, st1)) : cNot c r st = some (true, st1) := t_not h
theorem v_le3 {f : SE} {r : Evr} {st st1 : Sto} {z lo hi : Int} (h : f r st = some (.int z, st1)) (h1 : lo ≤ z) (h2 : z ≤ hi) : eChain gLe gLe (eC (.int lo)) f (eC (.int hi)) r st = some (.bl true, st1) :=
  v_chain rfl h (by rw [v_le, decide_eq_true h1]) rfl (by rw [v_le, decide_eq_true h2])
theorem v_inF {st : Sto} {x : Str} {l : List Str} {d : Dt} (h : asL st d = some (l.map Dt.str)) (hm : x ∉ l) : gIn false st (.str x) d = some (.bl false, st) := by rw [v_inS h, decide_eq_false hm]; rfl
theorem v_inT {st : Sto} {x : Str} {l : List Str} {d : Dt} (h : asL st d = some (l.map Dt.str)) (hm : x ∈ l) : gIn false st (.str x) d = some (.bl true, st) := by rw [v_inS h, decide_eq_true hm]; rfl
theorem v_ninF {st : Sto} {x : Str} {l : List Str} {d : Dt} (h : asL st d = some (l.map Dt.str)) (hm : x ∈ l) : gIn true st (.str x) d = some (.bl false, st) := by rw [v_inS h, decide_eq_true hm]; rfl
theorem v_ninT {st : Sto} {x : Str} {l : List Str} {d : Dt} (h : asL st d = some (l.map Dt.str)) (hm : x ∉ l) : gIn true st (.str x) d = some (.bl true, st) := by rw [v_inS h, decide_eq_false hm]; rfl
theorem atI_zero {α : Type} (x : α) (l : List α) : atI (x :: l) 0 = some x := by simp [atI, ixN]
theorem sIx0 (n d : Nat) : HT.sIx n d none = d := rfl
theorem cutS_pre (z : Str) (n : Nat) : cutS z none (some (n : Int)) = pre z n := by
  unfold cutS pre
  rw [sIx0, HT.sIx_nat]
  have : z.length = z.cps.toList.length := by simp [Str.length]
  congr 1
  rw [List.drop_zero, Nat.sub_zero, this, ← List.take_eq_take_min]
theorem cutL_map {α : Type} (f : α → Dt) (l : List α) (n : Nat) : cutL (l.map f) none (some (n : Int)) = (l.take n).map f := by
  unfold cutL
  rw [sIx0, HT.sIx_nat, List.drop_zero, Nat.sub_zero, ← List.take_eq_take_min, List.map_take]
theorem good_len {ws : List Str} {n : Nat} (h : Good ws n) {w : Str} (hw : w ∈ ws) : w.length ≤ sizeLine := by
  rw [h.len w hw]
  exact Nat.le_trans h.n7 (Nat.le_trans (by decide) line_ge)
abbrev WL (ws : List Str) : Dt := .lst (ws.map Dt.str)
theorem isi_str (z : Str) (st : Sto) : gIs "str" st [.str z] = some (.bl true, st) := rfl
theorem isi_lst (z : List Dt) (st : Sto) : gIs "list" st [.lst z] = some (.bl true, st) := rfl
theorem bools_all (l : List Nat) (h : ∀ c ∈ l, letB ⟨#[c]⟩ = true) : gAll [] [.lst (l.map fun c => Dt.bl (letB ⟨#[c]⟩))] = some (.bl true, []) := by
  show ((bools (l.map fun c => Dt.bl (letB ⟨#[c]⟩))).map _) = _
  rw [bools_map (fun c => letB ⟨#[c]⟩) l]
  show some (Dt.bl ((l.map fun c => letB ⟨#[c]⟩).all id), []) = _
  rw [show ((l.map fun c => letB ⟨#[c]⟩).all id) = true from by rw [List.all_map, List.all_eq_true]; exact h]
theorem ins2_mem {k x : Str} {l : List Str} : x ∈ ins2 k l ↔ x = k ∨ x ∈ l := by
  unfold ins2
  split
  · rename_i h
    exact ⟨.inr, fun z => z.elim (fun e => e ▸ h) id⟩
  · simp [or_comm]
theorem ins2_nodup {k : Str} {l : List Str} (h : l.Nodup) : (ins2 k l).Nodup := by
  unfold ins2
  split
  · exact h
  · rename_i n
    exact List.nodup_append.mpr ⟨h, by simp, fun a ha b hb e => n (by rw [List.mem_singleton.mp hb] at e; exact e ▸ ha)⟩
theorem ins2_len (k : Str) (l : List Str) : (ins2 k l).length ≤ l.length + 1 := by
  unfold ins2
  split <;> simp
theorem fold_mem {x : Str} : ∀ (ks l : List Str), x ∈ ks.foldl (fun l k => ins2 k l) l ↔ x ∈ ks ∨ x ∈ l
  | [], l => by simp
  | k :: ks, l => by
    rw [List.foldl_cons, fold_mem ks, ins2_mem]
    simp only [List.mem_cons]
    constructor
    · rintro (h | h | h)
      · exact .inl (.inr h)
      · exact .inl (.inl h)
      · exact .inr h
    · rintro ((h | h) | h)
      · exact .inr (.inl h)
      · exact .inl h
      · exact .inr (.inr h)
theorem fold_nodup : ∀ (ks l : List Str), l.Nodup → (ks.foldl (fun l k => ins2 k l) l).Nodup
  | [], l, h => h
  | k :: ks, l, h => by rw [List.foldl_cons]; exact fold_nodup ks _ (ins2_nodup h)
theorem fold_len : ∀ (ks l : List Str), (ks.foldl (fun l k => ins2 k l) l).length ≤ l.length + ks.length
  | [], l => by simp
  | k :: ks, l => by
    rw [List.foldl_cons]
    have := fold_len ks (ins2 k l)
    have := ins2_len k l
    rw [List.length_cons]
    omega
theorem pre_len (w : Str) (n : Nat) : (pre w n).length = min n w.length := by
  unfold pre
  simp [Str.length]
theorem mem_keys {ws : List Str} {x : Str} : x ∈ keysOf ws ↔ ∃ w ∈ ws, ∃ n ≤ w.length, x = pre w n := by
  unfold keysOf
  rw [fold_mem]
  simp only [List.mem_flatMap, preOf, List.mem_map, List.mem_range, List.not_mem_nil, or_false]
  constructor
  · rintro ⟨w, hw, n, hn, e⟩
    exact ⟨w, hw, n, by omega, e.symm⟩
  · rintro ⟨w, hw, n, hn, e⟩
    exact ⟨w, hw, n, by omega, e.symm⟩
theorem keys_nodup (ws : List Str) : (keysOf ws).Nodup := fold_nodup _ _ List.nodup_nil
abbrev dS (l : List Str) : Dt := .dic (l.map Sum.inr) (l.map fun _ => .bl true)
theorem pSet_true : ∀ (k : Str) (l : List Str), pSet (Sum.inr k) (Dt.bl true) (l.map (Sum.inr : Str → Key)) (l.map fun _ => .bl true) = l.map fun _ => Dt.bl true
  | _, [] => rfl
  | k, x :: l => by
    rw [List.map_cons, List.map_cons]
    show (if (Sum.inr x : Key) = Sum.inr k then Dt.bl true else Dt.bl true) :: pSet (Sum.inr k) (Dt.bl true) (l.map (Sum.inr : Str → Key)) (l.map fun _ => .bl true) = _
    rw [pSet_true k l, ite_self]
theorem put_dS (k : Str) (l : List Str) : Dt.dic (pPut (Sum.inr k) (Dt.bl true) (l.map (Sum.inr : Str → Key)) (l.map fun _ => .bl true)).1 (pPut (Sum.inr k) (Dt.bl true) (l.map (Sum.inr : Str → Key)) (l.map fun _ => .bl true)).2 = dS (ins2 k l) := by
  unfold pPut ins2
  have e : ((l.map (Sum.inr : Str → Key)).any fun j => decide (j = Sum.inr k)) = decide (k ∈ l) := by
    induction l with
    | nil => simp
    | cons x l ih =>
      rw [List.map_cons, List.any_cons, ih]
      by_cases h : x = k
      · subst h; simp
      · have h' : ¬ k = x := fun z => h z.symm
        simp [h, h']
  rw [e]
  by_cases h : k ∈ l
  · simp only [h, decide_true, if_true]
    rw [pSet_true]
  · simp only [h, decide_false, if_false]
    simp [dS]
theorem s_DP {r : Evr} {st st1 st2 st3 : Sto} {fd fk fv : SE} {v kd : Dt} {i : Nat} {k : Key} {ks : List Key} {es : List Dt} (h1 : fv r st = some (v, st1)) (h2 : fd r st1 = some (.ref i, st2)) (h3 : fk r st2 = some (kd, st3)) (h4 : st3[i]? = some (some (.dic ks es))) (hz : ks.length < sizeLine) (hk : keyD kd = some k) :
    sDP fd fk fv r st = some (.nx r (st3.set i (some (.dic (pPut k v ks es).1 (pPut k v ks es).2)))) := by
  unfold sDP
  rw [h1]
  show (fd r st1).bind _ = _
  rw [h2]
  show (fk r st2).bind _ = _
  rw [h3]
  show (match st3[i]? with
    | some (some (.dic ks ds)) => if ks.length < sizeLine then (keyD kd).map fun k => Ou.nx r (st3.set i (some (.dic (pPut k v ks ds).1 (pPut k v ks ds).2))) else none
    | _ => none) = _
  rw [h4]
  show (if ks.length < sizeLine then (keyD kd).map _ else none) = _
  rw [if_pos hz, hk]
  rfl
theorem rng_eq (n : Nat) : rngL 0 n = (List.range n).map fun i => Dt.int (0 + (i : Nat)) := rfl
theorem v_rg {f : SA} {r : Evr} {st st1 : Sto} {n : Nat} (h : f r st = some ([.int (n : Nat)], st1)) (hn : n < 1000000) : iR rg1 f r st = some ((List.range n).map fun i => Dt.int (0 + (i : Nat)), st1) := by
  refine v_iR h ?_
  simp only [rg1]
  rw [if_pos (by omega), Int.toNat_natCast]
  rfl
theorem mem_all {ws : List Str} {x : Str} : x ∈ allSt ws ↔ x ∈ keysOf ws := (List.mergeSort_perm (keysOf ws) keyLe).mem_iff
theorem all_nodup (ws : List Str) : (allSt ws).Nodup := (List.mergeSort_perm (keysOf ws) keyLe).nodup_iff.mpr (keys_nodup ws)
theorem all_len7 {ws : List Str} {n : Nat} (hg : Good ws n) {x : Str} (h : x ∈ allSt ws) : x.length ≤ 7 := by
  obtain ⟨w, hw, k, hk, rfl⟩ := mem_keys.mp (mem_all.mp h)
  have := hg.len w hw
  have := hg.n7
  have := pre_len w k
  omega
theorem all_line {ws : List Str} {n : Nat} (hg : Good ws n) {x : Str} (h : x ∈ allSt ws) : x.length ≤ sizeLine := Nat.le_trans (all_len7 hg h) (Nat.le_trans (by decide) line_ge)
theorem all_few {ws : List Str} {n : Nat} (hg : Good ws n) : (allSt ws).length ≤ 40 := by
  have e : (allSt ws).length = (keysOf ws).length := (List.mergeSort_perm (keysOf ws) keyLe).length_eq
  have h := fold_len (ws.flatMap preOf) []
  have h2 : (ws.flatMap preOf).length ≤ 8 * ws.length := by
    have : ∀ l : List Str, (∀ w ∈ l, w.length ≤ 7) → (l.flatMap preOf).length ≤ 8 * l.length := by
      intro l
      induction l with
      | nil => simp
      | cons w l ih =>
        intro h
        rw [List.flatMap_cons, List.length_append, List.length_cons]
        have := ih fun v hv => h v (by simp [hv])
        have h7 := h w (by simp)
        have : (preOf w).length = w.length + 1 := by unfold preOf; simp
        omega
    exact this ws fun w hw => by rw [hg.len w hw]; exact hg.n7
  have h5 := hg.l5
  have : (keysOf ws).length = ((ws.flatMap preOf).foldl (fun l k => ins2 k l) []).length := rfl
  rw [List.length_nil, Nat.zero_add] at h
  omega
theorem nr1 (ws : List Str) : noRefs [WL ws] = true := (Bool.and_eq_true _ _).mpr ⟨noRef_lstS ws, rfl⟩
theorem nr2 (s : Str) (ws : List Str) : noRefs [.str s, WL ws] = true := (Bool.and_eq_true _ _).mpr ⟨rfl, nr1 ws⟩
theorem nr3 (s : Str) (ws : List Str) : noRefs [WL ws, .str s] = true := (Bool.and_eq_true _ _).mpr ⟨noRef_lstS ws, rfl⟩
theorem v_neg1 {r : Evr} {st : Sto} : eNeg (eC (.int 1)) r st = some (.int (-1), st) := rfl
theorem str_len (z : Str) : z.length = z.cps.toList.length := by simp [Str.length]
theorem cutS_m1 (z : Str) : cutS z none (some (-1)) = pre z (z.length - 1) := by
  unfold cutS pre
  rw [sIx0]
  have : HT.sIx z.length z.length (some (-1)) = z.length - 1 := by
    show (if (-1 : Int) < 0 then (-1 + (z.length : Int)).toNat else min (-1 : Int).toNat z.length) = _
    rw [if_pos (by decide)]
    omega
  rw [this, List.drop_zero, Nat.sub_zero]
theorem str_ne {z : Str} (h : z ≠ ("" : Str)) : z.cps.toList ≠ [] := fun e => h (by
  cases z with
  | mk c =>
    have : c = #[] := by simpa using e
    subst this
    rfl)
theorem at_m1 {z : Str} (h : z ≠ ("" : Str)) : atI z.cps.toList (-1) = some (z.cps.toList.getLastD 0) := by
  have hne := str_ne h
  have hl : 0 < z.cps.toList.length := List.length_pos_iff.mpr hne
  unfold atI ixN
  rw [if_neg (by decide), if_pos (by omega)]
  show z.cps.toList[(-1 + (z.cps.toList.length : Int)).toNat]? = _
  have : (-1 + (z.cps.toList.length : Int)).toNat = z.cps.toList.length - 1 := by omega
  rw [this, ← List.getLast?_eq_getElem?]
  rw [List.getLast?_eq_some_getLast hne]
  congr 1
  exact (List.getLastD_eq_getLast? ..).symm ▸ (by rw [List.getLast?_eq_some_getLast hne]; rfl)
theorem put_new (k : Str) (d : Dt) (l : List Str) (h : k ∉ l) (es : List Dt) : pPut (Sum.inr k) d (l.map (Sum.inr : Str → Key)) es = ((l ++ [k]).map Sum.inr, es ++ [d]) := by
  unfold pPut
  rw [if_neg]
  · simp
  · intro z
    rw [List.any_eq_true] at z
    obtain ⟨y, hy, e⟩ := z
    obtain ⟨x, hx, rfl⟩ := List.mem_map.mp hy
    simp at e
    exact h (e ▸ hx)
theorem pGet_ix : ∀ (l : List Str) (s : Str) (f : Nat → Dt), s ∈ l → ∃ j, l[j]? = some s ∧ pGet (Sum.inr s) (l.map (Sum.inr : Str → Key)) ((List.range l.length).map f) = some (f j)
  | [], _, _, h => by simp at h
  | x :: l, s, f, h => by
    rw [List.length_cons, List.range_succ_eq_map, List.map_cons, List.map_cons, List.map_map]
    by_cases e : x = s
    · subst e
      exact ⟨0, rfl, by simp [pGet]⟩
    · obtain ⟨j, h1, h2⟩ := pGet_ix l s (f ∘ Nat.succ) ((List.mem_cons.mp h).resolve_left fun z => e z.symm)
      refine ⟨j + 1, by simpa using h1, ?_⟩
      have : pGet (Sum.inr s) (Sum.inr x :: l.map (Sum.inr : Str → Key)) (f 0 :: (List.range l.length).map (f ∘ Nat.succ)) = pGet (Sum.inr s) (l.map (Sum.inr : Str → Key)) ((List.range l.length).map (f ∘ Nat.succ)) := by
        simp [pGet, e]
      rw [this, h2]
      rfl
theorem keyLe_iff {a b : Str} : keyLe a b = true ↔ a.length < b.length ∨ (a.length = b.length ∧ strLe a b = true) := by
  unfold keyLe
  simp [Bool.or_eq_true, Bool.and_eq_true]
theorem keyLe_trans (a b c : Str) (h : keyLe a b = true) (h' : keyLe b c = true) : keyLe a c = true := by
  rw [keyLe_iff] at *
  rcases h with h | ⟨h, s⟩ <;> rcases h' with h' | ⟨h', s'⟩
  · left; omega
  · left; omega
  · left; omega
  · exact .inr ⟨by omega, strLe_trans a b c s s'⟩
theorem keyLe_total (a b : Str) : (keyLe a b || keyLe b a) = true := by
  rw [Bool.or_eq_true, keyLe_iff, keyLe_iff]
  rcases Nat.lt_trichotomy a.length b.length with h | h | h
  · exact .inl (.inl h)
  · have := strLe_total a b
    rw [Bool.or_eq_true] at this
    rcases this with t | t
    · exact .inl (.inr ⟨h, t⟩)
    · exact .inr (.inr ⟨h.symm, t⟩)
  · exact .inr (.inl h)
theorem keyLe_anti (a b : Str) (h : keyLe a b = true) (h' : keyLe b a = true) : a = b := by
  rw [keyLe_iff] at *
  rcases h with h | ⟨h, s⟩ <;> rcases h' with h' | ⟨h', s'⟩
  · omega
  · omega
  · omega
  · exact strLe_anti a b s s'
theorem all_sorted (ws : List Str) : (allSt ws).Pairwise fun a b => keyLe a b = true := List.pairwise_mergeSort keyLe_trans keyLe_total _
theorem perm_same {l m : List Str} (hl : l.Nodup) (hm : m.Nodup) (h : ∀ x, x ∈ l ↔ x ∈ m) : l.Perm m := (List.perm_ext_iff_of_nodup hl hm).mpr fun {x} => h x
theorem sorted_one {l m : List Str} (hl : l.Nodup) (hm : m.Nodup) (h : ∀ x, x ∈ l ↔ x ∈ m) (sl : l.Pairwise fun a b => keyLe a b = true) (sm : m.Pairwise fun a b => keyLe a b = true) : l = m :=
  List.Perm.eq_of_pairwise (le := fun a b => keyLe a b = true) (fun a b _ _ h1 h2 => keyLe_anti a b h1 h2) sl sm (perm_same hl hm h)
def blk (ws : List Str) (i : Nat) : List Str := sortS (setL (ws.map fun w => pre w i))
theorem blk_mem {ws : List Str} {i : Nat} {x : Str} : x ∈ blk ws i ↔ ∃ w ∈ ws, pre w i = x := by
  unfold blk
  rw [(sortS_perm _).mem_iff, setL_mem, List.mem_map]
theorem blk_nodup (ws : List Str) (i : Nat) : (blk ws i).Nodup := (sortS_perm _).nodup_iff.mpr (setL_nodup _)
theorem blk_len {ws : List Str} {n i : Nat} (hn : Good ws n) (hi : i ≤ n) {x : Str} (h : x ∈ blk ws i) : x.length = i := by
  obtain ⟨w, hw, rfl⟩ := blk_mem.mp h
  rw [pre_len, hn.len w hw]
  omega
theorem blk_few {ws : List Str} {n : Nat} (hn : Good ws n) (i : Nat) : (blk ws i).length ≤ 5 := by
  unfold blk
  have h := setL_len (ws.map fun w => pre w i)
  rw [List.length_map] at h
  rw [sortS_len]
  have := hn.l5
  omega
def lawSt (ws : List Str) (n : Nat) : List Str := (List.range (n + 1)).flatMap (blk ws)
theorem law_st {ws : List Str} {n : Nat} (hn : Good ws n) : lawSt ws n = allSt ws := by
  have mem : ∀ x, x ∈ lawSt ws n ↔ x ∈ allSt ws := fun x => by
    unfold lawSt
    rw [mem_all, mem_keys, List.mem_flatMap]
    constructor
    · rintro ⟨i, hi, h⟩
      obtain ⟨w, hw, rfl⟩ := blk_mem.mp h
      rw [List.mem_range] at hi
      exact ⟨w, hw, i, by rw [hn.len w hw]; omega, rfl⟩
    · rintro ⟨w, hw, i, hi, rfl⟩
      rw [hn.len w hw] at hi
      exact ⟨i, List.mem_range.mpr (by omega), blk_mem.mpr ⟨w, hw, rfl⟩⟩
  have lt : (List.range (n + 1)).Pairwise fun a b => ∀ x ∈ blk ws a, ∀ y ∈ blk ws b, x.length < y.length := by
    refine (List.pairwise_lt_range).imp_of_mem ?_
    intro a b ha hb hab x hx y hy
    rw [List.mem_range] at ha hb
    rw [blk_len hn (by omega) hx, blk_len hn (by omega) hy]
    exact hab
  refine sorted_one ?_ (all_nodup ws) mem ?_ (all_sorted ws)
  · unfold lawSt
    rw [List.Nodup, List.pairwise_flatMap]
    exact ⟨fun i _ => blk_nodup ws i, lt.imp fun h x hx y hy e => by have := h x hx y hy; rw [e] at this; omega⟩
  · unfold lawSt
    rw [List.pairwise_flatMap]
    refine ⟨fun i hi => ?_, lt.imp fun h x hx y hy => keyLe_iff.mpr (.inl (h x hx y hy))⟩
    rw [List.mem_range] at hi
    refine (sortS_sorted _).imp_of_mem ?_
    intro x y hx hy s
    exact keyLe_iff.mpr (.inr ⟨(blk_len hn (by omega) hx).trans (blk_len hn (by omega) hy).symm, s⟩)
theorem c_ss {f : SE} {r : Evr} {st st1 : Sto} {l : List Str} (h : f r st = some (.lst (l.map Dt.str), st1)) (hl : l.length ≤ 5) : eN gSS (aCons f aNil) r st = some (.lst ((sortS (setL l)).map Dt.str), st1) := by
  refine v_N (v_one h) ?_
  show ((strs' (l.map Dt.str)).bind fun ys => if ys.length + 1 < scanBound then _ else none) = _
  rw [strs_self]
  show (if l.length + 1 < scanBound then _ else none) = _
  rw [if_pos (by unfold scanBound; omega)]
theorem pre_toList (w : Str) (n : Nat) : (pre w n).cps.toList = w.cps.toList.take n := by unfold pre; simp
theorem pre_pre (w : Str) (k j : Nat) (h : j ≤ k) : pre (pre w k) j = pre w j := by
  refine str_ext ?_
  rw [pre_toList, pre_toList, pre_toList, List.take_take, Nat.min_eq_left h]
theorem pre_full {w : Str} {n : Nat} (h : w.length ≤ n) : pre w n = w := by
  refine str_ext ?_
  rw [pre_toList, List.take_of_length_le (by rw [← str_len]; exact h)]
theorem nonempty_iff {o : Str} : o ≠ ("" : Str) ↔ 1 ≤ o.length := by
  constructor
  · intro h
    have := List.length_pos_iff.mpr (str_ne h)
    rw [str_len]; omega
  · intro h e
    rw [e] at h
    exact absurd h (by decide)
def lawT (ws : List Str) (s : Str) : List Str := sortS (setL ((ws.filter fun w => decide (pre w s.length = s) && decide (s.length < w.length)).map fun w => pre w (s.length + 1)))
theorem lawT_mem {ws : List Str} {s o : Str} : o ∈ lawT ws s ↔ ∃ w ∈ ws, pre w s.length = s ∧ s.length < w.length ∧ o = pre w (s.length + 1) := by
  unfold lawT
  rw [(sortS_perm _).mem_iff, setL_mem, List.mem_map]
  constructor
  · rintro ⟨w, hw, rfl⟩
    rw [List.mem_filter, Bool.and_eq_true, decide_eq_true_eq, decide_eq_true_eq] at hw
    exact ⟨w, hw.1, hw.2.1, hw.2.2, rfl⟩
  · rintro ⟨w, hw, h1, h2, rfl⟩
    exact ⟨w, List.mem_filter.mpr ⟨hw, by rw [Bool.and_eq_true, decide_eq_true_eq, decide_eq_true_eq]; exact ⟨h1, h2⟩⟩, rfl⟩
theorem lawT_len {ws : List Str} {s o : Str} (h : o ∈ lawT ws s) : o.length = s.length + 1 := by
  obtain ⟨w, hw, h1, h2, rfl⟩ := lawT_mem.mp h
  rw [pre_len]; omega
theorem lawT_eq {ws : List Str} {n : Nat} (hn : Good ws n) (s : Str) : lawT ws s = (allSt ws).filter fun (o : Str) => decide (o ≠ ("" : Str)) && decide (pre o (o.length - 1) = s) := by
  refine sorted_one ((sortS_perm _).nodup_iff.mpr (setL_nodup _)) ((all_nodup ws).filter _) (fun x => ?_) ?_ ((all_sorted ws).filter _)
  · rw [List.mem_filter, Bool.and_eq_true, decide_eq_true_eq, decide_eq_true_eq, nonempty_iff, lawT_mem, mem_all, mem_keys]
    constructor
    · rintro ⟨w, hw, h1, h2, rfl⟩
      have hl : (pre w (s.length + 1)).length = s.length + 1 := by rw [pre_len]; omega
      refine ⟨⟨w, hw, s.length + 1, by omega, rfl⟩, by omega, ?_⟩
      rw [hl, pre_pre w _ _ (by omega)]
      exact h1
    · rintro ⟨⟨w, hw, k, hk, rfl⟩, h1, h2⟩
      have hl : (pre w k).length = k := by rw [pre_len]; omega
      rw [hl] at h1 h2
      rw [pre_pre w _ _ (by omega)] at h2
      have hs : s.length = k - 1 := by rw [← h2, pre_len]; omega
      refine ⟨w, hw, ?_, by omega, ?_⟩
      · rw [hs]; exact h2
      · rw [hs]
        congr 1
        omega
  · refine (sortS_sorted _).imp_of_mem ?_
    intro x y hx hy h
    exact keyLe_iff.mpr (.inr ⟨(lawT_len hx).trans (lawT_len hy).symm, h⟩)
def Sm (x : Str) : Prop := x.length ≤ 7 ∧ ∀ c ∈ x.cps.toList, c < 128
theorem letB_lt {c : Nat} (h : letB ⟨#[c]⟩ = true) : c < 128 := by
  unfold letB at h
  rw [Bool.and_eq_true] at h
  have h2 := h.2
  rw [Bool.not_eq_true', decide_eq_false_iff_not] at h2
  have e : ("~" : Str).cps.toList = [126] := by decide +kernel
  rw [e] at h2
  by_cases hc : c < 128
  · exact hc
  · exfalso
    apply h2
    show [126] < [c]
    exact List.Lex.rel (by omega)
theorem sm_word {ws : List Str} {n : Nat} (hn : Good ws n) {w : Str} (hw : w ∈ ws) : Sm w := ⟨by rw [hn.len w hw]; exact hn.n7, fun c hc => letB_lt (hn.let_ w hw c hc)⟩
theorem sm_pre {w : Str} (h : Sm w) (k : Nat) : Sm (pre w k) := ⟨by rw [pre_len]; have := h.1; omega, fun c hc => h.2 c (by rw [pre_toList] at hc; exact List.mem_of_mem_take hc)⟩
theorem sm_all {ws : List Str} {n : Nat} (hn : Good ws n) {x : Str} (h : x ∈ allSt ws) : Sm x := by
  obtain ⟨w, hw, k, hk, rfl⟩ := mem_keys.mp (mem_all.mp h)
  exact sm_pre (sm_word hn hw) k
theorem sm_last {z : Str} (h : Sm z) : Sm (lastS z) := by
  refine ⟨by unfold lastS; simp [Str.length], fun c hc => ?_⟩
  have e : c = z.cps.toList.getLastD 0 := List.mem_singleton.mp hc
  have m : z.cps.toList.getLastD 0 ∈ 0 :: z.cps.toList := List.getLastD_mem_cons
  rw [← e] at m
  rcases List.mem_cons.mp m with m | m
  · rw [m]; decide
  · exact h.2 c m
theorem sm_after {ws : List Str} {n : Nat} (hn : Good ws n) {s x : Str} (h : x ∈ after ws s) : Sm x := by
  unfold after at h
  obtain ⟨o, ho, rfl⟩ := List.mem_map.mp h
  exact sm_last (sm_all hn (List.mem_filter.mp ho).1)
theorem sm_below {ws : List Str} {n : Nat} (hn : Good ws n) {s x : Str} (h : x ∈ below ws s) : Sm x := sm_all hn (List.mem_filter.mp h).1
theorem text_up : ∀ (ts : List Str) (k : Nat) (acc : Str), (textFrom k acc ts).length ≤ acc.length + piled ts
  | [], k, acc => by show acc.length ≤ _; rw [piled_nil]; omega
  | t :: r, k, acc => by
    have h := text_up r (k + 1) (acc ++ (if k > 0 then ", " else "" : String) ++ t)
    rw [app_len, app_len] at h
    have e : ((if k > 0 then ", " else "" : String) : Str).length ≤ 2 := by
      split
      · decide
      · decide
    rw [piled_cons]
    show (textFrom (k + 1) _ r).length ≤ _
    omega
theorem list_up (ts : List Str) : (listText ts).length ≤ piled ts + 2 := by
  have h := text_up ts 0 "["
  unfold listText
  rw [app_len]
  have e1 : ("[" : Str).length = 1 := by decide +kernel
  have e2 : ("]" : Str).length = 1 := by decide +kernel
  rw [e1] at h
  rw [e2]
  omega
theorem rep_sm {x : Str} (h : Sm x) : (repT (.str x)).length ≤ 72 := by
  have := StrLaws.reprText_len x fun c hc => Nat.lt_of_lt_of_le (h.2 c hc) (by decide)
  have h7 := h.1
  show (reprText x).length ≤ 72
  omega
theorem piled_sm : ∀ l : List Str, (∀ x ∈ l, Sm x) → piled (repTs (l.map Dt.str)) ≤ 74 * l.length
  | [], _ => by decide
  | x :: l, h => by
    have ih := piled_sm l fun y hy => h y (by simp [hy])
    have hx := rep_sm (h x (by simp))
    rw [List.map_cons]
    show piled (repT (.str x) :: repTs (l.map Dt.str)) ≤ _
    rw [piled_cons, List.length_cons]
    omega
theorem rep_lst {l : List Str} (h : ∀ x ∈ l, Sm x) (hl : l.length ≤ 40) : (repT (WL l)).length ≤ 3000 := by
  have h1 := piled_sm l h
  have h2 := list_up (repTs (l.map Dt.str))
  show (listText (repTs (l.map Dt.str))).length ≤ 3000
  omega
theorem repOks_str : ∀ l : List Str, repOks (l.map Dt.str) = true
  | [] => by unfold repOks; rfl
  | x :: l => by
    rw [List.map_cons]
    unfold repOks
    rw [repOks_str l]
    unfold repOk
    rfl
theorem depDs_str : ∀ l : List Str, depDs (l.map Dt.str) = 0
  | [] => by unfold depDs; rfl
  | x :: l => by
    rw [List.map_cons]
    unfold depDs
    rw [depDs_str l]
    unfold depD
    rfl
structure Fine (l : List Str) : Prop where
  sm : ∀ x ∈ l, Sm x
  few : l.length ≤ 40
theorem v_rep1 {st : Sto} {d : Dt} {l : List Str} (hd : deref st 8 d = some (WL l)) (h : Fine l) : gRep st [d] = some (.str (repT (WL l)), st) := by
  have hs := line_ge
  have := rep_lst h.sm h.few
  show ((deref st 8 d).bind fun d => if noRef d = true ∧ repOk d = true ∧ depD d ≤ 32 ∧ (repT d).length ≤ sizeLine then some (Dt.str (repT d), st) else none) = _
  rw [hd]
  refine if_pos ⟨noRef_lstS l, by unfold repOk; exact repOks_str l, by unfold depD; rw [depDs_str]; decide, by omega⟩
def LL (ls : List (List Str)) : Dt := .lst (ls.map WL)
theorem LL_ok : ∀ ls : List (List Str), (∀ l ∈ ls, Fine l) → noRefs (ls.map WL) = true ∧ repOks (ls.map WL) = true ∧ depDs (ls.map WL) ≤ 1 ∧ piled (repTs (ls.map WL)) ≤ 3002 * ls.length
  | [], _ => ⟨by unfold noRefs; rfl, by unfold repOks; rfl, by unfold depDs; decide, by decide⟩
  | l :: ls, h => by
    obtain ⟨h1, h2, h3, h4⟩ := LL_ok ls fun m hm => h m (by simp [hm])
    have hl := h l (by simp)
    have := rep_lst hl.sm hl.few
    rw [List.map_cons]
    refine ⟨?_, ?_, ?_, ?_⟩
    · unfold noRefs; rw [noRef_lstS, h1]; rfl
    · unfold repOks; rw [h2]; unfold repOk; rw [repOks_str]; rfl
    · unfold depDs; unfold depD; rw [depDs_str]; omega
    · show piled (repT (WL l) :: repTs (ls.map WL)) ≤ _
      rw [piled_cons, List.length_cons]
      omega
theorem v_rep2 {st : Sto} {d : Dt} {ls : List (List Str)} (hd : deref st 8 d = some (LL ls)) (h : ∀ l ∈ ls, Fine l) (hl : ls.length ≤ 4) : gRep st [d] = some (.str (repT (LL ls)), st) := by
  have hs := line_ge
  obtain ⟨h1, h2, h3, h4⟩ := LL_ok ls h
  have hu := list_up (repTs (ls.map WL))
  have he : (repT (LL ls)).length ≤ sizeLine := by
    show (listText (repTs (ls.map WL))).length ≤ sizeLine
    omega
  show ((deref st 8 d).bind fun d => if noRef d = true ∧ repOk d = true ∧ depD d ≤ 32 ∧ (repT d).length ≤ sizeLine then some (Dt.str (repT d), st) else none) = _
  rw [hd]
  refine if_pos ⟨by unfold LL noRef; exact h1, by unfold LL repOk; exact h2, by unfold LL depD; omega, he⟩
theorem ends_cut {s o : Str} (h : o.length < s.length) : Txt.endswith s o = decide (cutS s (some ((s.length : Int) - (o.length : Int))) none = o) := by
  have e1 : HT.sIx s.length 0 (some ((s.length : Int) - (o.length : Int))) = s.length - o.length := by
    show (if (s.length : Int) - (o.length : Int) < 0 then _ else min ((s.length : Int) - (o.length : Int)).toNat s.length) = _
    rw [if_neg (by omega)]
    omega
  have e2 : (cutS s (some ((s.length : Int) - (o.length : Int))) none).cps.toList = s.cps.toList.drop (s.length - o.length) := by
    unfold cutS
    rw [e1, sIx0]
    simp only [List.toList_toArray]
    rw [List.take_of_length_le]
    rw [List.length_drop, ← str_len]
    omega
  unfold Txt.endswith
  rw [StrLaws.subAt_eq, decide_eq_true (show 0 + o.length ≤ s.length by omega), Bool.true_and]
  have e3 : (s.cps.toList.drop (s.length - o.length)).take o.length = s.cps.toList.drop (s.length - o.length) := by
    rw [List.take_of_length_le]
    rw [List.length_drop, ← str_len]
    omega
  rw [e3, ← e2]
  by_cases hc : cutS s (some ((s.length : Int) - (o.length : Int))) none = o
  · rw [decide_eq_true hc, hc]
    simp
  · rw [decide_eq_false hc, beq_eq_false_iff_ne]
    exact fun z => hc (str_ext z)
theorem after_nil {ws : List Str} {n : Nat} (hn : Good ws n) {s : Str} (hs : s ∈ allSt ws) : after ws s = [] ↔ s ∈ ws := by
  unfold after
  rw [List.map_eq_nil_iff, List.filter_eq_nil_iff]
  obtain ⟨w, hw, k, hk, e⟩ := mem_keys.mp (mem_all.mp hs)
  have hl := hn.len w hw
  constructor
  · intro h
    by_cases hkn : k = n
    · rw [e, hkn, pre_full (by omega)]; exact hw
    · exfalso
      refine h (pre w (k + 1)) (mem_all.mpr (mem_keys.mpr ⟨w, hw, k + 1, by omega, rfl⟩)) ?_
      have hp : (pre w (k + 1)).length = k + 1 := by rw [pre_len]; omega
      rw [Bool.and_eq_true, decide_eq_true_eq, decide_eq_true_eq, nonempty_iff, hp, pre_pre w _ _ (by omega)]
      exact ⟨by omega, by rw [e]; congr 1⟩
  · intro h o ho hp
    rw [Bool.and_eq_true, decide_eq_true_eq, decide_eq_true_eq, nonempty_iff] at hp
    obtain ⟨v, hv, j, hj, rfl⟩ := mem_keys.mp (mem_all.mp ho)
    have hlv := hn.len v hv
    have hls := hn.len s h
    have hp2 := pre_len v j
    have : (pre (pre v j) ((pre v j).length - 1)).length = s.length := by rw [hp.2]
    rw [pre_len] at this
    omega
theorem shaped_str : ∀ l : List Str, (∀ x ∈ l, Sm x) → PyData.canLayAll0 (l.map PyData.str) = true
  | [], _ => by unfold PyData.canLayAll0; rfl
  | x :: l, h => by
    rw [List.map_cons]
    unfold PyData.canLayAll0
    rw [shaped_str l fun y hy => h y (by simp [hy]), Bool.and_true]
    unfold PyData.canLay0
    have := (h x (by simp)).2
    unfold PyData.strOk
    rw [← Array.all_toList, List.all_eq_true]
    intro c hc
    exact decide_eq_true (Nat.lt_trans (this c hc) (by decide))
theorem depth_str : ∀ l : List Str, PyData.depthAll (l.map PyData.str) = 0
  | [] => by unfold PyData.depthAll; rfl
  | x :: l => by
    rw [List.map_cons]
    unfold PyData.depthAll
    rw [depth_str l]
    unfold PyData.depth
    rfl
theorem mapM_str (st : Sto) (n : Nat) : ∀ l : List Str, (l.map Dt.str).mapM (py st (n + 1)) = some (l.map PyData.str)
  | [] => rfl
  | x :: l => by
    rw [List.map_cons, List.mapM_cons, mapM_str st n l]
    rfl
theorem eqv_str : ∀ l m : List Str, PyData.eqvAll (l.map PyData.str) (m.map PyData.str) = decide (l = m)
  | [], [] => by unfold PyData.eqvAll; rfl
  | [], _ :: _ => by rw [List.map_cons, List.map_nil]; unfold PyData.eqvAll; rfl
  | _ :: _, [] => by rw [List.map_cons, List.map_nil]; unfold PyData.eqvAll; rfl
  | x :: l, y :: m => by
    rw [List.map_cons, List.map_cons]
    unfold PyData.eqvAll
    rw [eqv_str l m]
    unfold PyData.eqv
    by_cases h1 : x = y
    · subst h1
      by_cases h2 : l = m
      · subst h2; simp
      · simp [h2]
    · have : (x == y) = false := by simpa using h1
      rw [this]
      simp [h1]
theorem deref4 {st : Sto} {a b c d : Nat} {A B C D : Dt} (h1 : st[a]? = some (some A)) (h2 : st[b]? = some (some B)) (h3 : st[c]? = some (some C)) (h4 : st[d]? = some (some D)) (n1 : noRef A = true) (n2 : noRef B = true) (n3 : noRef C = true) (n4 : noRef D = true) : deref st 8 (.lst [.ref a, .ref b, .ref c, .ref d]) = some (.lst [A, B, C, D]) := by
  unfold deref
  rw [if_neg (by unfold noRef noRefs noRef; simp)]
  show (derefs st 7 [.ref a, .ref b, .ref c, .ref d]).map _ = _
  unfold derefs
  rw [deref_ref (n := 5) h1 n1]
  show ((derefs st 6 [.ref b, .ref c, .ref d]).map _).map _ = _
  unfold derefs
  rw [deref_ref (n := 4) h2 n2]
  show (((derefs st 5 [.ref c, .ref d]).map _).map _).map _ = _
  unfold derefs
  rw [deref_ref (n := 3) h3 n3]
  show ((((derefs st 4 [.ref d]).map _).map _).map _).map _ = _
  unfold derefs
  rw [deref_ref (n := 2) h4 n4]
  show (((((derefs st 3 []).map _).map _).map _).map _).map _ = _
  unfold derefs
  rfl
theorem deref2 {st : Sto} {a b : Nat} {A B : Dt} (h1 : st[a]? = some (some A)) (h2 : st[b]? = some (some B)) (n1 : noRef A = true) (n2 : noRef B = true) : deref st 8 (.lst [.ref a, .ref b]) = some (.lst [A, B]) := by
  unfold deref
  rw [if_neg (by unfold noRef noRefs noRef; simp)]
  show (derefs st 7 [.ref a, .ref b]).map _ = _
  unfold derefs
  rw [deref_ref (n := 5) h1 n1]
  show ((derefs st 6 [.ref b]).map _).map _ = _
  unfold derefs
  rw [deref_ref (n := 4) h2 n2]
  show (((derefs st 5 []).map _).map _).map _ = _
  unfold derefs
  rfl
theorem get_at (st l : Sto) (i : Nat) : (st ++ l)[st.length + i]? = l[i]? := by
  rw [List.getElem?_append_right (by omega)]
  congr 1
  omega
theorem c_R {m : List Dt → Option Dt} {ds : List Dt} {d : Dt} (st p : Sto) (hn : noRefs ds = true) (h : m ds = some d) : liftR m ds (st ++ p) = some (.ref (st.length + p.length), st ++ (p ++ [some d])) := by
  rw [v_R hn h, List.length_append, List.append_assoc]
theorem v_app {fo : SE} {r : Evr} {st st1 : Sto} {k : Nat} {es : List Dt} (h : fo r st = some (.ref k, st1)) (hk : st1[k]? = some (some (.lst es))) (hz : es.length < sizeLine) : eM isL gApp fo (aCons (eC .non) aNil) r st = some (.non, st1.set k (some (.lst (es ++ [.non])))) := by
  unfold eM
  rw [h]
  show (if isL st1 (.ref k) = true then _ else none) = _
  have e : asL st1 (.ref k) = some es := by
    show (match st1[k]? with
      | some (some (.lst ds)) => some ds
      | _ => none) = _
    rw [hk]
  rw [if_pos (by unfold isL; rw [e]; rfl)]
  show gApp st1 (.ref k) [.non] = _
  show (match st1[k]? with
    | some (some (.lst ds)) => if ds.length < sizeLine then some (Dt.non, st1.set k (some (.lst (ds ++ [Dt.non])))) else none
    | _ => none) = _
  rw [hk]
  exact if_pos hz
theorem fine_all {ws : List Str} {n : Nat} (hn : Good ws n) : Fine (allSt ws) := ⟨fun x hx => sm_all hn hx, all_few hn⟩
theorem fine_ws {ws : List Str} {n : Nat} (hn : Good ws n) : Fine ws := ⟨fun x hx => sm_word hn hx, by have := hn.l5; omega⟩
theorem fine_after {ws : List Str} {n : Nat} (hn : Good ws n) (s : Str) : Fine (after ws s) := ⟨fun x hx => sm_after hn hx, by
  unfold after
  rw [List.length_map]
  exact Nat.le_trans (List.length_filter_le _ _) (all_few hn)⟩
theorem fine_below {ws : List Str} {n : Nat} (hn : Good ws n) (s : Str) : Fine (below ws s) := ⟨fun x hx => sm_below hn hx, Nat.le_trans (List.length_filter_le _ _) (all_few hn)⟩
theorem next_k (x : Drw) : (nextN x).2.k = x.k + 1 := by unfold nextN; split <;> rfl
theorem at_mod {α : Type} (l : List α) (n m : Int) (hm : m = l.length) (h : 0 < m) (d : α) : atI l (n % m) = some (l.getD (n % m).toNat d) := by
  have h1 := Int.emod_nonneg n (show m ≠ 0 by omega)
  have h2 := Int.emod_lt_of_pos n h
  unfold atI ixN
  rw [if_pos h1, if_pos (by omega)]
  show l[(n % m).toNat]? = _
  rw [List.getD_eq_getElem?_getD]
  have : (n % m).toNat < l.length := by omega
  rw [List.getElem?_eq_getElem this]
  rfl
theorem lcGo_cons {kt : SG} {c : ST} {f : SE} {r r1 : Evr} {x y : Dt} {xs zs : List Dt} {st st1 st2 st3 : Sto} (hk : kt x r = some r1) (hc : c r1 st = some (true, st1)) (hf : f r1 st1 = some (y, st2)) (ht : lcGo kt c f r xs st2 = some (zs, st3)) : lcGo kt c f r (x :: xs) st = some (y :: zs, st3) := by
  show (kt x r).bind _ = _
  rw [hk]
  show (c r1 st).bind _ = _
  rw [hc]
  show (f r1 st1).bind _ = _
  rw [hf]
  show (lcGo kt c f r xs st2).bind _ = _
  rw [ht]
  rfl
structure Sg (sg : Str) : Prop where
  l1 : 1 ≤ sg.length
  l3 : sg.length ≤ 3
theorem sg_line {sg : Str} (h : Sg sg) : sg.length ≤ sizeLine := Nat.le_trans h.l3 (by decide)
theorem word_k (sg : Str) : ∀ (n : Nat) (x : Drw), (wordOf sg n x).2.k = x.k + n
  | 0, x => rfl
  | n + 1, x => by
    show (wordOf sg n (nextN x).2).2.k = _
    rw [word_k sg n, next_k]
    omega
theorem word_len (sg : Str) : ∀ (n : Nat) (x : Drw), (wordOf sg n x).1.length = n
  | 0, x => rfl
  | n + 1, x => by
    show ((wordOf sg n (nextN x).2).1.length + 1) = _
    rw [word_len sg n]
theorem joinL_one : ∀ cs : List Nat, TL.joinL [] (cs.map fun c => [c]) = cs
  | [] => rfl
  | [c] => rfl
  | c :: d :: cs => by
    have ih := joinL_one (d :: cs)
    rw [List.map_cons] at ih
    rw [List.map_cons, List.map_cons]
    show [c] ++ ([] ++ TL.joinL [] ([d] :: cs.map fun c => [c])) = _
    rw [ih]
    rfl
theorem join_one (cs : List Nat) : Txt.join ("" : Str) (cs.map fun c => ⟨#[c]⟩) = ⟨cs.toArray⟩ := by
  refine str_ext ?_
  show TL.tl (Txt.join ("" : Str) (cs.map fun c => ⟨#[c]⟩)) = _
  rw [TL.join_eq, TL.tl_join, List.map_map]
  have e : TL.tl ("" : Str) = [] := by decide +kernel
  rw [e]
  show TL.joinL [] (cs.map fun c => [c]) = _
  rw [joinL_one]
theorem ones : ∀ cs : List Nat, (cs.map fun _ => 1).sum = cs.length
  | [] => rfl
  | c :: cs => by rw [List.map_cons, List.sum_cons, ones cs, List.length_cons]; omega
theorem v_M1 {g : Sto → Dt → Dt → Option (Dt × Sto)} {fo fe : SE} {r : Evr} {st st1 st2 : Sto} {a : Str} {y : Dt} {q : Dt × Sto} (h1 : fo r st = some (.str a, st1)) (h2 : fe r st1 = some (y, st2)) (h3 : g st2 (.str a) y = some q) : eM1 g fo fe r st = some q := by
  unfold eM1
  rw [h1]
  show (if isS st1 (.str a) = true then (fe r st1).bind _ else none) = _
  rw [if_pos (show isS st1 (Dt.str a) = true from rfl), h2]
  exact h3
theorem v_join (cs : List Nat) (h : cs.length ≤ 7) (st : Sto) : gJoin st (.str "") (.lst (cs.map fun c => Dt.str ⟨#[c]⟩)) = some (.str ⟨cs.toArray⟩, st) := by
  have e : strs' (cs.map fun c => Dt.str ⟨#[c]⟩) = some (cs.map fun c => (⟨#[c]⟩ : Str)) := strs_map (fun c => (⟨#[c]⟩ : Str)) cs
  show ((strs' (cs.map fun c => Dt.str ⟨#[c]⟩)).bind fun ys => if (ys.map (·.length)).sum + ys.length * ("" : Str).length ≤ 16777216 then some (Dt.str (Txt.join "" ys), st) else none) = _
  rw [e]
  show (if ((cs.map fun c => (⟨#[c]⟩ : Str)).map (·.length)).sum + (cs.map fun c => (⟨#[c]⟩ : Str)).length * ("" : Str).length ≤ 16777216 then some (Dt.str (Txt.join "" (cs.map fun c => (⟨#[c]⟩ : Str))), st) else none) = _
  have e2 : ((cs.map fun c => (⟨#[c]⟩ : Str)).map (·.length)).sum = cs.length := by
    rw [List.map_map]
    have : ((·.length) ∘ fun c => (⟨#[c]⟩ : Str)) = fun _ : Nat => 1 := rfl
    rw [this]
    exact ones cs
  have e3 : ("" : Str).length = 0 := by decide +kernel
  rw [e2, e3, Nat.mul_zero, if_pos (by omega), join_one]
abbrev wd (sg : Str) (lg : Nat) (x : Drw) : Str := ⟨(wordOf sg lg x).1.toArray⟩
theorem sg_of (i : Nat) (h : i < 4) : Sg (signsOf i) := by
  have : i = 0 ∨ i = 1 ∨ i = 2 ∨ i = 3 := by omega
  rcases this with rfl | rfl | rfl | rfl <;> exact ⟨by decide +kernel, by decide +kernel⟩
theorem sg_let (i : Nat) (h : i < 4) : ∀ c ∈ (signsOf i).cps.toList, letB ⟨#[c]⟩ = true := by
  have : i = 0 ∨ i = 1 ∨ i = 2 ∨ i = 3 := by omega
  rcases this with rfl | rfl | rfl | rfl <;> (rw [← List.all_eq_true]; decide +kernel)
theorem wordsOf_inv (sg : Str) (lg : Nat) (P : Str → Prop) (hP : ∀ x, P (wd sg lg x)) : ∀ (m : Nat) (l : List Str) (x : Drw), l.Nodup → (∀ w ∈ l, P w) → (wordsOf sg lg m l x).1.Nodup ∧ (∀ w ∈ (wordsOf sg lg m l x).1, P w) ∧ (wordsOf sg lg m l x).1.length ≤ l.length + m ∧ l.length ≤ (wordsOf sg lg m l x).1.length ∧ (1 ≤ m → 1 ≤ (wordsOf sg lg m l x).1.length)
  | 0, l, x, nd, h => ⟨nd, h, Nat.le_refl _, Nat.le_refl _, fun z => by omega⟩
  | m + 1, l, x, nd, h => by
    obtain ⟨h1, h2, h3, h4, h5⟩ := wordsOf_inv sg lg P hP m (ins2 (wd sg lg x) l) (wordOf sg lg x).2 (ins2_nodup nd) fun w hw => (ins2_mem.mp hw).elim (fun e => e ▸ hP x) (h w)
    have hl := ins2_len (wd sg lg x) l
    have hg : l.length ≤ (ins2 (wd sg lg x) l).length := by unfold ins2; split <;> simp
    have hpos : 1 ≤ (ins2 (wd sg lg x) l).length := List.length_pos_of_mem (ins2_mem.mpr (.inl rfl))
    refine ⟨h1, h2, ?_, ?_, fun _ => ?_⟩
    · show (wordsOf sg lg m (ins2 (wd sg lg x) l) (wordOf sg lg x).2).1.length ≤ _
      omega
    · show _ ≤ (wordsOf sg lg m (ins2 (wd sg lg x) l) (wordOf sg lg x).2).1.length
      omega
    · show _ ≤ (wordsOf sg lg m (ins2 (wd sg lg x) l) (wordOf sg lg x).2).1.length
      omega
theorem word_mem {sg : Str} (h1 : 1 ≤ sg.length) : ∀ (n : Nat) (x : Drw), ∀ c ∈ (wordOf sg n x).1, c ∈ sg.cps.toList
  | 0, x, c, h => by cases h
  | n + 1, x, c, h => by
    rcases List.mem_cons.mp h with e | h
    · rw [e, List.getD_eq_getElem?_getD]
      have a := Int.emod_nonneg (nextN x).1 (show (sg.length : Int) ≠ 0 by omega)
      have b := Int.emod_lt_of_pos (nextN x).1 (show (0 : Int) < sg.length by omega)
      have hl := str_len sg
      have : ((nextN x).1 % sg.length).toNat < sg.cps.toList.length := by omega
      rw [List.getElem?_eq_getElem this]
      exact List.getElem_mem _
    · exact word_mem h1 n _ c h
theorem good_law (x : Drw) : goodW (lawWords 7 x).1 = true := by
  unfold lawWords
  simp only []
  generalize (nextN x) = y1
  generalize (nextN y1.2) = y2
  generalize (nextN y2.2) = y3
  have a1 := Int.emod_nonneg y1.1 (show (4 : Int) ≠ 0 by decide)
  have b1 := Int.emod_lt_of_pos y1.1 (show (0 : Int) < 4 by decide)
  have a2 := Int.emod_nonneg y2.1 (show (7 : Int) ≠ 0 by decide)
  have b2 := Int.emod_lt_of_pos y2.1 (show (0 : Int) < 7 by decide)
  have a3 := Int.emod_nonneg y3.1 (show (5 : Int) ≠ 0 by decide)
  have b3 := Int.emod_lt_of_pos y3.1 (show (0 : Int) < 5 by decide)
  have hi : (y1.1 % 4).toNat < 4 := by omega
  generalize (y1.1 % 4).toNat = i at hi
  have hl1 : 1 ≤ (1 + y2.1 % 7).toNat := by omega
  have hl7 : (1 + y2.1 % 7).toNat ≤ 7 := by omega
  generalize (1 + y2.1 % 7).toNat = lg at hl1 hl7
  have hm1 : 1 ≤ (1 + y3.1 % 5).toNat := by omega
  have hm5 : (1 + y3.1 % 5).toNat ≤ 5 := by omega
  generalize (1 + y3.1 % 5).toNat = m at hm1 hm5
  have hs := sg_of i hi
  obtain ⟨h1, h2, h3, h4, h5⟩ := wordsOf_inv (signsOf i) lg (fun w => w.length = lg ∧ ∀ c ∈ w.cps.toList, letB ⟨#[c]⟩ = true) (fun x => ⟨by
    rw [str_len]
    show (wordOf (signsOf i) lg x).1.toArray.toList.length = lg
    rw [List.toList_toArray, word_len], fun c hc => sg_let i hi c (word_mem hs.l1 lg x c (by simpa using hc))⟩) m [] y3.2 List.nodup_nil (fun w hw => by cases hw)
  generalize (wordsOf (signsOf i) lg m [] y3.2).1 = ws at h1 h2 h3 h4 h5
  have h5 := h5 hm1
  rw [List.length_nil] at h3
  have hh : (ws.headD "").length = lg := by
    cases ws with
    | nil => simp at h5
    | cons w l => exact (h2 w (by simp)).1
  unfold goodW
  simp only [Bool.and_eq_true, decide_eq_true_eq, List.all_eq_true]
  refine ⟨h5, by omega, fun w hw => ?_, h1⟩
  unfold wordB
  simp only [Bool.and_eq_true, decide_eq_true_eq, List.all_eq_true]
  have := h2 w hw
  exact ⟨by omega, by omega, this.2, by rw [hh]; exact this.1⟩
def drw0 (c : Int) : Drw := ⟨c % bigM, 0, decide (10 ^ 18 ≤ c)⟩
abbrev dst (cs : List Int) : Sto := cs.map fun c => some (drw0 c).dt
theorem all_by {ws ks l : List Str} (hk : keysOf ws = ks) (hp : ks.Perm l) (hl : l.Nodup) (hs : l.Pairwise fun a b => keyLe a b = true) : allSt ws = l :=
  sorted_one (all_nodup ws) hl (fun x => by rw [mem_all, hk]; exact hp.mem_iff) (all_sorted ws) hs
theorem sm_of (l : List Str) (h : (l.all fun x => decide (x.length ≤ 7) && x.cps.toList.all fun c => decide (c < 128)) = true) : ∀ x ∈ l, Sm x := fun x hx => by
  have := List.all_eq_true.mp h x hx
  simp only [Bool.and_eq_true, decide_eq_true_eq, List.all_eq_true] at this
  exact this
end HB

set_option Elab.async false
set_option linter.all false
set_option maxRecDepth 100000
set_option maxHeartbeats 1000000
/-! HB, part z: plain functions worked out by simp. -/
namespace HB
open PySem PySem.Spec PyProof.Rows L2
section
variable {r : Evr} {st : Sto} {fa fb fc : SE} {fs : SA} {ca cb : ST} {g k : SS} {i n : Nat} {d x y : Dt} {ds : List Dt}
@[simp] theorem zVar : eVar i r st = (match r[i]? with
  | some (some d) => some (d, st)
  | _ => none) := rfl
@[simp] theorem zC : eC d r st = some (d, st) := rfl
@[simp] theorem zOp {f : Sto → Dt → Dt → Option (Dt × Sto)} : eOp2 f fa fb r st = (fa r st).bind fun x => (fb r x.2).bind fun y => f y.2 x.1 y.1 := rfl
@[simp] theorem zNil : aNil r st = some ([], st) := rfl
@[simp] theorem zCons : aCons fa fs r st = (fa r st).bind fun x => (fs r x.2).bind fun y => some (x.1 :: y.1, y.2) := rfl
@[simp] theorem zN {f : Sto → List Dt → Option (Dt × Sto)} : eN f fs r st = (fs r st).bind fun x => f x.2 x.1 := rfl
@[simp] theorem zIf : eIf ca fa fb r st = (ca r st).bind fun b => if b.1 = true then fa r b.2 else fb r b.2 := rfl
@[simp] theorem zChain {f f' : Sto → Dt → Dt → Option (Dt × Sto)} : eChain f f' fa fb fc r st = (fa r st).bind fun x => (fb r x.2).bind fun y => (f y.2 x.1 y.1).bind fun z => match z.1 with
  | .bl true => (fc r z.2).bind fun w => f' w.2 y.1 w.1
  | .bl false => some (.bl false, z.2)
  | _ => none := by
  unfold eChain
  cases fa r st with
  | none => rfl
  | some x =>
    show (fb r x.2).bind _ = (fb r x.2).bind _
    cases fb r x.2 with
    | none => rfl
    | some y =>
      show (f y.2 x.1 y.1).bind _ = (f y.2 x.1 y.1).bind _
      cases f y.2 x.1 y.1 with
      | none => rfl
      | some z =>
        obtain ⟨z1, z2⟩ := z
        cases z1 with
        | bl b => cases b <;> rfl
        | _ => rfl
@[simp] theorem zAndV : eAndV fa fb r st = (fa r st).bind fun x => match x.1 with
  | .bl true => fb r x.2
  | .bl false => some (.bl false, x.2)
  | _ => none := by
  unfold eAndV
  cases fa r st with
  | none => rfl
  | some x =>
    obtain ⟨z1, z2⟩ := x
    cases z1 with
    | bl b => cases b <;> rfl
    | _ => rfl
@[simp] theorem zB : cB fa r st = (fa r st).bind fun x => match x.1 with
  | .bl b => some (b, x.2)
  | _ => none := rfl
@[simp] theorem zAnd' : cAnd ca cb r st = (ca r st).bind fun b => if b.1 = true then cb r b.2 else some (false, b.2) := rfl
@[simp] theorem zOr : cOr ca cb r st = (ca r st).bind fun b => if b.1 = true then some (true, b.2) else cb r b.2 := rfl
@[simp] theorem zNot : cNot ca r st = (ca r st).bind fun b => some (!b.1, b.2) := rfl
@[simp] theorem zYes : cYes r st = some (true, st) := rfl
@[simp] theorem zNx : sNx r st = some (.nx r st) := rfl
@[simp] theorem zNo : sNo r st = none := rfl
@[simp] theorem zRet : sRet fa r st = (fa r st).bind fun x => some (.rt x.1 x.2) := rfl
@[simp] theorem zEx : sEx fa r st = (fa r st).bind fun x => some (.nx r x.2) := rfl
@[simp] theorem zSet : sSet i fa r st = (fa r st).bind fun x => some (.nx (r.set i (some x.1)) x.2) := rfl
@[simp] theorem zSeq : sSeq g k r st = (g r st).bind fun o => match o with
  | .nx r' st' => k r' st'
  | o => some o := rfl
@[simp] theorem zIfS : sIf ca g k r st = (ca r st).bind fun b => if b.1 = true then g r b.2 else k r b.2 := rfl
@[simp] theorem zToV : toV fs r st = (fs r st).bind fun z => some (.lst z.1, z.2) := rfl
@[simp] theorem zToR : toR fs r st = (fs r st).bind fun z => some (.ref z.2.length, z.2 ++ [some (.lst z.1)]) := rfl
@[simp] theorem zToT : toT fs r st = (fs r st).bind fun z => if z.1.length ≤ sizeLine then some (.tup z.1, z.2) else none := rfl
@[simp] theorem zSmall : small fs r st = (fs r st).bind fun z => if z.1.length ≤ sizeLine then some z else none := rfl
@[simp] theorem zDR : eDR r st = some (.ref st.length, st ++ [some (.dic [] [])]) := rfl
@[simp] theorem zFor {fi : SA} {kt : SG} : sFor fi kt g r st = (fi r st).bind fun xs => sForGo kt g xs.1 r xs.2 := rfl
@[simp] theorem zIE {f : Sto → Dt → Option (List Dt)} : iE f fa r st = (fa r st).bind fun x => (f x.2 x.1).map fun xs => (xs, x.2) := rfl
@[simp] theorem zIR {f : List Dt → Option (List Dt)} : iR f fs r st = (fs r st).bind fun x => (f x.1).map fun xs => (xs, x.2) := rfl
@[simp] theorem zItL : itL st (.lst ds) = some ds := rfl
@[simp] theorem zItS {z : Str} : itS st (.str z) = some (z.cps.toList.map fun c => .str ⟨#[c]⟩) := rfl
@[simp] theorem zSl {l h : SO} : eSl fa l h r st = (fa r st).bind fun x => (l r x.2).bind fun a => (h r a.2).bind fun b => (gSl b.2 x.1 a.1 b.1).map fun d => (d, b.2) := rfl
@[simp] theorem zONo : oNo r st = some (none, st) := rfl
@[simp] theorem zOE : oE fa r st = (fa r st).bind fun x => match x.1 with
  | .int i => some (some i, x.2)
  | _ => none := rfl
@[simp] theorem zNeg : eNeg fa r st = (fa r st).bind fun x => match x.1 with
  | .int i => some (.int (-i), x.2)
  | _ => none := rfl
@[simp] theorem zLc {fi : SA} {own : List Nat} {kt : SG} : lc fi own kt ca fa r st = (fi r st).bind fun xs => (lcGo kt ca fa (wipeD r own) xs.1 xs.2).bind fun z => if z.1.length ≤ sizeLine then some z else none := rfl
@[simp] theorem zName : kName i d r = some (r.set i (some d)) := rfl
@[simp] theorem zTup {ks : List Dt → Evr → Option Evr} : kTup ks (.tup ds) r = ks ds r := rfl
@[simp] theorem zKs {kt : SG} {ks : List Dt → Evr → Option Evr} : ksCons kt ks (d :: ds) r = (kt d r).bind fun r' => ks ds r' := rfl
@[simp] theorem zKn : ksNil [] r = some r := rfl
@[simp] theorem zGF {F : List Dt → Sto → Option (Dt × Sto)} : gF n F st ds = if ds.length = n then F ds st else none := rfl
@[simp] theorem zLV {f : List Dt → Option Dt} : liftV f ds st = if noRefs ds = true then (f ds).map fun d => (d, st) else none := rfl
@[simp] theorem zLR {f : List Dt → Option Dt} : liftR f ds st = if noRefs ds = true then (f ds).map fun d => (.ref st.length, st ++ [some d]) else none := rfl
@[simp] theorem zWipe0 : wipeD r [] = r := rfl
@[simp] theorem zWipe {v : Nat} {vs : List Nat} : wipeD r (v :: vs) = (wipeD r vs).set v none := rfl
@[simp] theorem zAsg {kt : SG} : sAsg kt fa r st = (fa r st).bind fun x => (kt x.1 r).map fun r' => .nx r' x.2 := rfl
@[simp] theorem zPar {is : List Nat} : sPar is fs r st = (fs r st).bind fun x => if x.1.length = is.length then some (.nx ((is.zip x.1).foldl (fun r p => r.set p.1 (some p.2)) r) x.2) else none := rfl
@[simp] theorem zRev : eRev fa r st = (fa r st).bind fun x => (asL x.2 x.1).map fun ds => (.lst ds.reverse, x.2) := rfl
@[simp] theorem zItems : eItems fa r st = (fa r st).bind fun x => (asD x.2 x.1).map fun p => (.lst (itemsL p.1 p.2), x.2) := rfl
@[simp] theorem zDToR {f : Evr → Sto → Option ((List Key × List Dt) × Sto)} : dToR f r st = (f r st).bind fun z => some (.ref z.2.length, z.2 ++ [some (.dic z.1.1 z.1.2)]) := rfl
@[simp] theorem zDToV {f : Evr → Sto → Option ((List Key × List Dt) × Sto)} : dToV f r st = (f r st).bind fun z => some (.dic z.1.1 z.1.2, z.2) := rfl
@[simp] theorem zDc {fi : SA} {own : List Nat} {kt : SG} : dc fi own kt ca fa fb r st = (fi r st).bind fun xs => dcGo kt ca fa fb (wipeD r own) xs.1 xs.2 [] [] := rfl
/-! data without live objects -/
@[simp] theorem nrN : noRef .non = true := rfl
@[simp] theorem nrB {b : Bool} : noRef (.bl b) = true := rfl
@[simp] theorem nrI {i : Int} : noRef (.int i) = true := rfl
@[simp] theorem nrS {z : Str} : noRef (.str z) = true := rfl
@[simp] theorem nrL : noRef (.lst ds) = noRefs ds := by unfold noRef; rfl
@[simp] theorem nrT : noRef (.tup ds) = noRefs ds := by unfold noRef; rfl
@[simp] theorem nrD {ks : List Key} : noRef (.dic ks ds) = noRefs ds := by unfold noRef; rfl
@[simp] theorem nrNil : noRefs [] = true := by unfold noRefs; rfl
@[simp] theorem nrCons : noRefs (d :: ds) = (noRef d && noRefs ds) := by conv => lhs; unfold noRefs
theorem noRefs_all : ∀ {ds : List Dt}, noRefs ds = ds.all noRef
  | [] => by simp
  | d :: ds => by rw [nrCons, List.all_cons, noRefs_all]
theorem noRefs_map {α : Type} {f : α → Dt} {l : List α} (h : ∀ a ∈ l, noRef (f a) = true) : noRefs (l.map f) = true := by
  rw [noRefs_all, List.all_eq_true]
  intro d hd
  obtain ⟨a, ha, rfl⟩ := List.mem_map.mp hd
  exact h a ha
@[simp] theorem nrStrs {l : List Str} : noRefs (l.map Dt.str) = true := noRefs_map fun _ _ => rfl
@[simp] theorem nrStrsF {α : Type} {f : α → Str} {l : List α} : noRefs (l.map fun a => Dt.str (f a)) = true := noRefs_map fun _ _ => rfl
/-! operators -/
@[simp] theorem zAsL : asL st (.lst ds) = some ds := rfl
@[simp] theorem zAsD {ks : List Key} : asD st (.dic ks ds) = some (ks, ds) := rfl
@[simp] theorem zAsLD {ks : List Key} : asL st (.dic ks ds) = none := rfl
@[simp] theorem zAsLS {z : Str} : asL st (.str z) = none := rfl
@[simp] theorem zLenL : gLen st [.lst ds] = some (.int ds.length, st) := rfl
@[simp] theorem zLenD {ks : List Key} : gLen st [.dic ks ds] = some (.int ks.length, st) := rfl
theorem zLenS {z : Str} (h : z.length ≤ sizeLine) : gLen st [.str z] = some (.int z.length, st) := v_lenS h
@[simp] theorem zLe {i j : Int} : gLe st (.int i) (.int j) = some (.bl (decide (i ≤ j)), st) := rfl
@[simp] theorem zLt {i j : Int} : gLt st (.int i) (.int j) = some (.bl (decide (i < j)), st) := rfl
@[simp] theorem zGt {i j : Int} : gGt st (.int i) (.int j) = some (.bl (decide (j < i)), st) := rfl
@[simp] theorem zGe {i j : Int} : gGe st (.int i) (.int j) = some (.bl (decide (j ≤ i)), st) := rfl
@[simp] theorem zAddI {i j : Int} : gAdd st (.int i) (.int j) = some (.int (i + j), st) := rfl
@[simp] theorem zMin {i j : Int} : gMin st (.int i) (.int j) = some (.int (i - j), st) := rfl
theorem zMod {i j : Int} (h : 0 < j) : gMod st (.int i) (.int j) = some (.int (i % j), st) := v_gI (hMd _ _ h)
theorem zDiv {i j : Int} (h : 0 < j) (h2 : j < 1073741824) : gDiv st (.int i) (.int j) = some (.int (i / j), st) := v_gI (hDv _ _ ⟨h, h2⟩)
theorem zMulI {i j : Int} (h : cMul i j = true) : gMulA st (.int i) (.int j) = some (.int (i * j), st) := by
  show (if cMul i j = true then _ else _) = _
  exact if_pos h
@[simp] theorem zIntI {i : Int} : gInt st [.int i] = some (.int i, st) := rfl
@[simp] theorem zIsi {z : Str} : gIs "str" st [.str z] = some (.bl true, st) := rfl
@[simp] theorem zIsl : gIs "list" st [.lst ds] = some (.bl true, st) := rfl
@[simp] theorem zIsd {ks : List Key} : gIs "dict" st [.dic ks ds] = some (.bl true, st) := rfl
theorem zIx {i : Int} {d : Dt} (h : atI ds i = some d) : gIx st (.lst ds) (.int i) = some (d, st) := v_ixL h
theorem zIxD {ks : List Key} {kd : Dt} {k : Key} {d : Dt} (hk : keyD kd = some k) (h : pGet k ks ds = some d) : gIx st (.dic ks ds) kd = some (d, st) := by
  show ((keyD kd).bind fun k => (pGet k ks ds).map fun d => (d, st)) = _
  rw [hk]
  show (pGet k ks ds).map _ = _
  rw [h]; rfl
theorem zInD {neg : Bool} {ks : List Key} {kd : Dt} {k : Key} (hk : keyD kd = some k) : gIn neg st kd (.dic ks ds) = some (.bl (if neg then !(pGet k ks ds).isSome else (pGet k ks ds).isSome), st) := by
  unfold gIn inD
  show ((keyD kd).map fun k => (pGet k ks ds).isSome).map _ = _
  rw [hk]; rfl
@[simp] theorem zKeyS {z : Str} : keyD (.str z) = some (Sum.inr z) := rfl
@[simp] theorem zKeyI {i : Int} : keyD (.int i) = some (Sum.inl i) := rfl
@[simp] theorem zSlL {lo hi : Option Int} : gSl st (.lst ds) lo hi = some (.lst (cutL ds lo hi)) := rfl
theorem zSlS {z : Str} {lo hi : Option Int} (h : z.length ≤ sizeLine) : gSl st (.str z) lo hi = some (.str (cutS z lo hi)) := v_slS h
/-! == and != -/
theorem eqB_S {x y : Str} : eqB st (.str x) (.str y) = some (decide (x = y)) := by
  have h := v_eqS (st := st) (x := x) (y := y)
  unfold gEq at h
  obtain ⟨b, h1, h2⟩ := Option.map_eq_some_iff.mp h
  cases h2
  exact h1
@[simp] theorem zEqS {x y : Str} : gEqB st (.str x) (.str y) = some (.bl (decide (x = y)), st) := by unfold gEqB; rw [eqB_S]; rfl
@[simp] theorem zNeS {x y : Str} : gNeB st (.str x) (.str y) = some (.bl (!decide (x = y)), st) := by unfold gNeB; rw [eqB_S]; rfl
theorem eqB_I {x y : Int} : eqB st (.int x) (.int y) = some (decide (x = y)) := by
  show (if scal (.int x) (.int y) = true then some (decide (V.int x = V.int y)) else none) = _
  have : decide (V.int x = V.int y) = decide (x = y) := by simp
  rw [this]; rfl
@[simp] theorem zEqI {x y : Int} : gEqB st (.int x) (.int y) = some (.bl (decide (x = y)), st) := by unfold gEqB; rw [eqB_I]; rfl
@[simp] theorem zNeI {x y : Int} : gNeB st (.int x) (.int y) = some (.bl (!decide (x = y)), st) := by unfold gNeB; rw [eqB_I]; rfl
/-- texts or None -/
def oS : Option Str → Dt
  | none => .non
  | some x => .str x
@[simp] theorem nrO {o : Option Str} : noRef (oS o) = true := by cases o <;> rfl
theorem eqB_O {x y : Option Str} : eqB st (oS x) (oS y) = some (decide (x = y)) := by
  cases x with
  | none => cases y with
    | none => rfl
    | some b => rfl
  | some a => cases y with
    | none => rfl
    | some b =>
      have := eqB_S (st := st) (x := a) (y := b)
      simpa [oS] using this
@[simp] theorem zEqO {x y : Option Str} : gEqB st (oS x) (oS y) = some (.bl (decide (x = y)), st) := by unfold gEqB; rw [eqB_O]; rfl
@[simp] theorem zNeO {x y : Option Str} : gNeB st (oS x) (oS y) = some (.bl (!decide (x = y)), st) := by unfold gNeB; rw [eqB_O]; rfl
/-- == of the thing with itself is told -/
def okQ (n : Nat) (d : Dt) : Prop := eqQ n d d = some true
theorem eqPl_S {x y : Str} (hx : Sm x) (hy : Sm y) : eqPl (.str x) (.str y) = some (decide (x = y)) := by
  have sh : ∀ z : Str, Sm z → SeqAt.shaped (.str z) = true := fun z hz => by
    unfold SeqAt.shaped PyData.canLay0 PyData.depth PyData.strOk
    rw [Bool.and_eq_true]
    refine ⟨?_, by decide⟩
    rw [← Array.all_toList, List.all_eq_true]
    intro c hc
    exact decide_eq_true (Nat.lt_trans (hz.2 c hc) (by decide))
  show (if (SeqAt.shaped (.str x) && SeqAt.shaped (.str y)) = true then some (PyData.eqv (.str x) (.str y)) else none) = _
  rw [if_pos (by rw [sh x hx, sh y hy]; rfl)]
  unfold PyData.eqv
  by_cases h : x = y
  · subst h; simp
  · simp [h]
theorem okQ_S {z : Str} {n : Nat} (h : Sm z) : okQ (n + 1) (.str z) := by
  show eqPl (.str z) (.str z) = _
  rw [eqPl_S h h]; simp
theorem okQ_N {n : Nat} : okQ (n + 1) .non := by
  show eqPl .non .non = some true
  decide
theorem okQ_O {o : Option Str} {n : Nat} (h : ∀ z, o = some z → Sm z) : okQ (n + 1) (oS o) := by
  cases o with
  | none => exact okQ_N
  | some z => exact okQ_S (h z rfl)
theorem okQ_L {n : Nat} (h : ∀ d ∈ ds, okQ n d) : okQ (n + 1) (.lst ds) := by
  show (if ds.length = ds.length then allO (List.zipWith (eqQ n) ds ds) else some false) = some true
  rw [if_pos rfl]
  have : ∀ l : List Dt, (∀ d ∈ l, okQ n d) → allO (List.zipWith (eqQ n) l l) = some true := by
    intro l
    induction l with
    | nil => intro _; rfl
    | cons d l ih =>
      intro h
      rw [List.zipWith_cons_cons]
      show ((eqQ n d d).bind fun b => (allO (List.zipWith (eqQ n) l l)).map fun c => b && c) = _
      rw [show eqQ n d d = some true from h d (by simp), ih fun x hx => h x (by simp [hx])]
      rfl
  exact this ds h
theorem okQ_D {n : Nat} {ks : List Key} (nd : ks.Nodup) (hl : ks.length = ds.length) (h : ∀ d ∈ ds, okQ n d) : okQ (n + 1) (.dic ks ds) := by
  show (if ks.Nodup ∧ ks.length = ds.length ∧ ks.length = ds.length then (if ks.length = ks.length then allO ((ks.zip ds).map fun p => match pGet p.1 ks ds with
        | none => some false
        | some y => eqQ n p.2 y) else some false) else none) = some true
  rw [if_pos ⟨nd, hl, hl⟩, if_pos rfl]
  have : ((ks.zip ds).map fun p => match pGet p.1 ks ds with
        | none => some false
        | some y => eqQ n p.2 y) = ((ks.zip ds).map fun _ => true).map some := by
    rw [List.map_map]
    refine List.map_congr_left fun p hp => ?_
    rw [pGet_mem nd p hp]
    exact h p.2 (List.of_mem_zip (a := p.1) (b := p.2) hp).2
  rw [this, allO_map]
  congr 1
  rw [List.all_map, List.all_eq_true]
  intro _ _; rfl
theorem eq_same {x y : Dt} (hx : deref st 8 x = some d) (hy : deref st 8 y = some d) (hn : noRef d = true) (ha : alikeD d d = true) (ho : okQ 8 d) : gEqB st x y = some (.bl true, st) ∧ gNeB st x y = some (.bl false, st) := by
  have e : eqB st x y = some true := by
    unfold eqB
    rw [hx, hy]
    show (if alikeD d d = true then (if noRef d = true ∧ noRef d = true then eqQ 8 d d else none) else eqD st x y) = _
    rw [if_pos ha, if_pos ⟨hn, hn⟩]
    exact ho
  unfold gEqB gNeB
  rw [e]
  exact ⟨rfl, rfl⟩
theorem eqQ_list {α : Type} [DecidableEq α] {f : α → Dt} {n : Nat} : ∀ l m : List α, (∀ a ∈ l, ∀ b ∈ m, eqQ n (f a) (f b) = some (decide (a = b))) → eqQ (n + 1) (.lst (l.map f)) (.lst (m.map f)) = some (decide (l = m)) := by
  intro l m h
  show (if (l.map f).length = (m.map f).length then allO (List.zipWith (eqQ n) (l.map f) (m.map f)) else some false) = _
  rw [List.length_map, List.length_map]
  by_cases hl : l.length = m.length
  · rw [if_pos hl]
    induction l generalizing m with
    | nil =>
      cases m with
      | nil => rfl
      | cons => simp at hl
    | cons a l ih =>
      cases m with
      | nil => simp at hl
      | cons b m =>
        rw [List.map_cons, List.map_cons, List.zipWith_cons_cons]
        show ((eqQ n (f a) (f b)).bind fun z => (allO (List.zipWith (eqQ n) (l.map f) (m.map f))).map fun c => z && c) = _
        rw [h a (by simp) b (by simp), ih m (fun x hx y hy => h x (by simp [hx]) y (by simp [hy])) (by simpa using hl)]
        by_cases h1 : a = b <;> by_cases h2 : l = m <;> simp [h1, h2]
  · rw [if_neg hl]
    have : ¬ l = m := fun e => hl (by rw [e])
    simp [this]
theorem eqB_L {l m : List Str} (hl : ∀ x ∈ l, Sm x) (hm : ∀ x ∈ m, Sm x) : eqB st (.lst (l.map Dt.str)) (.lst (m.map Dt.str)) = some (decide (l = m)) := by
  unfold eqB
  rw [deref_no (by simp), deref_no (by simp)]
  show (if alikeD (.lst (l.map Dt.str)) (.lst (m.map Dt.str)) = true then (if noRef (.lst (l.map Dt.str)) = true ∧ noRef (.lst (m.map Dt.str)) = true then eqQ 8 (.lst (l.map Dt.str)) (.lst (m.map Dt.str)) else none) else eqD st (.lst (l.map Dt.str)) (.lst (m.map Dt.str))) = _
  rw [if_pos (show alikeD (.lst (l.map Dt.str)) (.lst (m.map Dt.str)) = true from rfl), if_pos (by simp)]
  exact eqQ_list l m fun a ha b hb => eqPl_S (hl a ha) (hm b hb)
theorem zNeL {l m : List Str} (hl : ∀ x ∈ l, Sm x) (hm : ∀ x ∈ m, Sm x) : gNeB st (.lst (l.map Dt.str)) (.lst (m.map Dt.str)) = some (.bl (!decide (l = m)), st) := by unfold gNeB; rw [eqB_L hl hm]; rfl
theorem zEqL {l m : List Str} (hl : ∀ x ∈ l, Sm x) (hm : ∀ x ∈ m, Sm x) : gEqB st (.lst (l.map Dt.str)) (.lst (m.map Dt.str)) = some (.bl (decide (l = m)), st) := by unfold gEqB; rw [eqB_L hl hm]; rfl
theorem zNeL0 {l : List Str} (hl : ∀ x ∈ l, Sm x) : gNeB st (.lst (l.map Dt.str)) (.lst []) = some (.bl (!decide (l = [])), st) := zNeL (m := []) hl (by simp)
/-! loops told by what they do to a state -/
theorem for_st {α σ : Type} {kt : SG} {g : SS} (D : α → Dt) (E : σ → Evr) (S : σ → Sto) (f : σ → α → σ) (I : σ → Prop) : ∀ (xs : List α) (s : σ), I s → (∀ s a, a ∈ xs → I s → ∃ r1, kt (D a) (E s) = some r1 ∧ g r1 (S s) = some (.nx (E (f s a)) (S (f s a))) ∧ I (f s a)) →
    sForGo kt g (xs.map D) (E s) (S s) = some (.nx (E (xs.foldl f s)) (S (xs.foldl f s))) ∧ I (xs.foldl f s)
  | [], s, h, _ => ⟨rfl, h⟩
  | a :: xs, s, h, st => by
    obtain ⟨r1, h1, h2, h3⟩ := st s a (by simp) h
    obtain ⟨k1, k2⟩ := for_st D E S f I xs (f s a) h3 fun s b hb => st s b (by simp [hb])
    refine ⟨?_, k2⟩
    rw [List.map_cons, List.foldl_cons]
    exact for_cons h1 h2 k1
theorem dc_pure {α : Type} {kt : SG} {fk fv : SE} (D : α → Dt) (K : α → Str) (q : α → Dt) : ∀ (xs : List α) (ks : List Str) (es : List Dt), (∀ w ∈ xs, ∃ r1, kt (D w) r = some r1 ∧ fk r1 st = some (.str (K w), st) ∧ fv r1 st = some (q w, st)) → (ks ++ xs.map K).Nodup → ks.length + xs.length ≤ 1000000 →
    dcGo kt cYes fk fv r (xs.map D) st (ks.map Sum.inr) es = some (((ks ++ xs.map K).map Sum.inr, es ++ xs.map q), st)
  | [], ks, es, _, _, _ => by simp [dcGo]
  | w :: xs, ks, es, h, nd, hl => by
    obtain ⟨r1, h1, h2, h3⟩ := h w (by simp)
    rw [List.length_cons] at hl
    have ih := dc_pure D K q xs (ks ++ [K w]) (es ++ [q w]) (fun v hv => h v (by simp [hv])) (by simpa using nd) (by rw [List.length_append]; simp; omega)
    have hn : K w ∉ ks := fun hm => by
      rw [List.map_cons, List.nodup_append] at nd
      exact nd.2.2 _ hm _ (by simp) rfl
    have hs := line_ge
    rw [List.map_cons]
    show (kt (D w) r).bind _ = _
    rw [h1]
    show (fk r1 st).bind _ = _
    rw [h2]
    show (fv r1 st).bind _ = _
    rw [h3]
    show (if (ks.map (Sum.inr : Str → Key)).length < sizeLine then dcGo kt cYes fk fv r (xs.map D) st (pPut (Sum.inr (K w)) (q w) (ks.map Sum.inr) es).1 (pPut (Sum.inr (K w)) (q w) (ks.map Sum.inr) es).2 else none) = _
    rw [if_pos (by rw [List.length_map]; omega), put_new _ _ _ hn, ih]
    simp
end
end HB

set_option Elab.async false
set_option linter.all false
set_option maxRecDepth 100000
set_option maxHeartbeats 1000000
/-! The plain theory of tables of steps back. -/
namespace HB
open PySem PySem.Spec PyProof.Rows L2
/-- a dict of texts, by the order of its keys -/
def tK (ks : List Str) (tb : Str → Str) : Dt := .dic (ks.map Sum.inr) (ks.map fun s => .str (tb s))
def oK (ks : List Str) (f : Str → Option Str) : Dt := .dic (ks.map Sum.inr) (ks.map fun s => oS (f s))
@[simp] theorem nr_tK {ks : List Str} {tb : Str → Str} : noRef (tK ks tb) = true := by unfold tK; rw [nrD]; exact noRefs_map fun _ _ => rfl
@[simp] theorem nr_oK {ks : List Str} {f : Str → Option Str} : noRef (oK ks f) = true := by unfold oK; rw [nrD]; exact noRefs_map fun _ _ => nrO
theorem pGet_map {α : Type} {f : Str → α} : ∀ {ks : List Str} {s : Str}, s ∈ ks → pGet (Sum.inr s) (ks.map (Sum.inr : Str → Key)) (ks.map f) = some (f s)
  | [], s, h => by simp at h
  | k :: ks, s, h => by
    rw [List.map_cons, List.map_cons]
    by_cases e : k = s
    · subst e; simp [pGet]
    · have ih := pGet_map (f := f) ((List.mem_cons.mp h).resolve_left fun z => e z.symm)
      simp [pGet, e, ih]
theorem pGet_no {α : Type} {f : Str → α} : ∀ {ks : List Str} {s : Str}, s ∉ ks → pGet (Sum.inr s) (ks.map (Sum.inr : Str → Key)) (ks.map f) = none
  | [], s, h => by simp [pGet]
  | k :: ks, s, h => by
    rw [List.map_cons, List.map_cons]
    rw [List.mem_cons, not_or] at h
    have e : ¬ k = s := fun z => h.1 z.symm
    have ih := pGet_no (f := f) h.2
    simp [pGet, e, ih]
theorem nodup_inr {ks : List Str} (h : ks.Nodup) : (ks.map (Sum.inr : Str → Key)).Nodup := by
  induction ks with
  | nil => simp
  | cons k ks ih =>
    rw [List.nodup_cons] at h
    rw [List.map_cons, List.nodup_cons]
    refine ⟨fun z => ?_, ih h.2⟩
    obtain ⟨y, hy, e⟩ := List.mem_map.mp z
    cases e
    exact h.1 hy
abbrev bD (ws : List Str) : Dt := .dic ((allSt ws).map Sum.inr) ((allSt ws).map fun s => WL (after ws s))
theorem ix_tK {st : Sto} {ks : List Str} {tb : Str → Str} {s : Str} (h : s ∈ ks) : gIx st (tK ks tb) (.str s) = some (.str (tb s), st) := zIxD rfl (pGet_map h)
theorem ix_oK {st : Sto} {ks : List Str} {f : Str → Option Str} {s : Str} (h : s ∈ ks) : gIx st (oK ks f) (.str s) = some (oS (f s), st) := zIxD rfl (pGet_map h)
theorem ix_bD {st : Sto} {ws : List Str} {s : Str} (h : s ∈ allSt ws) : gIx st (bD ws) (.str s) = some (WL (after ws s), st) := zIxD rfl (pGet_map h)
theorem in_tK {st : Sto} {ks : List Str} {tb : Str → Str} {s : Str} (h : s ∈ ks) : gIn false st (.str s) (tK ks tb) = some (.bl true, st) := by
  unfold tK
  rw [zInD rfl, pGet_map h]; rfl
@[simp] theorem len_tK {st : Sto} {ks : List Str} {tb : Str → Str} : gLen st [tK ks tb] = some (.int ks.length, st) := by unfold tK; rw [zLenD, List.length_map]
@[simp] theorem isd_tK {st : Sto} {ks : List Str} {tb : Str → Str} : gIs "dict" st [tK ks tb] = some (.bl true, st) := rfl
@[simp] theorem nr_bD {ws : List Str} : noRef (bD ws) = true := by rw [nrD]; exact noRefs_map fun _ _ => by simp
theorem cutL_one {α : Type} (f : α → Dt) (a : α) (l : List α) : cutL ((a :: l).map f) (some 1) none = l.map f := by
  unfold cutL
  have e1 : HT.sIx ((a :: l).map f).length 0 (some 1) = 1 := by
    have : HT.sIx ((a :: l).map f).length 0 (some ((1 : Nat) : Int)) = min 1 ((a :: l).map f).length := HT.sIx_nat ..
    rw [show ((1 : Int)) = ((1 : Nat) : Int) from rfl, this]
    simp
  rw [e1, sIx0, List.map_cons]
  simp
  rw [List.take_of_length_le (by simp)]
theorem bools_any {α : Type} (l : List α) (p : α → Bool) (st : Sto) : gAny st [.lst (l.map fun a => Dt.bl (p a))] = some (.bl (l.any p), st) := by
  show ((bools (l.map fun a => Dt.bl (p a))).map _) = _
  rw [bools_map p l]
  show some (Dt.bl ((l.map p).any id), st) = _
  rw [List.any_map]; rfl
theorem bools_allT {α : Type} (l : List α) (p : α → Bool) (st : Sto) : gAll st [.lst (l.map fun a => Dt.bl (p a))] = some (.bl (l.all p), st) := by
  show ((bools (l.map fun a => Dt.bl (p a))).map _) = _
  rw [bools_map p l]
  show some (Dt.bl ((l.map p).all id), st) = _
  rw [List.all_map]; rfl
/-- a comprehension without a test that leaves the store -/
theorem lcGo_map {α : Type} {kt : SG} {f : SE} {r : Evr} {st : Sto} (D : α → Dt) (q : α → Dt) (xs : List α) (h : ∀ w ∈ xs, ∃ r1, kt (D w) r = some r1 ∧ f r1 st = some (q w, st)) : lcGo kt cYes f r (xs.map D) st = some (xs.map q, st) := by
  have := lcGo_pure (c := cYes) D (fun _ => true) q xs fun w hw => let ⟨r1, h1, h2⟩ := h w hw; ⟨r1, h1, rfl, fun _ => h2⟩
  rw [List.filter_eq_self.mpr (by simp)] at this
  exact this
theorem wh_step {c : ST} {g : SS} {n : Nat} {r r2 : Evr} {st st1 st2 : Sto} {o : Option Ou} (hc : c r st = some (true, st1)) (hg : g r st1 = some (.nx r2 st2)) (h : sWh c g n r2 st2 = o) : sWh c g (n + 1) r st = o := by
  show (c r st).bind _ = _
  rw [hc]
  show (g r st1).bind _ = _
  rw [hg]
  exact h
theorem wh_stop {c : ST} {g : SS} {n : Nat} {r : Evr} {st st1 : Sto} (hc : c r st = some (false, st1)) : sWh c g (n + 1) r st = some (.nx r st1) := by
  show (c r st).bind _ = _
  rw [hc]
  rfl
/-- a loop that looks for the first one -/
theorem for_find {α : Type} {kt : SG} {g : SS} {st : Sto} (D : α → Dt) (p : α → Bool) (R : α → Dt) (E : Option Dt → Evr) : ∀ (xs : List α) (v : Option Dt), (∀ a ∈ xs, ∀ v, ∃ r1, kt (D a) (E v) = some r1 ∧ g r1 st = if p a = true then some (.rt (R a) st) else some (.nx (E (some (D a))) st)) →
    ∃ v', sForGo kt g (xs.map D) (E v) st = match xs.find? p with
      | some a => some (.rt (R a) st)
      | none => some (.nx (E v') st)
  | [], v, _ => ⟨v, rfl⟩
  | a :: xs, v, h => by
    obtain ⟨r1, h1, h2⟩ := h a (by simp) v
    rw [List.map_cons, List.find?_cons]
    cases hp : p a with
    | true =>
      rw [hp, if_pos rfl] at h2
      refine ⟨v, ?_⟩
      show (kt (D a) (E v)).bind _ = _
      rw [h1]
      show (g r1 st).bind _ = _
      rw [h2]; rfl
    | false =>
      rw [hp, if_neg (by simp)] at h2
      obtain ⟨v', ih⟩ := for_find D p R E xs (some (D a)) fun b hb => h b (by simp [hb])
      refine ⟨v', ?_⟩
      show (kt (D a) (E v)).bind _ = _
      rw [h1]
      show (g r1 st).bind _ = _
      rw [h2]
      exact ih
@[simp] theorem nrWLs {α : Type} {f : α → List Str} {l : List α} : noRefs (l.map fun a => WL (f a)) = true := noRefs_map fun _ _ => by simp
def updS (tb : Str → Str) (s v : Str) : Str → Str := fun t => if t = s then v else tb t
theorem pSet_map (s v : Str) (tb : Str → Str) : ∀ ks : List Str, pSet (Sum.inr s) (Dt.str v) (ks.map (Sum.inr : Str → Key)) (ks.map fun t => Dt.str (tb t)) = ks.map fun t => Dt.str (updS tb s v t)
  | [] => rfl
  | k :: ks => by
    rw [List.map_cons, List.map_cons, List.map_cons]
    show (if (Sum.inr k : Key) = Sum.inr s then Dt.str v else Dt.str (tb k)) :: pSet (Sum.inr s) (Dt.str v) (ks.map (Sum.inr : Str → Key)) (ks.map fun t => Dt.str (tb t)) = _
    rw [pSet_map s v tb ks]
    unfold updS
    by_cases e : k = s
    · simp [e]
    · simp [e]
theorem put_tK (s v : Str) (ks : List Str) (tb : Str → Str) : Dt.dic (pPut (Sum.inr s) (Dt.str v) (ks.map (Sum.inr : Str → Key)) (ks.map fun t => Dt.str (tb t))).1 (pPut (Sum.inr s) (Dt.str v) (ks.map (Sum.inr : Str → Key)) (ks.map fun t => Dt.str (tb t))).2 = tK (ins2 s ks) (updS tb s v) := by
  unfold tK
  by_cases h : s ∈ ks
  · have e : ((ks.map (Sum.inr : Str → Key)).any fun j => decide (j = Sum.inr s)) = true := by
      rw [List.any_eq_true]
      exact ⟨Sum.inr s, List.mem_map_of_mem h, by simp⟩
    unfold pPut ins2
    rw [if_pos e, if_pos h, pSet_map]
  · rw [put_new s _ ks h]
    unfold ins2
    rw [if_neg h]
    have e1 : (ks.map fun t => Dt.str (updS tb s v t)) = ks.map fun t => Dt.str (tb t) := List.map_congr_left fun t ht => by
      have hts : ¬ t = s := fun z => h (z ▸ ht)
      simp [updS, hts]
    have e2 : updS tb s v s = v := by simp [updS]
    rw [List.map_append, List.map_append, e1]
    simp [e2]
theorem dp_tK {fd fk fv : SE} {r : Evr} {st st1 st2 st3 : Sto} {i : Nat} {s v : Str} {ks : List Str} {tb : Str → Str} (h1 : fv r st = some (.str v, st1)) (h2 : fd r st1 = some (.ref i, st2)) (h3 : fk r st2 = some (.str s, st3)) (h4 : st3[i]? = some (some (tK ks tb))) (hz : ks.length < sizeLine) :
    sDP fd fk fv r st = some (.nx r (st3.set i (some (tK (ins2 s ks) (updS tb s v))))) := by
  rw [s_DP h1 h2 h3 h4 (by rw [List.length_map]; exact hz) rfl, put_tK]
/-- the states but the empty one -/
def tl (ws : List Str) : List Str := (allSt ws).tail
/-- the keys of a table of ws, in any order -/
structure Keys (ws ks : List Str) : Prop where
  nd : ks.Nodup
  mem : ∀ s, s ∈ ks ↔ s ∈ tl ws
/-- the entries of a table -/
def Tab (ws : List Str) (tb : Str → Str) : Prop := ∀ s ∈ tl ws, tb s ∈ allSt ws ∧ (tb s).length < s.length
def chainN (tb : Str → Str) : Nat → Str → List Str
  | 0, _ => []
  | n + 1, s => if s = ("" : Str) then [] else tb s :: chainN tb n (tb s)
def chain (tb : Str → Str) (s : Str) : List Str := chainN tb s.length s
def beyond (ws : List Str) (o s : Str) : Bool := (after ws o).any fun l => !decide (l ∈ after ws s)
def shortc (ws : List Str) (tb : Str → Str) (s : Str) : Option Str := (chain tb s).find? fun o => beyond ws o s
def longE (ws : List Str) (s : Str) : Str := (below ws s).getLastD ""
theorem nil_iff {s : Str} : s = ("" : Str) ↔ s.length = 0 := by
  constructor
  · intro h; subst h; decide +kernel
  · intro h
    apply Classical.byContradiction
    intro z
    have := nonempty_iff.mp z
    omega
theorem empty_len : ("" : Str).length = 0 := nil_iff.mp rfl
section
variable {ws : List Str} {n : Nat}
theorem empty_all (hg : Good ws n) : ("" : Str) ∈ allSt ws := by
  have h1 := hg.l1
  cases ws with
  | nil => simp at h1
  | cons w ws =>
    refine mem_all.mpr (mem_keys.mpr ⟨w, by simp, 0, by omega, ?_⟩)
    exact nil_iff.mpr (by rw [pre_len]; omega) |>.symm
theorem all_cons (hg : Good ws n) : allSt ws = ("" : Str) :: tl ws := by
  have hm := empty_all hg
  have hs := all_sorted ws
  unfold tl
  cases e : allSt ws with
  | nil => rw [e] at hm; simp at hm
  | cons a l =>
    rw [e] at hm hs
    rcases List.mem_cons.mp hm with h | h
    · rw [h]; rfl
    · have := (List.pairwise_cons.mp hs).1 _ h
      rcases keyLe_iff.mp this with z | z
      · rw [empty_len] at z; omega
      · rw [empty_len] at z
        rw [nil_iff.mpr z.1]
        rfl
theorem mem_tl (hg : Good ws n) {s : Str} : s ∈ tl ws ↔ s ∈ allSt ws ∧ s ≠ ("" : Str) := by
  have e := all_cons hg
  have nd := all_nodup ws
  rw [e] at nd ⊢
  rw [List.nodup_cons] at nd
  constructor
  · intro h; exact ⟨by simp [h], fun z => nd.1 (z ▸ h)⟩
  · rintro ⟨h, z⟩
    exact (List.mem_cons.mp h).resolve_left z
theorem tl_nodup (ws : List Str) : (tl ws).Nodup := (all_nodup ws).sublist (List.tail_sublist _)
theorem keys_tl (ws : List Str) : Keys ws (tl ws) := ⟨tl_nodup ws, fun _ => Iff.rfl⟩
theorem keys_rev (ws : List Str) : Keys ws (tl ws).reverse := ⟨(List.reverse_perm _).nodup_iff.mpr (tl_nodup ws), fun _ => List.mem_reverse⟩
theorem Keys.len {ks : List Str} (h : Keys ws ks) : ks.length = (tl ws).length := ((List.perm_ext_iff_of_nodup h.nd (tl_nodup ws)).mpr fun {x} => h.mem x).length_eq
theorem tl_few (hg : Good ws n) : (tl ws).length ≤ 40 := by
  have := all_few hg
  rw [all_cons hg, List.length_cons] at this
  omega
theorem tl_len (hg : Good ws n) : (allSt ws).length = (tl ws).length + 1 := by rw [all_cons hg]; rfl
theorem chain_nil {tb : Str → Str} : chain tb ("" : Str) = [] := by unfold chain; rw [empty_len]; rfl
theorem chainN_more {tb : Str → Str} (hg : Good ws n) (ht : Tab ws tb) : ∀ (m k : Nat) (s : Str), s ∈ allSt ws → s.length ≤ m → s.length ≤ k → chainN tb m s = chainN tb k s
  | 0, 0, s, _, _, _ => rfl
  | 0, k + 1, s, hs, h, _ => by
    have : s = ("" : Str) := nil_iff.mpr (by omega)
    simp [chainN, this]
  | m + 1, 0, s, hs, _, h => by
    have : s = ("" : Str) := nil_iff.mpr (by omega)
    simp [chainN, this]
  | m + 1, k + 1, s, hs, h1, h2 => by
    unfold chainN
    by_cases e : s = ("" : Str)
    · rw [if_pos e, if_pos e]
    · rw [if_neg e, if_neg e]
      obtain ⟨a, b⟩ := ht s ((mem_tl hg).mpr ⟨hs, e⟩)
      rw [chainN_more hg ht m k (tb s) a (by omega) (by omega)]
theorem chain_cons {tb : Str → Str} (hg : Good ws n) (ht : Tab ws tb) {s : Str} (hs : s ∈ tl ws) : chain tb s = tb s :: chain tb (tb s) := by
  obtain ⟨h1, h2⟩ := (mem_tl hg).mp hs
  obtain ⟨a, b⟩ := ht s hs
  unfold chain
  have hl : s.length = (s.length - 1) + 1 := by have := nonempty_iff.mp h2; omega
  rw [hl]
  show (if s = ("" : Str) then [] else tb s :: chainN tb (s.length - 1) (tb s)) = _
  rw [if_neg h2, chainN_more hg ht (s.length - 1) (tb s).length (tb s) a (by omega) (by omega)]
theorem chain_mem {tb : Str → Str} (hg : Good ws n) (ht : Tab ws tb) : ∀ (m : Nat) (s : Str), s ∈ allSt ws → s.length ≤ m → ∀ o ∈ chain tb s, o ∈ allSt ws ∧ o.length < s.length
  | 0, s, hs, h, o, ho => by
    rw [nil_iff.mpr (show s.length = 0 by omega), chain_nil] at ho
    simp at ho
  | m + 1, s, hs, h, o, ho => by
    by_cases e : s = ("" : Str)
    · rw [e, chain_nil] at ho; simp at ho
    · have ht' := (mem_tl hg).mpr ⟨hs, e⟩
      obtain ⟨a, b⟩ := ht s ht'
      rw [chain_cons hg ht ht'] at ho
      rcases List.mem_cons.mp ho with z | z
      · rw [z]; exact ⟨a, b⟩
      · obtain ⟨c, d⟩ := chain_mem hg ht m (tb s) a (by omega) o z
        exact ⟨c, by omega⟩
theorem chain_few {tb : Str → Str} (s : Str) : (chain tb s).length ≤ s.length := by
  have : ∀ (m : Nat) (s : Str), (chainN tb m s).length ≤ m := by
    intro m
    induction m with
    | zero => intro s; simp [chainN]
    | succ m ih =>
      intro s
      unfold chainN
      split
      · simp
      · rw [List.length_cons]; have := ih (tb s); omega
  exact this _ _
theorem fine_chain {tb : Str → Str} (hg : Good ws n) (ht : Tab ws tb) {s : Str} (hs : s ∈ allSt ws) : Fine (chain tb s) := ⟨fun x hx => sm_all hg (chain_mem hg ht _ s hs (Nat.le_refl _) x hx).1, by have := chain_few (tb := tb) s; have := all_len7 hg hs; omega⟩
/-- the ends of a state: the empty one is the first -/
theorem ends_nil (s : Str) : Txt.endswith s ("" : Str) = true := by
  unfold Txt.endswith
  rw [StrLaws.subAt_eq, empty_len]
  simp
  decide +kernel
theorem below_ne (hg : Good ws n) {s : Str} (hs : s ∈ tl ws) : ("" : Str) ∈ below ws s := by
  unfold below
  rw [List.mem_filter]
  refine ⟨empty_all hg, ?_⟩
  have := nonempty_iff.mp ((mem_tl hg).mp hs).2
  rw [ends_nil, empty_len]
  simp
  omega
theorem longE_mem (hg : Good ws n) {s : Str} (hs : s ∈ tl ws) : longE ws s ∈ below ws s := by
  have h := below_ne hg hs
  unfold longE
  rw [List.getLastD_eq_getLast?]
  have hne : below ws s ≠ [] := fun z => by rw [z] at h; simp at h
  rw [List.getLast?_eq_some_getLast hne]
  exact List.getLast_mem hne
theorem tab_true (hg : Good ws n) : Tab ws (longE ws) := fun s hs => by
  have h := longE_mem hg hs
  unfold below at h
  rw [List.mem_filter, Bool.and_eq_true, decide_eq_true_eq] at h
  exact ⟨h.1, h.2.1⟩
theorem tab_new (hg : Good ws n) : Tab ws fun _ => "" := fun s hs => ⟨empty_all hg, by rw [empty_len]; have := nonempty_iff.mp ((mem_tl hg).mp hs).2; omega⟩
/-- the lesser states -/
def lessS (ws : List Str) (s : Str) : List Str := (allSt ws).filter fun o => decide (o.length < s.length)
theorem own_below (s : Str) : (lessS ws s).filter (fun o => decide (cutS s (some ((s.length : Int) - (o.length : Int))) none = o)) = below ws s := by
  unfold lessS below
  rw [List.filter_filter]
  refine List.filter_congr fun o _ => ?_
  by_cases h : o.length < s.length
  · rw [ends_cut h]; simp [h]
  · simp [h]
def deepS (ws : List Str) (s : Str) : List Str := (lessS ws s).filter fun o => decide ((o.length : Int) = (s.length : Int) - 1)
theorem deep_ne (hg : Good ws n) {s : Str} (hs : s ∈ tl ws) : deepS ws s ≠ [] := by
  obtain ⟨h1, h2⟩ := (mem_tl hg).mp hs
  obtain ⟨w, hw, k, hk, rfl⟩ := mem_keys.mp (mem_all.mp h1)
  have hl := nonempty_iff.mp h2
  rw [pre_len] at hl
  intro z
  have : pre w (k - 1) ∈ deepS ws (pre w k) := by
    unfold deepS lessS
    rw [List.mem_filter, List.mem_filter]
    refine ⟨⟨mem_all.mpr (mem_keys.mpr ⟨w, hw, k - 1, by omega, rfl⟩), ?_⟩, ?_⟩
    · rw [pre_len, pre_len]; simp; omega
    · rw [pre_len, pre_len]; simp; omega
  rw [z] at this
  simp at this
theorem less_ne (hg : Good ws n) {s : Str} (hs : s ∈ tl ws) : lessS ws s ≠ [] := fun z => deep_ne hg hs (by unfold deepS; rw [z]; rfl)
end
end HB

set_option Elab.async false
set_option linter.all false
set_option maxRecDepth 100000
set_option maxHeartbeats 1000000
/-! What is shown by repr has bounds. -/
namespace HB
open PySem PySem.Spec PyProof.Rows L2
/-- d may be shown: its depth is at most e, its text has at most k signs -/
structure RB (e k : Nat) (d : Dt) : Prop where
  nr : noRef d = true
  ok : repOk d = true
  dep : depD d ≤ e
  len : (repT d).length ≤ k
theorem RB.mono {e e' k k' : Nat} {d : Dt} (h : RB e k d) (he : e ≤ e') (hk : k ≤ k') : RB e' k' d := ⟨h.nr, h.ok, Nat.le_trans h.dep he, Nat.le_trans h.len hk⟩
theorem rb_S {z : Str} (h : Sm z) : RB 0 72 (.str z) := ⟨rfl, rfl, Nat.le_refl 0, rep_sm h⟩
theorem rb_N : RB 0 72 .non := ⟨rfl, rfl, Nat.le_refl 0, by show ("None" : Str).length ≤ 72; decide +kernel⟩
theorem rb_O {o : Option Str} (h : ∀ z, o = some z → Sm z) : RB 0 72 (oS o) := by
  cases o with
  | none => exact rb_N
  | some z => exact rb_S (h z rfl)
theorem dict_up (ps : List Str) : (dictText ps).length ≤ piled ps + 2 := by
  have e : (dictText ps).length = 1 + (Str.join ", " ps).length + 1 := by
    unfold dictText
    rw [app_len, app_len]; rfl
  by_cases h : ps = []
  · subst h
    rw [e]
    show 1 + (Str.join ", " []).length + 1 ≤ _
    have : (Str.join ", " []).length = 0 := by decide +kernel
    omega
  · have := join_length_add ps h
    omega
theorem rbs {e k : Nat} : ∀ {ds : List Dt}, (∀ d ∈ ds, RB e k d) → noRefs ds = true ∧ repOks ds = true ∧ depDs ds ≤ e ∧ piled (repTs ds) ≤ (k + 2) * ds.length
  | [], _ => ⟨by simp, by unfold repOks; rfl, by unfold depDs; omega, by show piled [] ≤ _; rw [piled_nil]; omega⟩
  | d :: ds, h => by
    obtain ⟨h1, h2, h3, h4⟩ := rbs fun x hx => h x (List.mem_cons_of_mem _ hx)
    have hd := h d (by simp)
    refine ⟨by rw [nrCons, hd.nr, h1]; rfl, ?_, ?_, ?_⟩
    · unfold repOks; rw [hd.ok, h2]; rfl
    · unfold depDs; have := hd.dep; omega
    · have := hd.len
      show piled (repT d :: repTs ds) ≤ _
      rw [piled_cons, List.length_cons, Nat.mul_succ]
      omega
theorem rb_L {e k m : Nat} {ds : List Dt} (h : ∀ d ∈ ds, RB e k d) (hm : ds.length ≤ m) : RB (e + 1) ((k + 2) * m + 2) (.lst ds) := by
  obtain ⟨h1, h2, h3, h4⟩ := rbs h
  refine ⟨by rw [nrL]; exact h1, by unfold repOk; exact h2, by unfold depD; omega, ?_⟩
  have := list_up (repTs ds)
  have : (k + 2) * ds.length ≤ (k + 2) * m := Nat.mul_le_mul_left _ hm
  show (listText (repTs ds)).length ≤ _
  omega
theorem rb_D {e k m : Nat} {ks : List Str} {f : Str → Dt} (hk : ∀ s ∈ ks, Sm s) (h : ∀ s ∈ ks, RB e k (f s)) (hm : ks.length ≤ m) : RB (e + 1) ((k + 76) * m + 2) (.dic (ks.map Sum.inr) (ks.map f)) := by
  obtain ⟨h1, h2, h3, _⟩ := rbs (ds := ks.map f) fun d hd => by
    obtain ⟨s, hs, rfl⟩ := List.mem_map.mp hd
    exact h s hs
  have hp : ∀ l : List Str, (∀ s ∈ l, Sm s) → (∀ s ∈ l, RB e k (f s)) → piled (repKs (l.map Sum.inr) (l.map f)) ≤ (k + 76) * l.length := by
    intro l
    induction l with
    | nil => intro _ _; show piled [] ≤ _; rw [piled_nil]; omega
    | cons s l ih =>
      intro g1 g2
      have i := ih (fun x hx => g1 x (by simp [hx])) fun x hx => g2 x (by simp [hx])
      have a := rep_sm (g1 s (by simp))
      have b := (g2 s (by simp)).len
      have c : (": " : Str).length = 2 := by decide +kernel
      rw [List.map_cons, List.map_cons]
      show piled ((reprText s ++ ": " ++ repT (f s)) :: repKs (l.map Sum.inr) (l.map f)) ≤ _
      rw [piled_cons, app_len, app_len, c, List.length_cons, Nat.mul_succ]
      have a' : (reprText s).length ≤ 72 := a
      omega
  refine ⟨by rw [nrD]; exact h1, ?_, by unfold depD; omega, ?_⟩
  · unfold repOk
    rw [h2, Bool.and_true, List.all_eq_true]
    intro x hx
    obtain ⟨s, _, rfl⟩ := List.mem_map.mp hx
    rfl
  · have := dict_up (repKs (ks.map Sum.inr) (ks.map f))
    have := hp ks hk h
    have : (k + 76) * ks.length ≤ (k + 76) * m := Nat.mul_le_mul_left _ hm
    show (dictText (repKs (ks.map Sum.inr) (ks.map f))).length ≤ _
    omega
theorem v_rep {e k : Nat} {st : Sto} {x d : Dt} (hd : deref st 8 x = some d) (h : RB e k d) (he : e ≤ 32) (hk : k ≤ 16777216) : gRep st [x] = some (.str (repT d), st) := by
  have hs := line_ge
  have := h.len
  have := h.dep
  show ((deref st 8 x).bind fun d => if noRef d = true ∧ repOk d = true ∧ depD d ≤ 32 ∧ (repT d).length ≤ sizeLine then some (Dt.str (repT d), st) else none) = _
  rw [hd]
  exact if_pos ⟨h.nr, h.ok, by omega, by omega⟩
theorem rb_WL {l : List Str} (h : Fine l) : RB 1 3000 (WL l) := (rb_L (m := 40) (fun d hd => by
  obtain ⟨s, hs, rfl⟩ := List.mem_map.mp hd
  exact rb_S (h.sm s hs)) (by rw [List.length_map]; exact h.few)).mono (by omega) (by omega)
theorem rb_tK {ks : List Str} {tb : Str → Str} (hk : ∀ s ∈ ks, Sm s) (h : ∀ s ∈ ks, Sm (tb s)) (hm : ks.length ≤ 40) : RB 1 6000 (tK ks tb) := (rb_D hk (fun s hs => rb_S (h s hs)) hm).mono (by omega) (by omega)
end HB

set_option Elab.async false
set_option linter.all false
set_option maxRecDepth 100000
set_option maxHeartbeats 1000000
/-! HC, part a: enumerate(text), one sign in a text, list(text), pop, dict(d), min, max, text * int, xs += ys, sorted. -/
namespace HB
open PySem PySem.Spec PyProof.Rows L2

/-! ### enumerate(text) -/
def Iten (x : Str) : It := ⟨fun i _ => i < x.cps.size, fun i H v H' => ∃ T c, v = .ref T ∧ H T = none ∧ H' = upd H T (.tup [.int (i : Nat), .str ⟨#[c]⟩]) ∧ x.cps[i]? = some c, fun i _ => x.cps.size ≤ i⟩
theorem turn_enumT {P : Program} {w : World} {K : PySem.W.Frag} {elts : List Expr} {kk : Nat} {tpos : Pos} (x : Str) (t : Tok) (ty : String) (hty : ty = "str_ascii_iterator" ∨ ty = "str_iterator") (e it : Addr) :
    Turn P w K (.Tuple elts kk tpos) (Iten x) [e, it] e (fun i h => (∃ old, IsEnum h e it ((i : Nat) : Int) old) ∧ h.IsStrIter it ty x t i ∧ e ≠ it ∧ i ≤ x.cps.size) where
  mem := by simp
  obj := fun i h st b hb => by
    obtain ⟨⟨old, he⟩, ⟨o, ho, hc, hd⟩, _⟩ := st
    have z : b = e ∨ b = it := by simpa using hb
    rcases z with z | z
    · rw [z]; exact ⟨_, he, fun v q => nomatch q⟩
    · rw [z]; exact ⟨o, ho, fun v q => by rw [hd] at q; cases q⟩
  keep := fun i h h' st k => by
    obtain ⟨⟨old, he⟩, ⟨o, ho, r⟩, hne, hi⟩ := st
    exact ⟨⟨old, k e (by simp) _ he⟩, ⟨o, k it (by simp) o ho, r⟩, hne, hi⟩
  item := by
    intro X hP hw hK hc i pins s σ H E I hf st hg
    subst hP hw hK
    obtain ⟨⟨old, he⟩, hit, hne, hi⟩ := st
    have hel : e < s.heap.objs.size := Heap.lt_size he
    have hil : it < s.heap.objs.size := by obtain ⟨_, q, _⟩ := hit; exact Heap.lt_size q
    have D : Draws X.prog X.w X.A.in1 it [it] x.cps.size (fun i v => ∃ c u, x.cps[i]? = some c ∧ v = .str ⟨#[c]⟩ u) (fun i h => h.IsStrIter it ty x t i) := by
      rcases hty with z | z
      · rw [z]; exact Draws.strAscii (A := X.A.in1) (I.ok.hd hc) it x t
      · rw [z]; exact Draws.strWide (A := X.A.in1) (I.ok.hd hc) it x t
    refine wpAny_pyNext_enum_itemD D he hit hg hne (by simpa using hne) fun v h' tk hv ho hit' hT hsz hk => ?_
    obtain ⟨c, u, hcx, rfl⟩ := hv
    refine ⟨_, rfl, wpAny_letOwnedTupleGo_enum (s := { s with heap := h', toks := tk + 1 }) ho fun h2 he2 sb => ?_⟩
    have hT2 : h2.get? s.heap.objs.size = some { cls := .type "tuple", data := .seq #[.int i tk, .str ⟨#[c]⟩ u] } := (sb.2 _ (Nat.ne_of_gt hel)).trans hT
    have new : ObjOk X.prog X.w (upd H s.heap.objs.size (.tup [.int (i : Nat), .str ⟨#[c]⟩])) h2 s.heap.objs.size (.tup [.int (i : Nat), .str ⟨#[c]⟩]) := ⟨by show 2 ≤ sizeLine; decide, [.int i tk, .str ⟨#[c]⟩ u], .cons ⟨_, rfl⟩ (.cons ⟨_, rfl⟩ .nil), ⟨_, hT2, rfl, _, rfl⟩⟩
    have I1 : Inv X pins σ (upd H s.heap.objs.size (.tup [.int (i : Nat), .str ⟨#[c]⟩])) { s with heap := h2, toks := tk + 1 } :=
      I.turnedNew (ch := [e, it]) (fun b ob hb q => (sb.2 b (fun z => hb (by simp [z]))).trans (hk b ob (fun z => hb (by simp [z])) (fun z => hb (by simp [z])) q)) hf (Nat.le_refl _) new
    refine ⟨.ref s.heap.objs.size, _, I1, rfl, ⟨_, c, rfl, I.hok.fresh (Nat.le_refl _), rfl, hcx⟩, ⟨⟨.str ⟨#[c]⟩ u, ?_⟩, ?_, hne, hg⟩, fun b hb => ?_⟩
    · have e1 : ((i + 1 : Nat) : Int) = (i : Int) + 1 := by omega
      rw [e1]; exact he2
    · obtain ⟨o, o1, o2⟩ := hit'
      exact ⟨o, (sb.2 it (Ne.symm hne)).trans o1, o2⟩
    · have hb' : b < s.heap.objs.size := by
        have z : b = e ∨ b = it := by simpa using hb
        rcases z with z | z
        · rw [z]; exact hel
        · rw [z]; exact hil
      rw [upd_ne (Nat.ne_of_lt hb')]
      exact (hf b hb).1
  done := by
    intro X hP hw hK hc i pins s σ H E I hf st hg
    subst hP hw hK
    obtain ⟨⟨old, he⟩, hit, hne, hi⟩ := st
    have hg' : x.cps.size ≤ i := hg
    have hix : i = x.cps.size := by omega
    obtain ⟨f0, f1, f2, f3, f4, f5⟩ := hf it (by simp)
    have D : Draws X.prog X.w X.A.in1 it [it] x.cps.size (fun i v => ∃ c u, x.cps[i]? = some c ∧ v = .str ⟨#[c]⟩ u) (fun i h => h.IsStrIter it ty x t i) := by
      rcases hty with z | z
      · rw [z]; exact Draws.strAscii (A := X.A.in1) (I.ok.hd hc) it x t
      · rw [z]; exact Draws.strWide (A := X.A.in1) (I.ok.hd hc) it x t
    refine wpAny_pyNext_enum_endD D he (by rw [hix] at hit; exact hit) fun h' eb => ⟨rfl, I.turned (t' := s.toks) (fun b o hb q => eb b o hb q) f0 f1 f3 f4 f5⟩
  self := fun A i s Q E st h => let ⟨⟨_, he⟩, _⟩ := st; wpAny_pyIter_enum he h
def iEnT (ta : TA) : TI := fun σ H R => ta σ H fun vs H1 => ∃ x, vs = [.str x] ∧ R (Iten x) H1
theorem pi_enT {X : Cx} {e : Expr} {ta : TA} {p pos tpos : Pos} {elts : List Expr} {kk : Nat} (hg : Gl X "enumerate") (hm : X.mg "enumerate" = none) (ha : PA X [e] ta) (hs : starEach [e] X.env = [(false, eval e X.env)] := by rfl) :
    PI X (.Tuple elts kk tpos) (.Call (.Name "enumerate" p) [e] [] pos) (iEnT ta) := by
  constructor
  intro pins s σ H R I h
  refine Call_ (ld_blt I hg hm boot_enumerate (PyProof.Rows.callWith_type1 (thn (ha.run pos pins s σ H _ I h) ?_) hs rfl))
  rintro us s1 ⟨vs, H1, I1, r1, x, rfl, q⟩
  cases r1 with
  | cons r rr =>
    cases rr
    obtain ⟨t, rfl⟩ := r
    refine call_enumerate_str fun h' he hit hsz hk => wpAny_pyIter_enum he ?_
    have I2 : Inv X pins σ H1 { s1 with heap := h' } := I1.kept (t' := s1.toks) hk
    have hty : strIterType x = "str_ascii_iterator" ∨ strIterType x = "str_iterator" := by
      unfold strIterType
      split
      · exact .inl rfl
      · exact .inr rfl
    refine ⟨s1.heap.objs.size + 1, [s1.heap.objs.size + 1, s1.heap.objs.size], _, _, H1, rfl, I2, turn_enumT x t _ hty (s1.heap.objs.size + 1) s1.heap.objs.size, ⟨⟨.none, he⟩, hit, Nat.succ_ne_self _, Nat.zero_le _⟩, fun b hb => ?_, q⟩
    have z : b = s1.heap.objs.size + 1 ∨ b = s1.heap.objs.size := by simpa using hb
    have hle : s1.heap.objs.size ≤ b := by
      rcases z with z | z
      · rw [z]; exact Nat.le_add_right _ _
      · rw [z]; exact Nat.le_refl _
    exact I1.fpOk hle (I1.hok.fresh hle)
def enumT (z : Str) : List Dt := z.cps.toList.zipIdx.map fun p => .tup [.int (p.2 : Nat), .str ⟨#[p.1]⟩]
def enT : List Dt → Option (List Dt)
  | [.str z] => some (enumT z)
  | _ => none
section
variable {T : List (Addr × Str)}
theorem sim_enT {ta : TA} {f : SA} (hf : SimA T ta f) : SimI T (iEnT ta) (iR enT f) := by
  intro Z L st H s r xs st' Q w e h q
  obtain ⟨⟨ds, st1⟩, h1, h2⟩ := bind_some' h
  obtain ⟨ys, h3, h4⟩ := Option.map_eq_some_iff.mp h2
  cases h4
  refine hf Z L st H s r ds _ _ w e h1 fun vs H1 L1 f1 p1 => ?_
  match ds, h3 with
  | [.str z], h3 =>
    cases h3
    obtain ⟨v, rfl, pv⟩ := dens1 p1
    refine ⟨z, by rw [den_str pv], q _ H1 L1 f1 fun Z2 L2 st2 H2 f2 => ⟨?_, fun i d hd => ?_⟩⟩
    · show z.cps.size ≤ _
      simp [enumT]
    · unfold enumT at hd
      rw [List.getElem?_map] at hd
      obtain ⟨⟨c, j⟩, e1, e2⟩ := Option.map_eq_some_iff.mp hd
      rw [List.getElem?_zipIdx] at e1
      obtain ⟨c', e3, e4⟩ := Option.map_eq_some_iff.mp e1
      simp at e4
      obtain ⟨rfl, rfl⟩ := e4
      subst e2
      have hi : i < z.cps.size := by
        have := (List.getElem?_eq_some_iff.mp e3).1
        simpa using this
      refine ⟨hi, fun x H3 hy => ?_⟩
      obtain ⟨T', c2, rfl, nT, rfl, hc2⟩ := hy
      have : c' = c2 := by
        have e5 : z.cps.toList[i]? = z.cps[i]? := by simp
        rw [e5, hc2] at e3
        exact (Option.some.inj e3).symm
      subst this
      exact ⟨.new f2.wd nT, .newT f2.wd nT (.cons Den.int (.cons Den.str .nil))⟩
end
/-! ### one sign in a text -/
def rSgn (neg : Bool) : R2 := fun x y H Q => ∃ (c : Nat) (z : Str), x = .str ⟨#[c]⟩ ∧ y = .str z ∧ Q (.bl (if neg then !decide (c ∈ z.cps.toList) else decide (c ∈ z.cps.toList))) H
def rInZ (K : PySem.W.Frag) (neg : Bool) : R2 := fun x y H Q => rInA K neg x y H Q ∨ rSgn neg x y H Q
theorem op_InZ {X : Cx} (hu : X.A.units + 1 < cLine) : OpR X (compareOp .In) (rInZ X.K false) := OpR.or (op_InA hu) op_in_sign
theorem op_NotInZ {X : Cx} (hu : X.A.units + 1 < cLine) : OpR X (compareOp .NotIn) (rInZ X.K true) := OpR.or (op_NotInA hu) op_notIn_sign
def gInZ (neg : Bool) (st : Sto) (x y : Dt) : Option (Dt × Sto) := match x, y with
  | .str ⟨cs⟩, .str z => (match cs.toList with
    | [c] => some (.bl (if neg then !decide (c ∈ z.cps.toList) else decide (c ∈ z.cps.toList)), st)
    | _ => none)
  | x, y => gIn neg st x y
section
variable {T : List (Addr × Str)} {K : PySem.W.Frag}
theorem vo_InZ {neg : Bool} : VO2 T (rInZ K neg) (gInZ neg) := by
  intro Z L st H x y dx dy d st' Q w hx hy h q
  unfold gInZ at h
  split at h
  · rename_i cs z
    split at h
    · rename_i c hc
      cases h
      have : cs = #[c] := by
        apply Array.ext'
        simpa using hc
      subst this
      exact .inr ⟨c, z, den_str hx, den_str hy, q _ H L (.refl w) Den.bl⟩
    · cases h
  · exact .inl (vo_In Z L st H x y _ _ d st' Q w hx hy h q)
end
/-! ### list(text) -/
def rLstT : List V → Hp → VK → Prop := fun xs H Q => ∃ z : Str, xs = [.str z] ∧ z.cps.size ≤ sizeLine ∧ ∀ q, H q = none → Q (.ref q) (upd H q (.lst (z.cps.toList.map fun c => .str ⟨#[c]⟩)))
theorem call_lstT {X : Cx} (hc : X.calm = true) : CallR X (.type "list") rLstT := by
  rintro pins s σ H _ us Q I r ⟨z, rfl, hz, q⟩
  obtain ⟨u, rfl, t, rfl⟩ := vals1 r
  refine call_list_str (I.ok.hd hc) z t (fun h' tk ac c' kp hS ha => ⟨.ref s.heap.objs.size, upd H s.heap.objs.size (.lst (z.cps.toList.map fun c => .str ⟨#[c]⟩)), I.laid kp (Nat.le_refl _) (show ObjOk X.prog X.w _ _ _ (.lst (z.cps.toList.map fun c => .str ⟨#[c]⟩)) from ⟨by simpa using hz, ac.toList, c', ?_, by rw [Array.toArray_toList]; exact hS⟩), rfl, q _ (I.hok.fresh (Nat.le_refl _))⟩) hz
  have el : ac.toList.length = ac.size := by simp
  refine vals_of_at (by rw [List.length_map, el, ha.1]; simp) fun j x y h1 h2 => ?_
  obtain ⟨c, u, e1, rfl⟩ := ha.2 j y (by rw [← Array.getElem?_toList]; exact h2)
  rw [List.getElem?_map, Array.getElem?_toList, e1] at h1
  cases h1
  exact ⟨u, rfl⟩
def rListB (K : PySem.W.Frag) : List V → Hp → VK → Prop := fun xs H Q => rListA K xs H Q ∨ rLstT xs H Q
theorem call_listB {X : Cx} (hc : X.calm = true) : CallR X (.type "list") (rListB X.K) := CallR.or (call_listA hc) (call_lstT hc)
def gListB (st : Sto) (xs : List Dt) : Option (Dt × Sto) := match xs with
  | [.str z] => if z.cps.size ≤ sizeLine then some (.lst (z.cps.toList.map fun c => .str ⟨#[c]⟩), st) else none
  | xs => gListD st xs
def gListBR (st : Sto) (xs : List Dt) : Option (Dt × Sto) := match xs with
  | [.str z] => if z.cps.size ≤ sizeLine then some (.ref st.length, st ++ [some (.lst (z.cps.toList.map fun c => .str ⟨#[c]⟩))]) else none
  | xs => gListDR st xs
theorem dens_signs {L : List Addr} {B : Addr → Prop} {H : Hp} : ∀ l : List Nat, Dens L B H (l.map fun c => Dt.str ⟨#[c]⟩) (l.map fun c => V.str ⟨#[c]⟩)
  | [] => .nil
  | _ :: l => .cons Den.str (dens_signs l)
section
variable {T : List (Addr × Str)} {K : PySem.W.Frag}
theorem vo_listB : VON T (rListB K) gListB := by
  intro Z L st H xs dxs d st' Q w hx h q
  unfold gListB at h
  split at h
  · rename_i z
    split at h
    · rename_i hz
      cases h
      obtain ⟨v, rfl, p⟩ := dens1 hx
      exact .inr ⟨z, by rw [den_str p], hz, fun l nl => q _ _ L (.new w nl) (.newL w nl (dens_signs _))⟩
    · cases h
  · exact .inl (vo_listD Z L st H xs _ d st' Q w hx h q)
theorem vo_listBR : VON T (rListB K) gListBR := by
  intro Z L st H xs dxs d st' Q w hx h q
  unfold gListBR at h
  split at h
  · rename_i z
    split at h
    · rename_i hz
      cases h
      obtain ⟨v, rfl, p⟩ := dens1 hx
      refine .inr ⟨z, by rw [den_str p], hz, fun l nl => ?_⟩
      refine q _ _ (L ++ [l]) (.newR w nl ⟨_, rfl, dens_signs _⟩) ?_
      unfold Den
      exact ⟨l, by rw [← w.len]; simp, rfl⟩
    · cases h
  · exact .inl (vo_listDR Z L st H xs _ d st' Q w hx h q)
/-! ### xs.pop(i) -/
def gPop (st : Sto) (x : Dt) (ys : List Dt) : Option (Dt × Sto) := match x, ys with
  | .ref k, [.int i] => (match st[k]? with
    | some (some (.lst ds)) => if -(2 ^ 63) ≤ i ∧ i < 2 ^ 63 then (seqIndex? i ds.length).bind fun j => (ds[j]?).map fun y => (y, st.set k (some (.lst (ds.eraseIdx j)))) else none
    | _ => none)
  | _, _ => none
theorem Dens.erase {L : List Addr} {B : Addr → Prop} {H : Hp} : ∀ {ds : List Dt} {vs : List V} (n : Nat), Dens L B H ds vs → Dens L B H (ds.eraseIdx n) (vs.eraseIdx n)
  | [], vs, _, h => by unfold Dens at h; subst h; exact .nil
  | e :: ds, vs, 0, h => by
    obtain ⟨w, r, rfl, _, t⟩ := h.uncons
    exact t
  | e :: ds, vs, n + 1, h => by
    obtain ⟨w, r, rfl, p, t⟩ := h.uncons
    exact .cons p (Dens.erase n t)
theorem vo_pop : VOM T rPopAt gPop := by
  intro Z L st H x xs dx dxs d st' Q w hx hxs h q
  unfold gPop at h
  split at h
  · rename_i k i
    split at h
    · rename_i ds hk
      split at h
      · rename_i hi
        obtain ⟨j, h1, h2⟩ := bind_some' h
        obtain ⟨y, h3, h4⟩ := Option.map_eq_some_iff.mp h2
        cases h4
        obtain ⟨v, rfl, p⟩ := dens1 hxs
        unfold Den at hx
        obtain ⟨a, ka, rfl⟩ := hx
        obtain ⟨nz, o, eo, vs, rfl, t⟩ := w.own k a _ ka hk
        obtain ⟨u, g1, g2⟩ := t.get h3
        have af := Afz.wr (o := .lst (vs.eraseIdx j)) (d' := .lst (ds.eraseIdx j)) w ka hk ⟨_, rfl, t.erase j⟩
        exact ⟨a, vs, i, j, u, rfl, by rw [den_int p], eo, hi.1, hi.2, by rw [← t.len]; exact h1, g1, q _ _ L af (g2.keep af)⟩
      · cases h
    · cases h
  · cases h
/-! ### dict(d) -/
def rDictC : List V → Hp → VK → Prop := fun xs H Q => ∃ (a : Addr) (kvs : List (Key × V)), xs = [.ref a] ∧ Rd H a (.dK kvs) ∧ ∀ p, H p = none → Q (.ref p) (upd H p (.dK kvs))
def rDictA (K : PySem.W.Frag) : List V → Hp → VK → Prop := fun xs H Q => rDictP K xs H Q ∨ rDictC xs H Q
theorem call_dictA {X : Cx} (hc : X.calm = true) : CallR X (.type "dict") (rDictA X.K) := CallR.or (call_dictP hc) call_dictD
def gDictA (st : Sto) (xs : List Dt) : Option (Dt × Sto) := match xs with
  | [x] => (match asD st x with
    | some p => some (.dic p.1 p.2, st)
    | none => gDictP st [x])
  | _ => none
def gDictAR (st : Sto) (xs : List Dt) : Option (Dt × Sto) := match xs with
  | [x] => (match asD st x with
    | some p => some (.ref st.length, st ++ [some (.dic p.1 p.2)])
    | none => gDictPR st [x])
  | _ => none
theorem vo_dictA : VON T (rDictA K) gDictA := by
  intro Z L st H xs dxs d st' Q w hx h q
  unfold gDictA at h
  split at h
  · split at h
    · rename_i p hp
      cases h
      obtain ⟨ks, ds⟩ := p
      obtain ⟨v, rfl, pv⟩ := dens1 hx
      obtain ⟨a, vs, rfl, ra, hl, t⟩ := asD_ok w pv hp
      exact .inr ⟨a, _, rfl, ra, fun l nl => q _ _ L (.new w nl) (.newD w nl hl t)⟩
    · exact .inl (vo_dictP Z L st H xs _ d st' Q w hx h q)
  · cases h
theorem vo_dictAR : VON T (rDictA K) gDictAR := by
  intro Z L st H xs dxs d st' Q w hx h q
  unfold gDictAR at h
  split at h
  · split at h
    · rename_i p hp
      cases h
      obtain ⟨ks, ds⟩ := p
      obtain ⟨v, rfl, pv⟩ := dens1 hx
      obtain ⟨a, vs, rfl, ra, hl, t⟩ := asD_ok w pv hp
      refine .inr ⟨a, _, rfl, ra, fun l nl => ?_⟩
      refine q _ _ (L ++ [l]) (.newR w nl ⟨vs, rfl, hl, t⟩) ?_
      unfold Den
      exact ⟨l, by rw [← w.len]; simp, rfl⟩
    · exact .inl (vo_dictPR Z L st H xs _ d st' Q w hx h q)
  · cases h
/-! ### min, max of two -/
def g2I (f : Int → Int → Int) (st : Sto) (xs : List Dt) : Option (Dt × Sto) := match xs with
  | [.int i, .int j] => some (.int (f i j), st)
  | _ => none
theorem vo_2I {f : Int → Int → Int} : VON T (fun xs H Q => ∃ i j, xs = [.int i, .int j] ∧ Q (.int (f i j)) H) (g2I f) := by
  intro Z L st H xs dxs d st' Q w hx h q
  unfold g2I at h
  split at h
  · cases h
    obtain ⟨v, u, rfl, p1, p2⟩ := dens2 hx
    exact ⟨_, _, by rw [den_int p1, den_int p2], q _ H L (.refl w) Den.int⟩
  · cases h
def mx (i j : Int) : Int := if j > i then j else i
def mn (i j : Int) : Int := if j < i then j else i
def gMax : Sto → List Dt → Option (Dt × Sto) := g2I mx
def gMin2 : Sto → List Dt → Option (Dt × Sto) := g2I mn
theorem vo_max : VON T (fun xs H Q => ∃ i j, xs = [.int i, .int j] ∧ Q (.int (if j > i then j else i)) H) gMax := vo_2I
theorem vo_min : VON T (fun xs H Q => ∃ i j, xs = [.int i, .int j] ∧ Q (.int (if j < i then j else i)) H) gMin2 := vo_2I
end
/-! ### text * int -/
def repS (z : Str) (k : Nat) : Str := ⟨((List.replicate k z.cps.toList).flatten).toArray⟩
theorem foldl_app : ∀ (k : Nat) (a : Array Nat) (acc : Array Nat), (List.replicate k a).foldl (· ++ ·) acc = acc ++ ((List.replicate k a.toList).flatten).toArray
  | 0, a, acc => by simp
  | k + 1, a, acc => by
    rw [List.replicate_succ, List.foldl_cons, foldl_app k a (acc ++ a), List.replicate_succ, List.flatten_cons]
    apply Array.ext'
    simp
theorem rep_len (z : Str) (k : Nat) : (repS z k).length = k * z.length := by
  unfold repS
  have : ∀ k : Nat, ((List.replicate k z.cps.toList).flatten).length = k * z.cps.toList.length := by
    intro k
    induction k with
    | zero => simp
    | succ k ih => rw [List.replicate_succ, List.flatten_cons, List.length_append, ih, Nat.succ_mul]; omega
  rw [str_len, str_len]
  show ((List.replicate k z.cps.toList).flatten).toArray.toList.length = _
  rw [List.toList_toArray, this]
def rMulS : R2 := fun x y H Q => ∃ (z : Str) (k : Int), x = .str z ∧ y = .int k ∧ 0 ≤ k ∧ k ≤ 1000000 ∧ z.length * k.toNat ≤ 16000000 ∧ Q (.str (repS z k.toNat)) H
theorem op_MulS {X : Cx} : OpR X (binaryOp .Mult) rMulS := by
  rintro pins s σ H _ _ v u Q I rx ry ⟨z, k, rfl, rfl, h0, h1, hz, q⟩
  obtain ⟨t, rfl⟩ := rx
  obtain ⟨t2, rfl⟩ := ry
  have hs : 16777216 ≤ sizeLine := by decide
  refine PySem.P.mul_str (by rw [decide_eq_false (by omega), decide_eq_false (by omega)]; rfl) (fun _ _ => ?_) (fun _ _ => ?_) ?_
  · have hk : (1 : Int) ≤ k := by omega
    have : (z.length : Int) * k ≤ 16000000 := by
      have e : (k.toNat : Int) = k := Int.toNat_of_nonneg h0
      rw [← e, ← Int.natCast_mul]
      exact Int.ofNat_le.mpr hz
    have h3 : (z.length : Int) ≤ 16000000 := Int.le_trans (by
      have := Int.mul_le_mul_of_nonneg_left hk (show (0 : Int) ≤ z.length by omega)
      rw [Int.mul_one] at this
      exact this) this
    have h4 : (16000000 : Int) ≤ (2 ^ 63 - 1) / k := by
      rw [Int.le_ediv_iff_mul_le (by omega)]
      omega
    omega
  · exact decide_eq_false (by omega)
  · split
    · rename_i h2
      have hk : k.toNat = 0 := by omega
      rw [hk] at q
      have e : repS z 0 = Str.empty := rfl
      rw [e] at q
      exact ⟨by decide, ⟨.str Str.empty, H, I.tok _, ⟨_, rfl⟩, q⟩⟩
    · split
      · rename_i h2 h3
        have e : repS z k.toNat = z := by
          simp at h3
          rcases h3 with h3 | h3
          · subst h3
            unfold repS
            simp
          · have : z = ⟨#[]⟩ := by
              cases z
              simp [Str.length] at h3
              subst h3
              rfl
            subst this
            unfold repS
            simp
        rw [e] at q
        exact ⟨.str z, H, I, ⟨t, rfl⟩, q⟩
      · have e : (⟨(List.replicate k.toNat z.cps).foldl (· ++ ·) #[]⟩ : Str) = repS z k.toNat := by
          unfold repS
          rw [foldl_app]
          simp
        rw [e]
        refine ⟨?_, ⟨.str (repS z k.toNat), H, I.tok _, ⟨_, rfl⟩, q⟩⟩
        have := rep_len z k.toNat
        have : k.toNat * z.length = z.length * k.toNat := Nat.mul_comm _ _
        omega
end HB

set_option Elab.async false
set_option linter.all false
set_option maxRecDepth 100000
set_option maxHeartbeats 1000000
/-! HC, part b: sorted(text), sorted(d); the operators with texts; xs += ys; the walks of dicts that are locked. -/
namespace HB
open PySem PySem.Spec PyProof.Rows L2

/-! ### sorted(text) -/
def signs (z : Str) : List Str := z.cps.toList.map fun c => ⟨#[c]⟩
def rSortT : List V → Hp → VK → Prop := fun xs H Q => ∃ z : Str, xs = [.str z] ∧ z.length ≤ 1000 ∧ ∀ p, H p = none → Q (.ref p) (upd H p (.lst ((sortS (signs z)).map V.str)))
theorem strs_ix : ∀ {vs : List Value} {xs : List Str}, vs.length = xs.length → (∀ (j : Nat) (v : Value), vs[j]? = some v → ∃ x u, xs[j]? = some x ∧ v = Value.str x u) → StrsAre vs xs
  | [], [], _, _ => .nil
  | [], _ :: _, h, _ => by simp at h
  | _ :: _, [], h, _ => by simp at h
  | v :: vs, x :: xs, h, f => by
    obtain ⟨y, u, e1, rfl⟩ := f 0 v rfl
    simp at e1
    subst e1
    exact .cons x u (strs_ix (by simpa using h) fun j w hj => by simpa using f (j + 1) w (by simpa using hj))
theorem signs_len (z : Str) : (signs z).length = z.length := by unfold signs; rw [List.length_map, ← str_len]
section
variable {prog : Program} {w : World} {A : Around} {E : Value → Shared → Prop} {s : Shared}
/-- a text's signs collected; the heap has grown -/
theorem collect_strZ {Q : List Value → Shared → Prop} (hh : A.handled = none) (x : Str) (t : Tok)
    (hQ : ∀ s2 ac, (∀ b o, s.heap.get? b = some o → s2.heap.get? b = some o) → s.heap.objs.size < s2.heap.objs.size → s2.gens = s.gens → s2.drawn = s.drawn → s2.os = s.os → ItemsOf (SignAt x) ac x.cps.size → Q ac.toList s2) (hn : x.cps.size ≤ sizeLine) :
    wpAny (model prog w) A (collect (.str x t)) Q E s := by
  unfold collect
  refine wpAny_bind (wpAny_runValue (codeAny_builtin PySem.F.entry_proto_collect ?_))
  rw [Around.under_plainId PySem.F.plain_proto_collect _]
  show wpAny _ A.in1 (newList [] >>= fun l => again (.builtin "list.__iadd__" ⟨[l, .str x t], []⟩)) _ _ s
  refine wpAny_bind (wpAny_newObj_type (wpAny_pure ⟨plainId_quiet PySem.F.plain_list_iadd _, codeAny_builtin PySem.F.entry_list_iadd ?_⟩))
  rw [Around.under_plainId PySem.F.plain_list_iadd _]
  show wpAny _ A.in1 (Builtin.List.listExtendWith (.ref s.heap.objs.size) (.str x t) (.ref s.heap.objs.size)) _ _ _
  unfold Builtin.List.listExtendWith
  refine wpAny_bind (wpAny_typeOf (T := "str") (v := .str x t) rfl ?_)
  have q1 : Builtin.List.listSameRef (.ref s.heap.objs.size) (.str x t) = false := rfl
  have q2 : (Value.type "str" == Value.type "list") = false := by decide
  have q3 : (Value.type "str" == Value.type "tuple") = false := by decide
  simp only [q1, q2, q3, Bool.or_false, Bool.false_eq_true, if_false]
  refine wpAny_bind (wpAny_pyIter_str fun o St W hst => ?_)
  refine wpAny_bind (wpAny_holding ?_)
  unfold Builtin.List.listLengthHint
  refine wpAny_bind (wpAny_specialOf (T := "str") (v := .str x t) rfl PySem.F.str_len ?_)
  wp_delta
  refine wpAny_bind (wpAny_isInstance (T := "str") (v := .str x t) (b := true) rfl (by rw [isSubtype_type]; kernel_rfl) ?_)
  show wpAny _ A.in1 (typeOf (Value.str x t) >>= _) _ _ _
  refine wpAny_bind (wpAny_typeOf (T := "str") (v := .str x t) rfl (wpAny_pure ?_))
  rw [if_neg (by decide)]
  generalize hH : s.heap.push { cls := .type "list", data := .seq ([] : List Value).toArray } = G at W hst ⊢
  have hGs : G.objs.size = s.heap.objs.size + 1 := by rw [← hH, Heap.size_push]
  have nf : s.heap.objs.size ∉ [G.objs.size] := fun hm => by have := List.mem_singleton.mp hm; omega
  have hS : (G.push o).get? s.heap.objs.size = some { cls := .type "list", data := .seq ([] : List Value).toArray } := Heap.get?_push_of_some _ (hH ▸ Heap.get?_push_size _ rfl)
  refine wpAny_pure ⟨plainId_quiet PySem.F.plain_extend_loop _, codeAny_extend_loopS (W A.in1 hh).toS hn _ nf _ x.cps.size 0 _ _ _ rfl (Nat.zero_le _) hst hS (ItemsOf.nil _) fun s2 ac c2 hm hS2 hac => ?_⟩
  show wpAny _ A (load s.heap.objs.size >>= _) _ _ s2
  refine wpAny_bind (wpAny_load hS2 (wpAny_pure (hQ s2 ac (fun b ob e => hm.heap b ob (fun hb => ?_) (Heap.get?_push_of_some _ (hH ▸ Heap.get?_push_of_some _ e))) (Heap.lt_size hS2) hm.gens hm.drawn hm.os hac)))
  have hlt := Heap.lt_size e
  rcases List.mem_cons.mp hb with h | h
  · rw [h] at hlt; exact absurd hlt (Nat.lt_irrefl _)
  · rw [List.mem_singleton.mp h, hGs] at hlt; exact absurd hlt (Nat.not_lt.mpr (Nat.le_succ _))
end
theorem cr_sortT {X : Cx} (hc : X.calm = true) (hu : X.A.units + 64 < cLine) : CallR X (.builtin "sorted") rSortT := by
  rintro pins s s1 H _ us Q I r ⟨z, rfl, hz, q⟩
  obtain ⟨u, rfl, t, rfl⟩ := vals1 r
  have hsl : 16777216 ≤ sizeLine := by decide
  have hzs : z.cps.size = z.length := rfl
  refine Calls.call_function_entry kind_sorted plain_sorted entry_sorted (args_sorted1 _) ?_
  unfold Builtin.«sorted»
  refine wpAny_bind (m := checkCount "sorted" 1 1 _) (wpAny_pure ?_)
  refine wpAny_bind (collect_strZ (A := X.A.in1) (I.ok.hd hc) z t (fun s2 acc k2 z1 g2 d2 o2 ha => ?_) (by omega))
  have z2 : s.heap.objs.size ≤ s2.heap.objs.size := Nat.le_of_lt z1
  have hal : acc.toList.length = (signs z).length := by rw [Array.length_toList, ha.1, signs_len, hzs]
  have hS : StrsAre acc.toList (signs z) := strs_ix hal fun j v e => by
    obtain ⟨c, u, e1, e2⟩ := ha.2 j v (by rw [← Array.getElem?_toList]; exact e)
    refine ⟨⟨#[c]⟩, u, ?_, e2⟩
    unfold signs
    rw [List.getElem?_map, Array.getElem?_toList, e1]
    rfl
  have hsn := signs_len z
  refine wpAny_bind (wpAny_newList ?_ (by omega))
  have hoL : (s2.heap.push (seqObj "list" acc.toList.toArray 0)).get? s2.heap.objs.size = some (seqObj "list" acc.toList.toArray 0) := Heap.get?_push_size _ rfl
  refine wpAny_bind (wpAny_holding (sort_strs (s := { s2 with heap := s2.heap.push (seqObj "list" acc.toList.toArray 0) }) hoL hS (by omega) (by show X.A.units + 1 + 2 < cLine; omega) fun out c h' ho2 hc2 kp => ?_))
  refine wpAny_pure ⟨_, rfl, ?_⟩
  have hn : H s2.heap.objs.size = none := I.hok.fresh z2
  have k3 : ∀ b o, s.heap.get? b = some o → h'.get? b = some o := fun b o e => by
    have := k2 b o e
    exact kp b o (Nat.ne_of_lt (Heap.lt_size this)) (Heap.get?_push_of_some _ this)
  have J : Inv X pins s1 (upd H s2.heap.objs.size (.lst ((sortS (signs z)).map V.str))) { s with heap := h', gens := s2.gens, drawn := s2.drawn, toks := s2.toks } :=
    I.call (ch := []) (Un.laid k3 z2 hn) (I.hok.laid k3 z2 ⟨by rw [List.length_map, sortS_len]; omega, out, c, vals_strs ho2, hc2⟩) (by rw [g2]; exact I.bare) (fun _ z => nomatch z)
  have e : { s2 with heap := h' } = { s with heap := h', gens := s2.gens, drawn := s2.drawn, toks := s2.toks } := by
    cases s2; cases s; cases o2; rfl
  show EP X pins s1 Q _ { s2 with heap := h' }
  rw [e]
  exact ⟨.ref _, _, J, rfl, q _ hn⟩
/-! ### sorted(d), its keys texts -/
def rSortD : List V → Hp → VK → Prop := fun xs H Q => ∃ (a : Addr) (kvs : List (Key × V)) (ks : List Str), xs = [.ref a] ∧ Rd H a (.dK kvs) ∧ kvs.map (·.1) = ks.map Sum.inr ∧ ∀ p, H p = none → Q (.ref p) (upd H p (.lst ((sortS ks).map V.str)))
theorem cr_sortD {X : Cx} (hc : X.calm = true) (hu : X.A.units + 64 < cLine) : CallR X (.builtin "sorted") rSortD := by
  rintro pins s s1 H _ us Q I r ⟨a, kvs, ks, rfl, hd, hks, q⟩
  rw [Vals.ref1 r]
  obtain ⟨z, lo, vs, rel, dd⟩ := hd.ok I.hok
  obtain ⟨ep, hat⟩ := dd.dictAt
  have hkeys : vs.map (·.1) = ks.map Sum.inr := rel.keys.symm.trans hks
  have hl : vs.length = ks.length := by have e := congrArg List.length hkeys; simpa using e
  have h16 : vs.length ≤ sizeLine := by have := rel.length; omega
  refine Calls.call_function_entry kind_sorted plain_sorted entry_sorted (args_sorted1 _) ?_
  unfold Builtin.«sorted»
  refine wpAny_bind (m := checkCount "sorted" 1 1 _) (wpAny_pure ?_)
  refine wpAny_bind (PySem.W.kdu_collect (A := X.A.in1) (PySem.W.kdl_dict (knd := mixKind X.prog X.w) (kvs := vs) (ep := ep) lo) (I.ok.hd hc) hat h16 fun h2 tk acc k2 ha => ?_)
  have hal : acc.toList.length = ks.length := by rw [Array.length_toList, ha.1, hl]
  have hS : StrsAre acc.toList ks := strs_ix hal fun j v e => by
    obtain ⟨k, x, e1, e2⟩ := ha.2 j v (by rw [← Array.getElem?_toList]; exact e)
    have e3 : (vs.map (·.1))[j]? = some k := by rw [List.getElem?_map, e1]; rfl
    rw [hkeys, List.getElem?_map] at e3
    obtain ⟨y, e4, e5⟩ := Option.map_eq_some_iff.mp e3
    subst e5
    obtain ⟨t, ev⟩ := Value.isStrOf_shape (x := y) (v := v) e2
    exact ⟨y, t, e4, ev⟩
  have I1 : Inv X pins s1 H { s with heap := h2, toks := tk } := I.kept k2
  refine wpAny_bind (wpAny_newList ?_ (by omega))
  have hoL : (h2.push (seqObj "list" acc.toList.toArray 0)).get? h2.objs.size = some (seqObj "list" acc.toList.toArray 0) := Heap.get?_push_size _ rfl
  show wpAny _ _ _ _ _ { s with heap := h2.push (seqObj "list" acc.toList.toArray 0), toks := tk }
  refine wpAny_bind (wpAny_holding (sort_strs (s := { s with heap := h2.push (seqObj "list" acc.toList.toArray 0), toks := tk }) hoL hS (by omega) (by show X.A.units + 1 + 2 < cLine; omega) fun out c h' ho2 hc2 kp => ?_))
  refine wpAny_pure ⟨_, rfl, ?_⟩
  exact ⟨.ref _, upd H h2.objs.size (.lst ((sortS ks).map V.str)), I1.laid (t' := tk) (fun b o e => kp b o (Nat.ne_of_lt (Heap.lt_size e)) (Heap.get?_push_of_some _ e)) (Nat.le_refl _) ⟨by rw [List.length_map, sortS_len]; omega, out, c, vals_strs ho2, hc2⟩, rfl, q _ (I1.hok.fresh (Nat.le_refl _))⟩
def rSortZ (K : PySem.W.Frag) : List V → Hp → VK → Prop := fun xs H Q => (rSortL K xs H Q ∨ rSortT xs H Q) ∨ rSortD xs H Q
theorem cr_sortZ {X : Cx} (hc : X.calm = true) (hu : X.A.units + 64 < cLine) : CallR X (.builtin "sorted") (rSortZ X.K) := CallR.or (CallR.or (cr_sortL hu) (cr_sortT hc hu)) (cr_sortD hc hu)
def gSortZ (st : Sto) (xs : List Dt) : Option (Dt × Sto) := match xs with
  | [.str z] => if z.length ≤ 1000 then some (.lst ((sortS (signs z)).map .str), st) else none
  | [x] => (match asL st x with
    | some ds => (strs' ds).map fun ys => (.lst ((sortS ys).map .str), st)
    | none => (asD st x).bind fun p => (kStrs p.1).map fun ks => (.lst ((sortS ks).map .str), st))
  | _ => none
section
variable {T : List (Addr × Str)} {K : PySem.W.Frag}
theorem vo_sortZ : VON T (rSortZ K) gSortZ := by
  intro Z L st H xs dxs d st' Q w hx h q
  unfold gSortZ at h
  split at h
  · rename_i z
    split at h
    · rename_i hz
      cases h
      obtain ⟨v, rfl, p⟩ := dens1 hx
      exact .inl (.inr ⟨z, by rw [den_str p], hz, fun l nl => q _ _ L (.new w nl) (.newL w nl (dens_strs _))⟩)
    · cases h
  · obtain ⟨v, rfl, p⟩ := dens1 hx
    split at h
    · rename_i ds hd
      obtain ⟨ys, h1, h2⟩ := Option.map_eq_some_iff.mp h
      cases h2
      obtain ⟨a, vs, rfl, ea, t⟩ := asL_ok w p hd
      have := strs_ok t h1
      subst this
      exact .inl (.inl ⟨a, ys, rfl, SqL.of ea, fun l nl => q _ _ L (.new w nl) (.newL w nl (dens_strs _))⟩)
    · obtain ⟨⟨ks, ds⟩, h1, h2⟩ := bind_some' h
      obtain ⟨l, h3, h4⟩ := Option.map_eq_some_iff.mp h2
      cases h4
      obtain ⟨a, vs, rfl, ra, hl, t⟩ := asD_ok w p h1
      have := kStrs_ok h3
      dsimp only at this
      subst this
      exact .inr ⟨a, _, l, rfl, ra, zip_keys hl, fun p np => q _ _ L (.new w np) (.newL w np (dens_strs _))⟩
  · cases h
end
/-! ### * with texts -/
def rMulZ : R2 := fun x y H Q => rMulA x y H Q ∨ rMulS x y H Q
theorem op_MulZ {X : Cx} : OpR X (binaryOp .Mult) rMulZ := OpR.or op_MulA op_MulS
def gMulZ (st : Sto) (x y : Dt) : Option (Dt × Sto) := match x, y with
  | .str z, .int k => if 0 ≤ k ∧ k ≤ 1000000 ∧ z.length * k.toNat ≤ 16000000 then some (.str (repS z k.toNat), st) else none
  | x, y => gMulA st x y
section
variable {T : List (Addr × Str)} {K : PySem.W.Frag}
theorem vo_MulZ : VO2 T rMulZ gMulZ := by
  intro Z L st H x y dx dy d st' Q w hx hy h q
  unfold gMulZ at h
  split at h
  · split at h
    · rename_i hk
      cases h
      exact .inr ⟨_, _, den_str hx, den_int hy, hk.1, hk.2.1, hk.2.2, q _ H L (.refl w) Den.str⟩
    · cases h
  · exact .inl (vo_MulA Z L st H x y _ _ d st' Q w hx hy h q)
/-! ### xs += ys of a live list, n += m -/
def rAugA : R2 := fun x y H Q => ipI (fun i j => i + j) x y H Q ∨ rExt2 x y H Q
theorem ip_addA {X : Cx} : PIp X .Add rAugA := fun pins s σ H x y v u Q I rx ry h => h.elim (ip_add pins s σ H x y v u Q I rx ry) (iop_ext pins s σ H x y v u Q I rx ry)
def gAugA (st : Sto) (x y : Dt) : Option (Dt × Sto) := match x, y with
  | .int i, .int j => some (.int (i + j), st)
  | .ref k, y => (match st[k]? with
    | some (some (.lst ds)) => (asL st y).bind fun es => if ds.length + es.length ≤ sizeLine then some (.ref k, st.set k (some (.lst (ds ++ es)))) else none
    | _ => none)
  | _, _ => none
theorem sim_augA {i : Nat} {ta : TE} {fa : SE} (ha : SimE T ta fa) : SimS T (tAug i ta rAugA) (sAug i gAugA fa) := by
  intro Z L st H s r o D w e h q
  unfold sAug at h
  split at h
  · rename_i d hd
    obtain ⟨⟨dy, st1⟩, h1, h⟩ := bind_some' h
    obtain ⟨⟨dz, st2⟩, h2, h3⟩ := Option.map_eq_some_iff.mp h
    cases h3
    obtain ⟨x, hx, px⟩ := e.2 i d hd
    refine ⟨x, hx, ha Z L st H s r dy st1 _ w e h1 fun y H1 L1 f1 p1 => ?_⟩
    dsimp only at h2
    unfold gAugA at h2
    split at h2
    · cases h2
      rw [den_int px, den_int p1]
      exact .inl ⟨_, _, rfl, rfl, q _ H1 L1 f1 ((e.keep f1).set i Den.int)⟩
    · rename_i k _
      split at h2
      · rename_i ds hk
        obtain ⟨es, h4, h5⟩ := bind_some' h2
        split at h5
        · rename_i hz
          cases h5
          have px' := px.keep f1
          unfold Den at px'
          obtain ⟨a, ka, rfl⟩ := px'
          obtain ⟨nz, o, eo, vs, rfl, t⟩ := f1.wd.own k a _ ka hk
          obtain ⟨b, us, rfl, eb, t2⟩ := asL_ok f1.wd p1 h4
          have af := Afz.wr (o := .lst (vs ++ us)) (d' := .lst (ds ++ es)) f1.wd ka hk ⟨_, rfl, t.append t2⟩
          refine .inr ⟨a, b, vs, us, rfl, rfl, eo, eb, by rw [← t.len, ← t2.len]; exact hz, q _ _ L1 (f1.trans af) (((e.keep f1).keep af).set i ?_)⟩
          unfold Den
          exact ⟨a, af.ix ka, rfl⟩
        · cases h5
      · cases h2
    · cases h2
  · cases h
end
section
variable {T : List (Addr × Str)} {X : Cx} {a b c e o : Expr} {es rest : List Expr} {fa fb fc : SE} {ga gb : ST} {fs : SA} {pos : Pos} {g k : SS}
theorem jsAugZ {i : Nat} {x : Str} {p2 : Pos} (hN : X.N.Nodup) (he : PE X e (rE T fa)) (hi : X.N[i]? = some x := by rfl) (hx : Loc X.env.scope x := by first | exact Or.inl rfl | exact Or.inr rfl) (hf : X.fn x = true ∨ X.env.scope.names.lookup x = some .local := by first | exact .inl rfl | exact .inr rfl) :
    PS X (.AugAssign (.Name x p2) .Add e pos) (rS T (sAug i gAugA fa)) := toS (ps_aug hN hi hx he ip_addA hf) (sim_augA sE)
theorem jMulZ (ha : PE X a (rE T fa)) (hb : PE X b (rE T fb)) : PE X (.BinOp a .Mult b pos) (rE T (eOp2 gMulZ fa fb)) := jOp op_MulZ vo_MulZ ha hb
theorem jiEnT {p tpos : Pos} {elts : List Expr} {kk : Nat} (hg : Gl X "enumerate") (hm : X.mg "enumerate" = none) (ha : PA X [e] (rA T fs)) (hs : starEach [e] X.env = [(false, eval e X.env)] := by rfl) :
    PI X (.Tuple elts kk tpos) (.Call (.Name "enumerate" p) [e] [] pos) (rI T (iR enT fs)) := toI (pi_enT hg hm ha hs) (sim_enT sA)
theorem jPop {apos : Pos} (ho : PE X o (rE T fa)) (ha : PA X [e] (rA T fs))
    (hbase : attributeBase o "pop" X.env (eval o X.env) = eval o X.env := by rfl)
    (hfew : ((backTo pos (starEach [e] X.env)).all (fun x => !x.1) && (backToKw pos (keywordEach [] X.env)).all (fun x => x.1.isSome) && decide ([e].length + ([] : List Keyword).length + (if ([] : List Keyword).isEmpty then 0 else 1) < 30)) = true := by rfl)
    (hline : (apos.endLine == pos.line) = true := by rfl) (hs : starEach [e] X.env = (false, eval e X.env) :: starEach [] X.env := by rfl) :
    PE X (.Call (.Attribute o "pop" apos) [e] [] pos) (rE T (eM isL gPop fa fs)) := toE (pe_bm PySem.F.plainAttrs_list PySem.F.slot_list_pop PySem.F.type_list_pop mt_popAt ho ha hbase hfew hline hs rfl) (sim_bmL sE sA vo_pop)
end
/-! ### a dict that is locked while it is walked -/
section
variable {T : List (Addr × Str)} {Z : Addr → Prop} {L L' : List Addr} {st st' : Sto} {H H' : Hp} {a : Addr} {od : Obj} {kvs : List (Key × V)}
mutual
theorem Den.lock {B : Addr → Prop} (ha : H a = some (.dK kvs)) : ∀ {d : Dt} {v : V}, Den L B H d v → Den L B (upd H a (.frz od (.dK kvs))) d v
  | .non, _, q => by unfold Den at q ⊢; exact q
  | .bl _, _, q => by unfold Den at q ⊢; exact q
  | .int _, _, q => by unfold Den at q ⊢; exact q
  | .str _, _, q => by unfold Den at q ⊢; exact q
  | .ref _, _, q => by unfold Den at q ⊢; exact q
  | .lst ds, _, q => by
    unfold Den at q ⊢
    obtain ⟨b, vs, r, nb, e, t⟩ := q
    exact ⟨b, vs, r, nb, by rw [upd_ne (fun z => by rw [z, ha] at e; cases e)]; exact e, Dens.lock ha t⟩
  | .tup ds, _, q => by
    unfold Den at q ⊢
    obtain ⟨b, vs, r, e, t⟩ := q
    exact ⟨b, vs, r, by rw [upd_ne (fun z => by rw [z, ha] at e; cases e)]; exact e, Dens.lock ha t⟩
  | .dic ks ds, _, q => by
    unfold Den at q ⊢
    obtain ⟨b, vs, r, nb, e, el, t⟩ := q
    refine ⟨b, vs, r, nb, ?_, el, Dens.lock ha t⟩
    by_cases hb : b = a
    · subst hb
      rcases e with e | ⟨x, e⟩
      · rw [ha] at e
        cases e
        exact .inr ⟨od, upd_same⟩
      · rw [ha] at e
        cases e
    · rcases e with e | ⟨x, e⟩
      · exact .inl (by rw [upd_ne hb]; exact e)
      · exact .inr ⟨x, by rw [upd_ne hb]; exact e⟩
theorem Dens.lock {B : Addr → Prop} (ha : H a = some (.dK kvs)) : ∀ {ds : List Dt} {vs : List V}, Dens L B H ds vs → Dens L B (upd H a (.frz od (.dK kvs))) ds vs
  | [], _, q => by unfold Dens at q ⊢; exact q
  | d :: ds, _, q => by
    obtain ⟨v, r, rfl, p, t⟩ := q.uncons
    exact .cons (Den.lock ha p) (Dens.lock ha t)
end
mutual
theorem Den.unlock {B : Addr → Prop} (ha : H a = some (.frz od (.dK kvs))) : ∀ {d : Dt} {v : V}, Den L B H d v → Den L B (upd H a (.dK kvs)) d v
  | .non, _, q => by unfold Den at q ⊢; exact q
  | .bl _, _, q => by unfold Den at q ⊢; exact q
  | .int _, _, q => by unfold Den at q ⊢; exact q
  | .str _, _, q => by unfold Den at q ⊢; exact q
  | .ref _, _, q => by unfold Den at q ⊢; exact q
  | .lst ds, _, q => by
    unfold Den at q ⊢
    obtain ⟨b, vs, r, nb, e, t⟩ := q
    exact ⟨b, vs, r, nb, by rw [upd_ne (fun z => by rw [z, ha] at e; cases e)]; exact e, Dens.unlock ha t⟩
  | .tup ds, _, q => by
    unfold Den at q ⊢
    obtain ⟨b, vs, r, e, t⟩ := q
    exact ⟨b, vs, r, by rw [upd_ne (fun z => by rw [z, ha] at e; cases e)]; exact e, Dens.unlock ha t⟩
  | .dic ks ds, _, q => by
    unfold Den at q ⊢
    obtain ⟨b, vs, r, nb, e, el, t⟩ := q
    refine ⟨b, vs, r, nb, ?_, el, Dens.unlock ha t⟩
    by_cases hb : b = a
    · subst hb
      rcases e with e | ⟨x, e⟩
      · rw [ha] at e
        cases e
      · rw [ha] at e
        cases e
        exact .inl upd_same
    · rcases e with e | ⟨x, e⟩
      · exact .inl (by rw [upd_ne hb]; exact e)
      · exact .inr ⟨x, by rw [upd_ne hb]; exact e⟩
theorem Dens.unlock {B : Addr → Prop} (ha : H a = some (.frz od (.dK kvs))) : ∀ {ds : List Dt} {vs : List V}, Dens L B H ds vs → Dens L B (upd H a (.dK kvs)) ds vs
  | [], _, q => by unfold Dens at q ⊢; exact q
  | d :: ds, _, q => by
    obtain ⟨v, r, rfl, p, t⟩ := q.uncons
    exact .cons (Den.unlock ha p) (Dens.unlock ha t)
end
theorem Wd.lock (w : Wd T Z L st H) (ha : H a = some (.dK kvs)) (nb : ¬ Bad Z L st a) : Wd T Z L st (upd H a (.frz od (.dK kvs))) := by
  refine ⟨tabs_upd w.tabs fun u e => by rw [ha] at e; cases e; exact .inr ⟨_, rfl⟩, w.len, w.inj, fun k b d h1 h2 => ?_, fun b z e => ?_⟩
  · obtain ⟨nz, o, eo, q⟩ := w.own k b d h1 h2
    have hb : b ≠ a := fun z => nb (by rw [← z]; exact .inr ⟨k, d, h1, h2⟩)
    exact ⟨nz, o, by rw [upd_ne hb]; exact eo, q.imp fun ds vs t => t.lock ha⟩
  · by_cases hb : b = a
    · rw [hb, upd_same] at e; cases e
    · rw [upd_ne hb] at e; exact w.zt b z e
theorem Wd.unlock (w : Wd T Z L st H) (ha : H a = some (.frz od (.dK kvs))) (nl : ¬ Liv L st a) : Wd T Z L st (upd H a (.dK kvs)) := by
  refine ⟨fun p hp => ?_, w.len, w.inj, fun k b d h1 h2 => ?_, fun b z e => ?_⟩
  · obtain ⟨ps, h1, h2, h3⟩ := w.tabs p hp
    have n1 : p.1 ≠ a := fun z => by rw [z, ha] at h1; cases h1
    refine ⟨ps, by rw [upd_ne n1]; exact h1, h2, fun pos cv hc => ?_⟩
    obtain ⟨c, e1, e2⟩ := h3 pos cv hc
    have n2 : c ≠ a := fun z => by rw [z, ha] at e2; unfold LamX.CodeO at e2; cases e2
    exact ⟨c, e1, by rw [upd_ne n2]; exact e2⟩
  · obtain ⟨nz, o, eo, q⟩ := w.own k b d h1 h2
    have hb : b ≠ a := fun z => nl (by rw [← z]; exact ⟨k, d, h1, h2⟩)
    exact ⟨nz, o, by rw [upd_ne hb]; exact eo, q.imp fun ds vs t => t.unlock ha⟩
  · by_cases hb : b = a
    · rw [hb, upd_same] at e; cases e
    · rw [upd_ne hb] at e; exact w.zt b z e
theorem EnvOk.lock {r : Evr} {s : L2.St} {B : Addr → Prop} (e : EnvOk L B H r s) (ha : H a = some (.dK kvs)) : EnvOk L B (upd H a (.frz od (.dK kvs))) r s := ⟨e.1, fun i d h => let ⟨v, h1, h2⟩ := e.2 i d h; ⟨v, h1, h2.lock ha⟩⟩
theorem EnvOk.unlock {r : Evr} {s : L2.St} {B : Addr → Prop} (e : EnvOk L B H r s) (ha : H a = some (.frz od (.dK kvs))) : EnvOk L B (upd H a (.dK kvs)) r s := ⟨e.1, fun i d h => let ⟨v, h1, h2⟩ := e.2 i d h; ⟨v, h1, h2.unlock ha⟩⟩
/-- what is locked stays so -/
theorem Afz.frz {Z' : Addr → Prop} (f : Afz T Z L st H Z' L' st' H') (ha : H a = some (.frz od (.dK kvs))) (nl : ¬ Liv L st a) : H' a = some (.frz od (.dK kvs)) := f.kp a _ ha nl (fun ps z => by cases z)
/-- from before the lock to behind it -/
theorem Afz.locked (w : Wd T Z L st H) (ha : H a = some (.dK kvs)) (nb : ¬ Bad Z L st a) (f : Af T Z L st (upd H a (.frz od (.dK kvs))) L' st' H') : H' a = some (.frz od (.dK kvs)) ∧ Af T Z L st H L' st' (upd H' a (.dK kvs)) := by
  have nl : ¬ Liv L st a := fun z => nb (.inr z)
  have fa := f.frz upd_same nl
  have nl' : ¬ Liv L' st' a := fun z => by
    rcases f.nw a z with z | z
    · exact nl z
    · rw [upd_same] at z; cases z
  refine ⟨fa, f.wd.unlock fa nl', f.pre, fun b o e n nt => ?_, fun b z => ?_, fun b n z => ?_, fun b xs e => ?_, fun k b hk e => ?_, fun b z => .inl z⟩
  · by_cases hb : b = a
    · rw [hb] at e ⊢; rw [upd_same]; rw [ha] at e; exact e
    · rw [upd_ne hb]; exact f.kp b o (by rw [upd_ne hb]; exact e) n nt
  · rcases f.nw b z with z | z
    · exact .inl z
    · right
      by_cases hb : b = a
      · rw [hb, upd_same] at z; cases z
      · rw [upd_ne hb] at z; exact z
  · by_cases hb : b = a
    · rw [hb, upd_same] at z; cases z
    · rw [upd_ne hb] at z; exact f.trk b (by rw [upd_ne hb]; exact n) z
  · have hb : b ≠ a := fun z => by rw [z, ha] at e; cases e
    rw [upd_ne hb]; exact f.tp b xs (by rw [upd_ne hb]; exact e)
  · have := f.fr k b hk e
    by_cases hb : b = a
    · rw [hb, upd_same] at this; cases this
    · rw [upd_ne hb] at this; exact this
end
end HB

set_option Elab.async false
set_option linter.all false
set_option maxRecDepth 100000
set_option maxHeartbeats 1000000
/-! HC, part c: dicts that are walked (locked meanwhile). -/
namespace HB
open PySem PySem.Spec PyProof.Rows L2

section
variable {X : Cx}
def tOrL (t : TS) : TS := fun D s H => t D s H ∨ tLock t D s H
def tOrLE (t : TE) : TE := fun s H Q => t s H Q ∨ tLockE t s H Q
theorem ps_orL {st : Stmt} {t : TS} (h : PS X st t) : PS X st (tOrL t) := ⟨fun pins s σ H D I q => q.elim (fun q => h.run pins s σ H D I q) fun q => (ps_lock h).run pins s σ H D I q⟩
theorem pe_orL {e : Expr} {t : TE} (h : PE X e t) : PE X e (tOrLE t) := ⟨fun pins s σ H Q I q => q.elim (fun q => h.run pins s σ H Q I q) fun q => (pe_lock h).run pins s σ H Q I q⟩
end
/-- the dict in slot i is locked -/
def FrzAt (i : Nat) (H : Hp) (s : L2.St) : Prop := ∃ a od kvs, s[i]? = some (some (.ref a)) ∧ H a = some (.frz od (.dK kvs))
def SimSf (T : List (Addr × Str)) (i : Nat) (t : TS) (g : SS) : Prop := ∀ Z L st H s r o D, Wd T Z L st H → EnvOk L (Bad Z L st) H r s → FrzAt i H s → g r st = some o → OuOk T Z L st H D o → t D s H
def SimEf (T : List (Addr × Str)) (i : Nat) (t : TE) (f : SE) : Prop := ∀ Z L st H s r d st' (Q : VK), Wd T Z L st H → EnvOk L (Bad Z L st) H r s → FrzAt i H s → f r st = some (d, st') → (∀ v H' L', Af T Z L st H L' st' H' → Den L' (Bad Z L' st') H' d v → Q v H') → t s H Q
section
variable {T : List (Addr × Str)}
theorem sim_orL {i : Nat} {t : TS} {g : SS} (k : SimSf T i t g) (hd : ∀ r st o, g r st = some o → ∃ ks ds, r[i]? = some (some (.dic ks ds))) : SimS T (tOrL t) g := by
  intro Z L st H s r o D w e h q
  obtain ⟨ks, ds, hr⟩ := hd r st o h
  obtain ⟨v, hs, hv⟩ := e.2 i _ hr
  unfold Den at hv
  obtain ⟨a, vs, rfl, nb, ha, hl, t1⟩ := hv
  rcases ha with ha | ⟨od, ha⟩
  · refine .inr ⟨a, _, ha, trivial, fun od => ?_⟩
    refine k Z L st _ s r o _ (w.lock ha nb) (e.lock ha) ⟨a, od, _, hs, upd_same⟩ h ?_
    cases o with
    | nx r' st' => exact fun s' H' L' f e' => ⟨(Afz.locked w ha nb f).1, q s' _ L' (Afz.locked w ha nb f).2 (e'.unlock (Afz.locked w ha nb f).1)⟩
    | bk r' st' => exact fun s' H' L' f e' => ⟨(Afz.locked w ha nb f).1, q s' _ L' (Afz.locked w ha nb f).2 (e'.unlock (Afz.locked w ha nb f).1)⟩
    | ct r' st' => exact fun s' H' L' f e' => ⟨(Afz.locked w ha nb f).1, q s' _ L' (Afz.locked w ha nb f).2 (e'.unlock (Afz.locked w ha nb f).1)⟩
    | rt d st' => exact fun s' H' L' f e' => ⟨(Afz.locked w ha nb f).1, q s' _ L' (Afz.locked w ha nb f).2 (e'.unlock (Afz.locked w ha nb f).1)⟩
  · exact .inl (k Z L st H s r o D w e ⟨a, od, _, hs, ha⟩ h q)
theorem sim_orLE {i : Nat} {t : TE} {f : SE} (k : SimEf T i t f) (hd : ∀ r st o, f r st = some o → ∃ ks ds, r[i]? = some (some (.dic ks ds))) : SimE T (tOrLE t) f := by
  intro Z L st H s r d st' Q w e h q
  obtain ⟨ks, ds, hr⟩ := hd r st _ h
  obtain ⟨v, hs, hv⟩ := e.2 i _ hr
  unfold Den at hv
  obtain ⟨a, vs, rfl, nb, ha, hl, t1⟩ := hv
  rcases ha with ha | ⟨od, ha⟩
  · refine .inr ⟨a, _, ha, trivial, fun od => ?_⟩
    exact k Z L st _ s r d st' _ (w.lock ha nb) (e.lock ha) ⟨a, od, _, hs, upd_same⟩ h fun v' H' L' f e' => ⟨(Afz.locked w ha nb f).1, q v' _ L' (Afz.locked w ha nb f).2 (e'.unlock (Afz.locked w ha nb f).1)⟩
  · exact .inl (k Z L st H s r d st' Q w e ⟨a, od, _, hs, ha⟩ h q)

/-! ### the walks -/
def itK (_ : Sto) : Dt → Option (List Dt)
  | .dic ks _ => some (ks.map keyDt)
  | _ => none
def itV (_ : Sto) : Dt → Option (List Dt)
  | .dic _ ds => some ds
  | _ => none
def itI (_ : Sto) : Dt → Option (List Dt)
  | .dic ks ds => some ((ks.zip ds).map fun p => .tup [keyDt p.1, p.2])
  | _ => none
def Dwk (T : List (Addr × Str)) (wi : TE → TI) (it : Sto → Dt → Option (List Dt)) : Prop := ∀ (i : Nat) Z L st H s r, Wd T Z L st H → EnvOk L (Bad Z L st) H r s → FrzAt i H s → IAt T Z L st H s r (wi (tVar i)) (iE it (eVar i))
theorem den_keyDt {L : List Addr} {B : Addr → Prop} {H : Hp} {k : Key} : Den L B H (keyDt k) (kV k) := by
  cases k <;> (unfold keyDt Den; rfl)
theorem zip_getK {ks : List Key} {vs : List V} {i : Nat} {k : Key} {v : V} (h : (ks.zip vs)[i]? = some (k, v)) : ks[i]? = some k ∧ vs[i]? = some v := by
  rw [List.getElem?_zip_eq_some] at h; exact h
theorem dwk_K : Dwk T iKeys itK := by
  intro i Z L st H s r w e ⟨a, od, kvs, hs, ha⟩ xs st' Q h q
  obtain ⟨⟨dx, st1⟩, h1, h2⟩ := bind_some' h
  obtain ⟨ys, h3, h4⟩ := Option.map_eq_some_iff.mp h2
  cases h4
  unfold eVar at h1
  split at h1
  case h_2 => cases h1
  rename_i d' hd
  cases h1
  obtain ⟨v, h5, h6⟩ := e.2 i _ hd
  rw [hs] at h5
  cases h5
  refine ⟨_, hs, ?_⟩
  cases dx with
  | dic ks ds =>
    cases h3
    unfold Den at h6
    obtain ⟨b, vs, e1, nb, e2, el, t⟩ := h6
    cases e1
    have ek : kvs = ks.zip vs := by
      rcases e2 with e2 | ⟨_, e2⟩ <;> (rw [ha] at e2; cases e2)
      rfl
    subst ek
    refine ⟨a, od, rfl, .inl ⟨_, ha, q _ H L (.refl w) fun Z2 L2 st2 H2 f2 => ?_⟩⟩
    have fa := f2.frz ha (fun z => nb (.inr z))
    refine ⟨⟨fa, ?_⟩, fun j d hj => ⟨⟨fa, ?_⟩, fun x H3 hy => ?_⟩⟩
    · simp [List.length_zip]; omega
    · have := (List.getElem?_eq_some_iff.mp hj).1
      simp [List.length_zip] at this ⊢; omega
    · obtain ⟨rfl, k, v, hk, rfl⟩ := hy
      rw [List.getElem?_map, (zip_getK hk).1] at hj
      cases hj
      exact ⟨.refl f2.wd, den_keyDt⟩
  | _ => cases h3
theorem dwk_V : Dwk T iVals itV := by
  intro i Z L st H s r w e ⟨a, od, kvs, hs, ha⟩ xs st' Q h q
  obtain ⟨⟨dx, st1⟩, h1, h2⟩ := bind_some' h
  obtain ⟨ys, h3, h4⟩ := Option.map_eq_some_iff.mp h2
  cases h4
  unfold eVar at h1
  split at h1
  case h_2 => cases h1
  rename_i d' hd
  cases h1
  obtain ⟨v, h5, h6⟩ := e.2 i _ hd
  rw [hs] at h5
  cases h5
  refine ⟨_, hs, ?_⟩
  cases dx with
  | dic ks ds =>
    cases h3
    unfold Den at h6
    obtain ⟨b, vs, e1, nb, e2, el, t⟩ := h6
    cases e1
    have ek : kvs = ks.zip vs := by
      rcases e2 with e2 | ⟨_, e2⟩ <;> (rw [ha] at e2; cases e2)
      rfl
    subst ek
    refine ⟨a, od, _, rfl, ha, q _ H L (.refl w) fun Z2 L2 st2 H2 f2 => ?_⟩
    have fa := f2.frz ha (fun z => nb (.inr z))
    have hln := t.len
    refine ⟨⟨fa, ?_⟩, fun j d hj => ⟨⟨fa, ?_⟩, fun x H3 hy => ?_⟩⟩
    · simp [List.length_zip]; omega
    · have := (List.getElem?_eq_some_iff.mp hj).1
      simp [List.length_zip] at this ⊢; omega
    · obtain ⟨rfl, k, hk⟩ := hy
      obtain ⟨v, h7, h8⟩ := (t.keep f2).get hj
      rw [(zip_getK hk).2] at h7
      cases h7
      exact ⟨.refl f2.wd, h8⟩
  | _ => cases h3
theorem dwk_I : Dwk T iItems itI := by
  intro i Z L st H s r w e ⟨a, od, kvs, hs, ha⟩ xs st' Q h q
  obtain ⟨⟨dx, st1⟩, h1, h2⟩ := bind_some' h
  obtain ⟨ys, h3, h4⟩ := Option.map_eq_some_iff.mp h2
  cases h4
  unfold eVar at h1
  split at h1
  case h_2 => cases h1
  rename_i d' hd
  cases h1
  obtain ⟨v, h5, h6⟩ := e.2 i _ hd
  rw [hs] at h5
  cases h5
  refine ⟨_, hs, ?_⟩
  cases dx with
  | dic ks ds =>
    cases h3
    unfold Den at h6
    obtain ⟨b, vs, e1, nb, e2, el, t⟩ := h6
    cases e1
    have ek : kvs = ks.zip vs := by
      rcases e2 with e2 | ⟨_, e2⟩ <;> (rw [ha] at e2; cases e2)
      rfl
    subst ek
    refine ⟨a, od, _, rfl, ha, q _ H L (.refl w) fun Z2 L2 st2 H2 f2 => ?_⟩
    have fa := f2.frz ha (fun z => nb (.inr z))
    have hln := t.len
    refine ⟨⟨fa, ?_⟩, fun j d hj => ⟨⟨fa, ?_⟩, fun x H3 hy => ?_⟩⟩
    · simp [List.length_zip]; omega
    · have := (List.getElem?_eq_some_iff.mp hj).1
      simp [List.length_zip] at this ⊢; omega
    · obtain ⟨T', k, v, hk, rfl, nT, rfl⟩ := hy
      obtain ⟨hk1, hk2⟩ := zip_getK hk
      rw [List.getElem?_map] at hj
      obtain ⟨⟨k', d'⟩, h9, h10⟩ := Option.map_eq_some_iff.mp hj
      rw [List.getElem?_zip_eq_some] at h9
      obtain ⟨h9, h11⟩ := h9
      rw [hk1] at h9
      cases h9
      subst h10
      obtain ⟨v', h7, h8⟩ := (t.keep f2).get h11
      rw [hk2] at h7
      cases h7
      exact ⟨.new f2.wd nT, .newT f2.wd nT (.cons den_keyDt (.cons h8 .nil))⟩
  | _ => cases h3
theorem iE_dic {i : Nat} {it : Sto → Dt → Option (List Dt)} (hit : ∀ st d xs, it st d = some xs → ∃ ks ds, d = .dic ks ds) {r : Evr} {st : Sto} {o : List Dt × Sto} (h : iE it (eVar i) r st = some o) : ∃ ks ds, r[i]? = some (some (.dic ks ds)) := by
  obtain ⟨⟨dx, st1⟩, h1, h2⟩ := bind_some' h
  obtain ⟨ys, h3, h4⟩ := Option.map_eq_some_iff.mp h2
  obtain ⟨ks, ds, rfl⟩ := hit _ _ _ h3
  unfold eVar at h1
  split at h1
  · rename_i d' hd
    cases h1
    exact ⟨ks, ds, hd⟩
  · cases h1
theorem itK_dic : ∀ st d xs, itK st d = some xs → ∃ ks ds, d = .dic ks ds := by
  intro st d xs h; cases d <;> first | exact ⟨_, _, rfl⟩ | cases h
theorem itV_dic : ∀ st d xs, itV st d = some xs → ∃ ks ds, d = .dic ks ds := by
  intro st d xs h; cases d <;> first | exact ⟨_, _, rfl⟩ | cases h
theorem itI_dic : ∀ st d xs, itI st d = some xs → ∃ ks ds, d = .dic ks ds := by
  intro st d xs h; cases d <;> first | exact ⟨_, _, rfl⟩ | cases h
end
end HB

set_option Elab.async false
set_option linter.all false
set_option maxRecDepth 100000
set_option maxHeartbeats 1000000
/-! HC, part d: for, comprehensions over dicts. -/
namespace HB
open PySem PySem.Spec PyProof.Rows L2
section
variable {T : List (Addr × Str)}
theorem dc_runA {is own : List Nat} {wi : TI} {fi : SA} {g : TG} {k : SG} {tt : TT} {c : ST} {tk tv : TE} {fk fv : SE} (hg : SimG T is g k) (hc : SimT T tt c) (hk : SimE T tk fk) (hv : SimE T tv fv) (hs : ∀ i ∈ is, i ∈ own)
    {Z : Addr → Prop} {L : List Addr} {st : Sto} {H : Hp} {s : L2.St} {r : Evr} (hi : IAt T Z L st H s r wi fi) {ks : List Key} {zs : List Dt} {st' : Sto} {Q : VK} (w : Wd T Z L st H) (e : EnvOk L (Bad Z L st) H r s) (h : dc fi own k c fk fv r st = some ((ks, zs), st'))
    (q : ∀ D vs H' L', Afz T Z L st H (zAnd Z D) L' st' H' → H D = none → H' D = some (.dK (ks.zip vs)) → ks.length = vs.length → Dens L' (Bad (zAnd Z D) L' st') H' zs vs → Q (.ref D) H') : tDc wi g tt tk tv own s H Q := by
  obtain ⟨⟨xs, st1⟩, a1, a2⟩ := bind_some' h
  refine hi xs st1 _ a1 fun J H1 L1 f1 wk D nD => ?_
  have nD0 : H D = none := by
    cases qq : H D with
    | none => rfl
    | some o => exact absurd nD (f1.trk D (by rw [qq]; simp))
  have m1 : Afz T Z L1 st1 H1 (zAnd Z D) L1 st1 (upd H1 D (.dK [])) := Afz.mine f1.wd nD
  refine ⟨fun i m H2 => m = xs.length - i ∧ i ≤ xs.length ∧ ∃ L2 st2 kc acc vs, Afz T Z L1 st1 H1 (zAnd Z D) L2 st2 H2 ∧ H2 D = some (.dK (kc.zip vs)) ∧ kc.length = vs.length ∧ Dens L2 (Bad (zAnd Z D) L2 st2) H2 acc vs ∧ dcGo k c fk fv (wipeD r own) (xs.drop i) st2 kc acc = some ((ks, zs), st'),
    ⟨xs.length, by simp, Nat.zero_le _, L1, st1, [], [], [], m1, upd_same, rfl, .nil, a2⟩, ?_⟩
  rintro i m H2 ⟨rfl, hle, L2, st2, kc, acc, vs, f2, hD, hl, hacc, h2⟩
  obtain ⟨ws, wg⟩ := wk (zAnd Z D) L2 st2 H2 f2
  by_cases hlt : i < xs.length
  · right
    obtain ⟨go, yl⟩ := wg i xs[i] (List.getElem?_eq_getElem hlt)
    rw [List.drop_eq_getElem_cons hlt] at h2
    obtain ⟨r3, b1, b2⟩ := bind_some' h2
    obtain ⟨⟨b, st3⟩, b3, b4⟩ := bind_some' b2
    refine ⟨go, fun H5 => ∃ L5 st5 kc5 acc5 vs5, Afz T Z L1 st1 H1 (zAnd Z D) L5 st5 H5 ∧ H5 D = some (.dK (kc5.zip vs5)) ∧ kc5.length = vs5.length ∧ Dens L5 (Bad (zAnd Z D) L5 st5) H5 acc5 vs5 ∧ dcGo k c fk fv (wipeD r own) (xs.drop (i + 1)) st5 kc5 acc5 = some ((ks, zs), st'),
      fun H5 x => ⟨xs.length - (i + 1), by omega, rfl, hlt, x⟩, fun x H3 y => ?_⟩
    obtain ⟨f3, p3⟩ := yl x H3 y
    have e3 := (((e.keep f1).keep f2).keep f3).wipe own
    refine hg (zAnd Z D) L2 st2 H3 _ _ x _ r3 _ f3.wd e3 p3 b1 fun s4 e4 wp => ⟨?_, ?_⟩
    · rw [wp own hs, wipe_wipe]
    refine hc (zAnd Z D) L2 st2 H3 s4 r3 b st3 _ f3.wd e4 b3 fun H4 L4 f4 => ?_
    have keepD : ∀ {L' : List Addr} {st'' : Sto} {H' : Hp}, Afz T (zAnd Z D) L2 st2 H2 (zAnd Z D) L' st'' H' → H' D = some (.dK (kc.zip vs)) := fun ff => ff.kp D _ hD (fun z => by
      obtain ⟨j, d, j1, j2⟩ := z
      exact (f2.wd.own j D d j1 j2).1 (.inr rfl)) (fun ps z => by cases z)
    cases b with
    | false =>
      rw [if_neg (by simp)] at b4
      exact iteF ⟨L4, st3, kc, acc, vs, f2.trans (f3.trans f4), keepD (f3.trans f4), hl, (hacc.keep f3).keep f4, b4⟩
    | true =>
      rw [if_pos rfl] at b4
      obtain ⟨⟨dy, st5⟩, c1, c2⟩ := bind_some' b4
      obtain ⟨⟨dz, st6⟩, c3, c4⟩ := bind_some' c2
      obtain ⟨kk, c5, c6⟩ := bind_some' c4
      split at c6
      case isFalse => cases c6
      case isTrue hz =>
      refine iteT (hk (zAnd Z D) L4 st3 H4 s4 r3 dy st5 _ f4.wd (e4.keep f4) c1 fun y H5 L5 f5 p5 => ?_)
      refine hv (zAnd Z D) L5 st5 H5 s4 r3 dz st6 _ f5.wd ((e4.keep f4).keep f5) c3 fun z H6 L6 f6 p6 => ?_
      have fall := f3.trans (f4.trans (f5.trans f6))
      have hacc6 := (((hacc.keep f3).keep f4).keep f5).keep f6
      have zD : zAnd Z D D := .inr rfl
      have hD6 := keepD fall
      have tD6 : ∀ zs, H6 D ≠ some (.tup zs) := fun zs z => by rw [hD6] at z; cases z
      have wd7 : Wd T (zAnd Z D) L6 st6 (upd H6 D (.dK (putK (kc.zip vs) kk z))) := f6.wd.chg zD fun u eu => by rw [hD6] at eu; cases eu; exact .inr ⟨_, rfl⟩
      have fa := f2.trans fall
      have ek : y = kV kk := keyD_ok p5 c5
      refine ⟨kc.zip vs, kk, ek, hD6, by rw [List.length_zip]; omega, L6, st6, (pPut kk dz kc acc).1, (pPut kk dz kc acc).2, (pPut kk z kc vs).2, ⟨wd7, fa.pre, fun b u eb nl nt => ?_, fa.nw, fun b n z => ?_, fun b us eb => ?_, fa.fr, fa.zs⟩, ?_, ?_, (Dens.pPut p6 kk hacc6).chg (.inl zD) tD6, c6⟩
      · rw [upd_ne (ne_of_none eb nD)]; exact fa.kp b u eb nl nt
      · by_cases hb : b = D
        · rw [hb, upd_same] at z; cases z
        · rw [upd_ne hb] at z; exact fa.trk b n z
      · rw [upd_ne (ne_of_none eb nD)]; exact fa.tp b us eb
      · rw [upd_same, pPut_zip kk z hl, pPut_keys kk z dz kc vs acc]
      · rw [pPut_keys kk dz z kc acc vs]; exact pPut_len kk z hl
  · left
    have hx : i = xs.length := by omega
    subst hx
    rw [List.drop_length] at h2
    cases h2
    exact ⟨ws, q D vs H2 L2 (f1.trans f2) nD0 hD hl hacc⟩

theorem simf_for {i : Nat} {is : List Nat} {wi : TE → TI} {it : Sto → Dt → Option (List Dt)} {g : TG} {k : SG} {tb : TS} {gb : SS} (hd : Dwk T wi it) (hg : SimG T is g k) (hb : SimS T tb gb) : SimSf T i (tFor (wi (tVar i)) g tb) (sFor (iE it (eVar i)) k gb) :=
  fun Z L st H s r o D w e fz h q => for_run (hd i Z L st H s r w e fz) hg hb w e h q
theorem simf_lcV {i : Nat} {is own : List Nat} {wi : TE → TI} {it : Sto → Dt → Option (List Dt)} {g : TG} {k : SG} {tt : TT} {c : ST} {te : TE} {f : SE} (hd : Dwk T wi it) (hg : SimG T is g k) (hc : SimT T tt c) (hf : SimE T te f) (hs : ∀ i ∈ is, i ∈ own) : SimEf T i (tLc (wi (tVar i)) g tt te own) (toV (lc (iE it (eVar i)) own k c f)) :=
  fun Z L st H s r d st' Q w e fz h q => at_lcV (hd i Z L st H s r w e fz) hg hc hf hs w e d st' Q h q
theorem simf_dcV {i : Nat} {is own : List Nat} {wi : TE → TI} {it : Sto → Dt → Option (List Dt)} {g : TG} {k : SG} {tt : TT} {c : ST} {tk tv : TE} {fk fv : SE} (hd : Dwk T wi it) (hg : SimG T is g k) (hc : SimT T tt c) (hk : SimE T tk fk) (hv : SimE T tv fv) (hs : ∀ i ∈ is, i ∈ own) : SimEf T i (tDc (wi (tVar i)) g tt tk tv own) (dToV (dc (iE it (eVar i)) own k c fk fv)) := by
  intro Z L st H s r d st' Q w e fz h q
  obtain ⟨⟨⟨ks, zs⟩, st1⟩, a1, h⟩ := bind_some' h
  cases h
  refine dc_runA hg hc hk hv hs (hd i Z L st H s r w e fz) w e a1 fun D vs H' L' ff nD hD hl hv => ?_
  refine q _ H' L' ff.back ?_
  unfold Den
  refine ⟨D, vs, rfl, fun z => ?_, .inl hD, hl, hv.mono bad_zAnd⟩
  rcases z with z | ⟨j, d, j1, j2⟩
  · exact w.zt D z nD
  · exact (ff.wd.own j D d j1 j2).1 (.inr rfl)
theorem simf_dcR {i : Nat} {is own : List Nat} {wi : TE → TI} {it : Sto → Dt → Option (List Dt)} {g : TG} {k : SG} {tt : TT} {c : ST} {tk tv : TE} {fk fv : SE} (hd : Dwk T wi it) (hg : SimG T is g k) (hc : SimT T tt c) (hk : SimE T tk fk) (hv : SimE T tv fv) (hs : ∀ i ∈ is, i ∈ own) : SimEf T i (tDc (wi (tVar i)) g tt tk tv own) (dToR (dc (iE it (eVar i)) own k c fk fv)) := by
  intro Z L st H s r d st' Q w e fz h q
  obtain ⟨⟨⟨ks, zs⟩, st1⟩, a1, h⟩ := bind_some' h
  cases h
  refine dc_runA hg hc hk hv hs (hd i Z L st H s r w e fz) w e a1 fun D vs H' L' ff nD hD hl hv => ?_
  refine q _ H' (L' ++ [D]) (ff.claim w nD hD ⟨vs, rfl, hl, hv⟩) ?_
  unfold Den
  exact ⟨D, by rw [← ff.wd.len]; simp, rfl⟩
theorem bind_of {α β : Type} {x : Option α} {f : α → Option β} {o : β} (h : x.bind f = some o) : ∃ a, x = some a := by
  cases x with
  | none => cases h
  | some a => exact ⟨a, rfl⟩
theorem hd_for {i : Nat} {it : Sto → Dt → Option (List Dt)} (hit : ∀ st d xs, it st d = some xs → ∃ ks ds, d = .dic ks ds) {k : SG} {gb : SS} : ∀ r st o, sFor (iE it (eVar i)) k gb r st = some o → ∃ ks ds, r[i]? = some (some (.dic ks ds)) := fun r st o h => by
  obtain ⟨a, ha⟩ := bind_of h
  exact iE_dic hit ha
theorem hd_lc {i : Nat} {it : Sto → Dt → Option (List Dt)} (hit : ∀ st d xs, it st d = some xs → ∃ ks ds, d = .dic ks ds) {own : List Nat} {k : SG} {c : ST} {f : SE} : ∀ r st o, toV (lc (iE it (eVar i)) own k c f) r st = some o → ∃ ks ds, r[i]? = some (some (.dic ks ds)) := fun r st o h => by
  obtain ⟨a, ha⟩ := bind_of h
  obtain ⟨b, hb⟩ := bind_of ha
  exact iE_dic hit hb
theorem hd_dc {i : Nat} {it : Sto → Dt → Option (List Dt)} (hit : ∀ st d xs, it st d = some xs → ∃ ks ds, d = .dic ks ds) {own : List Nat} {k : SG} {c : ST} {fk fv : SE} : ∀ r st o, dToV (dc (iE it (eVar i)) own k c fk fv) r st = some o → ∃ ks ds, r[i]? = some (some (.dic ks ds)) := fun r st o h => by
  obtain ⟨a, ha⟩ := bind_of h
  obtain ⟨b, hb⟩ := bind_of ha
  exact iE_dic hit hb
theorem hd_dcR {i : Nat} {it : Sto → Dt → Option (List Dt)} (hit : ∀ st d xs, it st d = some xs → ∃ ks ds, d = .dic ks ds) {own : List Nat} {k : SG} {c : ST} {fk fv : SE} : ∀ r st o, dToR (dc (iE it (eVar i)) own k c fk fv) r st = some o → ∃ ks ds, r[i]? = some (some (.dic ks ds)) := fun r st o h => by
  obtain ⟨a, ha⟩ := bind_of h
  obtain ⟨b, hb⟩ := bind_of ha
  exact iE_dic hit hb
end
/-! ### the rules -/
structure DWk (T : List (Addr × Str)) (X : Cx) (tg iter : Expr) (i : Nat) (it : Sto → Dt → Option (List Dt)) : Prop where
  pf : ∃ wi : TE → TI, PI X tg iter (wi (tVar i)) ∧ Dwk T wi it
  hit : ∀ st d xs, it st d = some xs → ∃ ks ds, d = .dic ks ds
section
variable {T : List (Addr × Str)} {X : Cx} {tg : Expr} {pos : Pos}
theorem jdK (i : Nat) {x : Str} (hN : X.N[i]? = some x := by rfl) (hv : Vis X.env.scope x := by first | exact Or.inl rfl | exact Or.inr (Or.inl rfl) | exact Or.inr (Or.inr rfl)) (hd : (x == ("__debug__" : Str)) = false := by decide)
    (hcd : (x == ("__classdict__" : Str)) = false := by decide) : DWk T X tg (.Name x pos) i itK := ⟨⟨iKeys, pi_keys (pe_var hN hv hd hcd), dwk_K⟩, itK_dic⟩
theorem jdI (i : Nat) {x : Str} {elts : List Expr} {kk : Nat} {tpos apos pn : Pos} (hN : X.N[i]? = some x := by rfl) (hv : Vis X.env.scope x := by first | exact Or.inl rfl | exact Or.inr (Or.inl rfl) | exact Or.inr (Or.inr rfl)) (hd : (x == ("__debug__" : Str)) = false := by decide)
    (hcd : (x == ("__classdict__" : Str)) = false := by decide) (hbase : attributeBase (.Name x pn) "items" X.env (eval (.Name x pn) X.env) = eval (.Name x pn) X.env := by rfl) (hline : (apos.endLine == pos.line) = true := by rfl) : DWk T X (.Tuple elts kk tpos) (.Call (.Attribute (.Name x pn) "items" apos) [] [] pos) i itI := ⟨⟨iItems, pi_items (pe_var hN hv hd hcd) hbase hline, dwk_I⟩, itI_dic⟩
theorem jdV (i : Nat) {x : Str} {apos pn : Pos} (hN : X.N[i]? = some x := by rfl) (hv : Vis X.env.scope x := by first | exact Or.inl rfl | exact Or.inr (Or.inl rfl) | exact Or.inr (Or.inr rfl)) (hd : (x == ("__debug__" : Str)) = false := by decide)
    (hcd : (x == ("__classdict__" : Str)) = false := by decide) (hbase : attributeBase (.Name x pn) "values" X.env (eval (.Name x pn) X.env) = eval (.Name x pn) X.env := by rfl) (hline : (apos.endLine == pos.line) = true := by rfl) : DWk T X tg (.Call (.Attribute (.Name x pn) "values" apos) [] [] pos) i itV := ⟨⟨iVals, pi_values (pe_var hN hv hd hcd) hbase hline, dwk_V⟩, itV_dic⟩
variable {i : Nat} {it : Sto → Dt → Option (List Dt)} {iter : Expr}
theorem jsForD {body : List Stmt} {tgt : TG} {kt : SG} {is : List Nat} {g : SS} (hp : PassesOwn (model X.prog X.w) X.A X.env X.xe) (hc : X.calm = true) (hk : SimG T is tgt kt) (hi : DWk T X tg iter i it) (hg : PG X tg tgt) (hb : PSs X body (rS T g)) (hs : ∀ x, foldedSetIterable iter X.env x = pure x := by intro _; rfl) :
    PS X (.For tg iter body [] pos) (rS T (sFor (iE it (eVar i)) kt g)) := by
  obtain ⟨⟨wi, p, q⟩, hit⟩ := hi
  exact toS (ps_orL (ps_for hp hc p hg hb hs)) (sim_orL (simf_for q hk sS) (hd_for hit))
theorem jLcD {elt : Expr} {ifs : List Expr} {scope : Scope} {own : List (Str × Nat)} {g : TG} {k : SG} {is : List Nat} {ga : ST} {fa : SE} (hc : X.calm = true) (hN : X.N.Nodup) (hk : SimG T is g k) (hi : DWk T X tg iter i it) (ok : BlkOk X.N X.env.scope scope own)
    (hg : ∀ s H C cl fp, PG (blkX X scope s H C cl fp) tg g) (ht : ∀ s H C cl fp, PTs (blkX X scope s H C cl fp) ifs (rT T ga)) (he : ∀ s H C cl fp, PE (blkX X scope s H C cl fp) elt (rE T fa)) (hz : ∀ i ∈ is, i ∈ own.map (·.2)) (hs : ∀ x, foldedSetIterable iter X.env x = pure x := by intro _; rfl) :
    PE X (.ListComp elt [⟨tg, iter, ifs, 0⟩] scope pos) (rE T (toV (lc (iE it (eVar i)) (own.map (·.2)) k ga fa))) := by
  obtain ⟨⟨wi, p, q⟩, hit⟩ := hi
  exact toE (pe_orL (pe_lc hc hN p ok hg ht he hs)) (sim_orLE (simf_lcV q hk sT sE hz) (hd_lc hit))
theorem jDcD {kx vx : Expr} {ifs : List Expr} {scope : Scope} {own : List (Str × Nat)} {g : TG} {k : SG} {is : List Nat} {ga : ST} {fa fb : SE} (hc : X.calm = true) (hN : X.N.Nodup) (hk : SimG T is g k) (hi : DWk T X tg iter i it) (ok : BlkOk X.N X.env.scope scope own)
    (hg : ∀ s H C cl fp, PG (blkX X scope s H C cl fp) tg g) (ht : ∀ s H C cl fp, PTs (blkX X scope s H C cl fp) ifs (rT T ga)) (hkx : ∀ s H C cl fp, PE (blkX X scope s H C cl fp) kx (rE T fa)) (hvx : ∀ s H C cl fp, PE (blkX X scope s H C cl fp) vx (rE T fb)) (hz : ∀ i ∈ is, i ∈ own.map (·.2)) (hs : ∀ x, foldedSetIterable iter X.env x = pure x := by intro _; rfl) :
    PE X (.DictComp kx vx [⟨tg, iter, ifs, 0⟩] scope pos) (rE T (dToV (dc (iE it (eVar i)) (own.map (·.2)) k ga fa fb))) := by
  obtain ⟨⟨wi, p, q⟩, hit⟩ := hi
  exact toE (pe_orL (pe_dc hc hN p ok hg ht hkx hvx hs)) (sim_orLE (simf_dcV q hk sT sE sE hz) (hd_dc hit))
theorem jDcDR {kx vx : Expr} {ifs : List Expr} {scope : Scope} {own : List (Str × Nat)} {g : TG} {k : SG} {is : List Nat} {ga : ST} {fa fb : SE} (hc : X.calm = true) (hN : X.N.Nodup) (hk : SimG T is g k) (hi : DWk T X tg iter i it) (ok : BlkOk X.N X.env.scope scope own)
    (hg : ∀ s H C cl fp, PG (blkX X scope s H C cl fp) tg g) (ht : ∀ s H C cl fp, PTs (blkX X scope s H C cl fp) ifs (rT T ga)) (hkx : ∀ s H C cl fp, PE (blkX X scope s H C cl fp) kx (rE T fa)) (hvx : ∀ s H C cl fp, PE (blkX X scope s H C cl fp) vx (rE T fb)) (hz : ∀ i ∈ is, i ∈ own.map (·.2)) (hs : ∀ x, foldedSetIterable iter X.env x = pure x := by intro _; rfl) :
    PE X (.DictComp kx vx [⟨tg, iter, ifs, 0⟩] scope pos) (rE T (dToR (dc (iE it (eVar i)) (own.map (·.2)) k ga fa fb))) := by
  obtain ⟨⟨wi, p, q⟩, hit⟩ := hi
  exact toE (pe_orL (pe_dc hc hN p ok hg ht hkx hvx hs)) (sim_orLE (simf_dcR q hk sT sE sE hz) (hd_dcR hit))
end
end HB

set_option Elab.async false
set_option linter.all false
set_option maxRecDepth 100000
set_option maxHeartbeats 1000000
/-! HC, part e: {**d, k: v}. -/
namespace HB
open PySem PySem.Spec PyProof.Rows L2
section
variable {prog : Program} {w : World} {A : Around} {E : Value → Shared → Prop} {s : Shared}
theorem wp_dictPut {K : Type} [DecidableEq K] {knd : PySem.KeyKind prog w K} {d : Addr} {kvs : List (K × Value)} {k : K} {key v : Value} {Q : Unit → Shared → Prop} (hkey : knd.is k key = true) (hm : s.heap.DictOf knd d kvs)
    (hQ : ∀ h', h'.DictOf knd d (stored kvs k v) → Heap.SameBut d s.heap h' → Q () { s with heap := h' })
    (hsz : kvs.length ≤ sizeLine) :
    wpAny (model prog w) A (dictPut d (knd.hash k) key v) Q E s := by
  obtain ⟨o, es, ep, ho, hc, hd, hk, hp, hn⟩ := hm
  have hes : es.size ≤ sizeLine := by have e1 := hp.length; have e2 : es.toList.length = es.size := by simp
                                      omega
  unfold dictPut
  refine wpAny_bind (wpAny_dictFind_of hkey ho hd hk ?_)
  have hidx : (es.findIdx? fun e => knd.is k e.key) = kvs.findIdx? fun kv => decide (kv.1 = k) := by
    rw [← hp.findIdx k]; obtain ⟨l⟩ := es; simp
  cases hi : es.findIdx? fun e => knd.is k e.key with
  | some i =>
    refine wpAny_updateDict ho hd (hQ _ ⟨_, _, ep, Heap.get?_update_self _ ho (Obj.isFreed_of_dict (Obj.data_mapDict hd _)),
      hc.mapDict _, Obj.data_mapDict hd _, hk.modify _ _, ?_, ?_⟩ (Heap.SameBut.update ..))
    · rw [stored, if_pos (any_of_findIdx_some (hidx ▸ hi))]
      have hl : (es.toList.findIdx? fun e => knd.is k e.key) = some i := by rw [← hi]; obtain ⟨l⟩ := es; simp
      have := hp.modify hn hl v
      obtain ⟨l⟩ := es
      simpa using this
    · rw [stored, if_pos (any_of_findIdx_some (hidx ▸ hi)), keys_map_store]; exact hn
  | none =>
    have hnot : k ∉ kvs.map (·.1) := not_mem_of_findIdx_none (hidx ▸ hi)
    have hany : ¬ (kvs.any fun kv => decide (kv.1 = k)) = true := by
      rw [List.any_eq_true]; rintro ⟨kv, hkv, he⟩
      exact hnot (List.mem_map.mpr ⟨kv, hkv, of_decide_eq_true he⟩)
    refine wpAny_updateDictKeys (hz := hes) ho hd (hQ _ ⟨_, _, ep + 1, Heap.get?_update_self _ ho (Obj.isFreed_of_dict (Obj.data_mapDictKeys hd _)),
      hc.mapDictKeys _, Obj.data_mapDictKeys hd _, hk.push hkey _, ?_, ?_⟩ (Heap.SameBut.update ..))
    · rw [stored, if_neg hany]
      have := hp.append hkey (knd.hash k) v
      obtain ⟨l⟩ := es
      simpa using this
    · rw [stored, if_neg hany, List.map_append, List.nodup_append]
      refine ⟨hn, by simp, ?_⟩
      intro a ha b hb
      simp only [List.map_cons, List.map_nil, List.mem_singleton] at hb
      subst hb
      exact fun e => hnot (e ▸ ha)
theorem wp_mergeMapping {d o : Addr} {kvs more : List (Key × Value)} {Q : Unit → Shared → Prop} (hdo : d ≠ o) (hoS : (o == sysModules) = false)
    (hd : s.heap.DictOf (mixKind prog w) d kvs) (ho : s.heap.DictOf (mixKind prog w) o more)
    (hQ : ∀ h', h'.DictOf (mixKind prog w) d (merged kvs more) → h'.DictOf (mixKind prog w) o more → Heap.SameBut d s.heap h' → Q () { s with heap := h' })
    (hsz : kvs.length + more.length ≤ sizeLine) :
    wpAny (model prog w) A (mergeMapping d (.ref o) false) Q E s := by
  obtain ⟨od, esd, epd, hod, hcd, hdd, hkd, hpd, hnd⟩ := id hd
  obtain ⟨oo, eso, epo, hoo, hco, hdo', hko, hpo, hno⟩ := id ho
  have hlen : more.length = eso.size := by rw [← hpo.length]; simp
  unfold mergeMapping
  have loop : wpAny (model prog w) A (do
      let l ← dictEntries o
      let epoch ← dictEpoch o
      forIn (List.range l.size) PUnit.unit fun i (_ : PUnit) => (do
          let l' ← dictEntries o
          match l'[i]? with
            | some e => do
              holding [e.key, e.val] (dictPut d e.hash e.key e.val)
              let ep' ← dictEpoch o
              if (ep' != epoch) = true then do
                  (unsupported "dict.changed-during-merge" : Sem PUnit)
                  pure (ForInStep.yield PUnit.unit)
                else pure (ForInStep.yield PUnit.unit)
            | _ => do
              (unsupported "dict.changed-during-merge" : Sem PUnit)
              pure (ForInStep.yield PUnit.unit) : Sem (ForInStep PUnit))
      pure ()) Q E s := by
    refine wpAny_bind (wpAny_dictEntries hoo hdo' ?_)
    refine wpAny_bind (wpAny_dictEpoch hoo hdo' ?_)
    refine wpAny_bind ?_
    rw [List.range_eq_range']
    refine wpAny_forIn_list _
      (fun rest _ s' => ∃ h' i, s' = { s with heap := h' } ∧ rest = List.range' i (eso.size - i) ∧ i ≤ eso.size ∧ h'.DictOf (mixKind prog w) d (merged kvs (more.take i)) ∧ h'.get? o = some oo ∧ Heap.SameBut d s.heap h')
      _ ?_ ?_ _ _ ⟨s.heap, 0, rfl, by simp, Nat.zero_le _, by simpa [merged] using hd, hoo, Heap.SameBut.refl _ _⟩
    · rintro x rest b s' ⟨h', i, rfl, hr, hi, hd', hoo', hs'⟩
      have hlt : i < eso.size := by
        rcases Nat.lt_or_ge i eso.size with h | h
        · exact h
        · rw [Nat.sub_eq_zero_of_le h] at hr; simp at hr
      obtain ⟨rfl, hrest⟩ : x = i ∧ rest = List.range' (i + 1) (eso.size - (i + 1)) := by
        have e : eso.size - i = (eso.size - (i + 1)) + 1 := by omega
        rw [e, List.range'_succ] at hr
        injection hr with h1 h2
        exact ⟨h1, h2⟩
      refine wpAny_bind (wpAny_dictEntries hoo' hdo' ?_)
      rw [Array.getElem?_eq_getElem hlt]
      obtain ⟨kv, hkv⟩ : ∃ kv, more[x]? = some kv := ⟨more[x]'(by rw [hlen]; exact hlt), List.getElem?_eq_getElem _⟩
      obtain ⟨k, v⟩ := kv
      obtain ⟨hkey, hval⟩ := hpo.get? (e := eso[x]) (by simp [hlt]) hkv
      obtain ⟨k', hkey', hhash⟩ := hko eso[x] (Array.getElem_mem hlt)
      obtain rfl : k' = k := (mixKind prog w).inj _ _ _ hkey' hkey
      show wpAny _ _ (holding [eso[x].key, eso[x].val] (dictPut d eso[x].hash eso[x].key eso[x].val) >>= _) _ _ _
      rw [hhash, hval]
      have hmx : (merged kvs (more.take x)).length ≤ sizeLine := by
        have e1 := merged_length_le kvs (more.take x)
        have e2 : (more.take x).length ≤ more.length := by rw [List.length_take]; omega
        omega
      refine wpAny_bind (wpAny_holding (wp_dictPut (hsz := hmx) hkey hd' fun h'' hd'' hs'' => ?_))
      have hoo'' : h''.get? o = some oo := (hs''.2 o (Ne.symm hdo)).trans hoo'
      refine wpAny_bind (wpAny_dictEpoch hoo'' hdo' ?_)
      rw [if_neg (by simp)]
      exact wpAny_pure ⟨h'', x + 1, rfl, hrest, hlt, by rw [merged_take_succ kvs more x (k', v) hkv]; exact hd'', hoo'', hs'.trans hs''⟩
    · rintro b s' ⟨h', i, rfl, hr, hi, hd', hoo', hs'⟩
      have hin : i = eso.size := by
        rcases Nat.lt_or_ge i eso.size with h | h
        · have e : eso.size - i = (eso.size - (i + 1)) + 1 := by omega
          rw [e, List.range'_succ] at hr; exact nomatch hr
        · exact Nat.le_antisymm hi h
      refine wpAny_pure (hQ h' ?_ ⟨oo, eso, epo, hoo', hco, hdo', hko, hpo, hno⟩ hs')
      rw [hin, ← hlen, List.take_length] at hd'; exact hd'
  refine wpAny_bind (wpAny_isInstance ho.typeIs isSubtype_dict_dict ?_)
  rw [if_pos rfl]
  refine wpAny_bind (wpAny_specialOf ho.typeIs F.slot_dict_iter.lookup (wpAny_bind (wpAny_pure ?_)))
  simp only [beq_self_eq_true]
  rw [if_neg (by rw [hoS]; exact Bool.false_ne_true)]
  refine wpAny_bind (wpAny_dictEntries hod hdd ?_)
  split
  · refine wpAny_bind (wpAny_dictEntries hoo hdo' ?_)
    refine wpAny_bind ?_
    rw [← Array.forIn_toList, forIn_yield_id _ fun e he c => by
      obtain ⟨k, hkey, _⟩ := hko e (Array.mem_toList_iff.mp he)
      rcases keyIs_shape (show keyIs k e.key = true from hkey) with ⟨i, t, rfl, h⟩ | ⟨x, t, rfl, h⟩ <;> (rw [h])]
    exact wpAny_pure loop
  · exact loop
theorem wp_dictStar {v1 k v2 : Sem Value} {Q : Value → Shared → Prop}
    (h : wpAny (model prog w) A v1 (fun m s1 => ∃ o more, m = .ref o ∧ s.heap.objs.size ≠ o ∧ (o == sysModules) = false ∧ s1.heap.DictOf (mixKind prog w) s.heap.objs.size [] ∧ s1.heap.DictOf (mixKind prog w) o more ∧ more.length ≤ sizeLine ∧
      ∀ h', h'.DictOf (mixKind prog w) s.heap.objs.size more → Heap.SameBut s.heap.objs.size s1.heap h' →
        wpAny (model prog w) A (evalPairs [(k, v2)]) (fun vs s2 => ∃ kvs more2, Carries (mixKind prog w) vs kvs ∧ h'.objs.size ≠ s.heap.objs.size ∧ (h'.objs.size == sysModules) = false ∧ s2.heap.DictOf (mixKind prog w) h'.objs.size [] ∧ s2.heap.DictOf (mixKind prog w) s.heap.objs.size more2 ∧ more2.length + kvs.length ≤ sizeLine ∧
          ∀ h2, h2.DictOf (mixKind prog w) h'.objs.size (merged [] kvs) → Heap.SameBut h'.objs.size s2.heap h2 → ∀ h3, h3.DictOf (mixKind prog w) s.heap.objs.size (merged more2 (merged [] kvs)) → h3.DictOf (mixKind prog w) h'.objs.size (merged [] kvs) → Heap.SameBut s.heap.objs.size h2 h3 → Q (.ref s.heap.objs.size) { s2 with heap := h3, toks := s2.toks + vs.length }) E
          { s1 with heap := h'.push { cls := .type "dict", data := .dict #[] } }) E
      { s with heap := s.heap.push { cls := .type "dict", data := .dict #[] } }) : wpAny (model prog w) A (dictDisplay [(none, v1), (some k, v2)]) Q E s := by
  unfold dictDisplay
  simp only [List.forIn_cons, List.forIn_nil]
  refine wpAny_bind (wpAny_bind (wpAny_bind ?_))
  simp only [List.isEmpty_nil, if_true]
  refine wpAny_pure ?_
  refine wpAny_bind (wpAny_alloc ?_)
  refine wpAny_bind (wpAny_holding (wpAny_mono h (fun m s1 q => ?_) fun _ _ e => e))
  obtain ⟨o, more, rfl, hne, hoS, d0, d1, hz, q⟩ := q
  refine wpAny_bind (wpAny_onRaise (wpAny_tryCatch (wpAny_onRaise (wpAny_holding (wp_mergeMapping hne hoS d0 d1 (fun h' e1 e2 e3 => ?_) (by simpa using hz))))))
  rw [merged_nil_of_nodup more (by obtain ⟨_, _, _, _, _, _, _, _, hn⟩ := d1; exact hn)] at e1
  refine wpAny_pure ?_
  refine wpAny_bind ?_
  rw [if_neg (by simp)]
  refine wpAny_pure (wpAny_pure ?_)
  refine wpAny_bind ?_
  rw [if_neg (by simp)]
  refine wpAny_bind (wpAny_holding (wpAny_subDict (knd := mixKind prog w) (by simp) (wpAny_mono (q h' e1 e3) (fun vs s2 q2 => ?_) fun _ _ e => e)))
  obtain ⟨kvs, more2, c, n1, n2, f0, f1, hz2, q2⟩ := q2
  refine ⟨kvs, c, f0, fun h2 g1 g2 => ?_⟩
  refine wpAny_bind (wpAny_onRaise (wpAny_holding (wp_mergeMapping (Ne.symm n1) n2 (f1.sameBut g2 (Ne.symm n1)) g1 (fun h3 k1 k2 k3 => ?_) ?_)))
  · exact wpAny_pure (wpAny_pure (q2 h2 g1 g2 h3 k1 k2 k3))
  · have := merged_length_le ([] : List (Key × Value)) kvs
    simp at this
    omega
end
end HB

set_option Elab.async false
set_option linter.all false
set_option maxRecDepth 100000
set_option maxHeartbeats 1000000
/-! HC, part f: {**d, k: v} as a rule. -/
namespace HB
open PySem PySem.Spec PyProof.Rows L2
def tStar (td tk tv : TE) : TE := fun σ H Q => ∀ p, H p = none → td σ (upd H p (.dK [])) fun m H1 => H1 p = some (.dK []) ∧ ∃ (a : Addr) (kvs : List (Key × V)), m = .ref a ∧ Rd H1 a (.dK kvs) ∧ p ≠ a ∧ kvs.length + 1 ≤ sizeLine ∧
  ∀ q, H1 q = none → tk σ (upd (upd H1 p (.dK kvs)) q (.dK [])) fun x H2 => tv σ H2 fun y H3 => H3 p = some (.dK kvs) ∧ H3 q = some (.dK []) ∧ ∃ k, x = kV k ∧ Q (.ref p) (upd (upd H3 q (.dK [(k, y)])) p (.dK (putK kvs k y)))
def onePair (P : V → V → Hp → Prop) : List (V × V) → Hp → Prop
  | [(x, y)], H => P x y H
  | _, _ => False
theorem pe_star {X : Cx} {d k v : Expr} {pos : Pos} {td tk tv : TE} (hd : PE X d td) (hk : PE X k tk) (hv : PE X v tv) : PE X (.Dict [none, some k] [d, v] pos) (tStar td tk tv) := by
  refine ⟨fun pins s σ H Q I q => ?_⟩
  have hn := I.hok.fresh (Nat.le_refl s.heap.objs.size)
  have I1 := I.laid (a := s.heap.objs.size) (o := .dK []) (h' := s.heap.push { cls := .type "dict", data := .dict #[] }) (t' := s.toks) (fun _ _ q => Heap.get?_push_of_some _ q) (Nat.le_refl _) (dk_empty s.heap I.big)
  rw [arm_eval_Dict]
  refine wpAny_bind (wpAny_standAt ?_)
  show wpAny _ _ (dictDisplay [(none, do let x ← eval d X.env; standAt pos; pure x), (some (eval k X.env), do let x ← eval v X.env; standAt pos; pure x)]) _ _ s
  refine wp_dictStar ?_
  refine wpAny_bind (thn (hd.run pins _ σ _ _ I1 (q _ hn)) fun u s1 ⟨m, H1, I2, rm, e0, a, kvs, em, ra, hne, hz, q1⟩ => ?_)
  subst em
  obtain rfl : u = Value.ref a := rm
  refine wpAny_bind (wpAny_standAt (wpAny_pure ?_))
  obtain ⟨zp, hdp, vs0, r0, d0⟩ := dk_of I2.hok e0
  cases r0
  obtain ⟨za, hda, more, r1, d1⟩ := dk_rd I2.hok ra
  have lm : kvs.length = more.length := Paired.length r1
  refine ⟨a, more, rfl, hne, hda, d0, d1, by omega, fun h' e1 e2 => ?_⟩
  have he : ∃ q, h'.get? s.heap.objs.size = some q := let ⟨q, _, _, hq, _⟩ := e1; ⟨q, hq⟩
  have I3 : Inv X pins σ (upd H1 s.heap.objs.size (.dK kvs)) { s1 with heap := h', toks := s1.toks } := d_write I2 (by rw [e0]; exact True.intro) e2 he (dk_new za hdp r1 e1)
  have hn2 := I3.hok.fresh (Nat.le_refl h'.objs.size)
  have hpq : h'.objs.size ≠ s.heap.objs.size := fun z => by rw [z, upd_same] at hn2; cases hn2
  rw [upd_ne hpq] at hn2
  have I4 := I3.laid (a := h'.objs.size) (o := .dK []) (h' := h'.push { cls := .type "dict", data := .dict #[] }) (t' := s1.toks) (fun _ _ q => Heap.get?_push_of_some _ q) (Nat.le_refl _) (dk_empty h' I3.big)
  have key := (pps_cons (pos := pos) hk hv pps_nil).run pins _ σ _ (onePair fun x y H3 => H3 s.heap.objs.size = some (.dK kvs) ∧ H3 h'.objs.size = some (.dK []) ∧ ∃ k, x = kV k ∧ Q (.ref s.heap.objs.size) (upd (upd H3 h'.objs.size (.dK [(k, y)])) s.heap.objs.size (.dK (putK kvs k y)))) I4 ?_
  · refine thn key fun ws s2 ⟨ps, H3, I5, rel, qq⟩ => ?_
    match ps, qq with
    | [(x, y)], qq =>
    obtain ⟨e3, e4, kk, ek, qf⟩ := qq
    subst ek
    obtain ⟨rs, c, rk⟩ := carries_of (P := X.prog) (w := X.w) (kvs := [(kk, y)]) rel
    obtain ⟨_, hdq, vs1, r2, d2⟩ := dk_of I5.hok e4
    cases r2
    obtain ⟨_, _, more2, r3, d3⟩ := dk_of I5.hok e3
    have l2 : kvs.length = more2.length := Paired.length r3
    have l3 : rs.length = 1 := (Paired.length rk).symm
    refine ⟨rs, more2, c, hpq, hdq, d2, d3, by omega, fun h2 g1 g2 h3 k1 k2 k3 => ⟨.ref s.heap.objs.size, _, ?_, rfl, qf⟩⟩
    have rk' : KV [(kk, y)] (merged [] rs) := rk.merge .nil
    have he2 : ∃ q, h2.get? h'.objs.size = some q := let ⟨q, _, _, hq, _⟩ := g1; ⟨q, hq⟩
    have he3 : ∃ q, h3.get? s.heap.objs.size = some q := let ⟨q, _, _, hq, _⟩ := k1; ⟨q, hq⟩
    have I6 : Inv X pins σ (upd H3 h'.objs.size (.dK [(kk, y)])) { s2 with heap := h2, toks := s2.toks + ws.length } := d_write I5 (by rw [e4]; exact True.intro) g2 he2 (dk_new (by rw [List.length_singleton]; omega) hdq rk' g1)
    exact d_write (s := { s2 with heap := h2, toks := s2.toks + ws.length }) (t' := s2.toks + ws.length) I6 (by rw [upd_ne (Ne.symm hpq), e3]; exact True.intro) k3 he3 (dk_new (by have := length_putK kvs kk y; omega) hdp (rk'.merge r3) k1)
  · exact q1 _ hn2
/-! ### the plain function -/
def eStar (fd fk fv : SE) : Evr → Sto → Option ((List Key × List Dt) × Sto) := fun r st => (fd r st).bind fun x => (asD x.2 x.1).bind fun p => (fk r x.2).bind fun y => (fv r y.2).bind fun z => (keyD y.1).bind fun k => if p.1.length < sizeLine then some (pPut k z.1 p.1 p.2, z.2) else none
section
variable {T : List (Addr × Str)}
theorem Afz.chgZ {Z Z' : Addr → Prop} {L L' : List Addr} {st st' : Sto} {H H' : Hp} {D : Addr} {kvs kvs' : List (Key × V)} (f : Afz T Z L st H Z' L' st' H') (zD : Z' D) (nD : H D = none) (hD : H' D = some (.dK kvs)) : Afz T Z L st H Z' L' st' (upd H' D (.dK kvs')) := by
  refine ⟨f.wd.chg zD fun u eu => by rw [hD] at eu; cases eu; exact .inr ⟨_, rfl⟩, f.pre, fun b u eb nl nt => ?_, f.nw, fun b n z => ?_, fun b us eb => ?_, f.fr, f.zs⟩
  · rw [upd_ne (ne_of_none eb nD)]; exact f.kp b u eb nl nt
  · by_cases hb : b = D
    · rw [hb, upd_same] at z; cases z
    · rw [upd_ne hb] at z; exact f.trk b n z
  · rw [upd_ne (ne_of_none eb nD)]; exact f.tp b us eb
theorem asD_ne {Z : Addr → Prop} {L : List Addr} {st : Sto} {H : Hp} {D a : Addr} {d : Dt} {ks : List Key} {ds : List Dt} (w : Wd T (zAnd Z D) L st H) (h : Den L (Bad (zAnd Z D) L st) H d (.ref a)) (e : asD st d = some (ks, ds)) : D ≠ a := by
  intro z
  subst z
  cases d with
  | dic xs ys =>
    unfold Den at h
    obtain ⟨b, vs, r, nb, e, el, t⟩ := h
    cases r
    exact nb (.inl (.inr rfl))
  | ref k =>
    unfold asD at e
    dsimp only at e
    split at e
    · rename_i xs ys hk
      unfold Den at h
      obtain ⟨b, ka, r⟩ := h
      cases r
      exact (w.own k D _ ka hk).1 (.inr rfl)
    · cases e
  | _ => cases e
theorem star_run {fd fk fv : SE} {Z : Addr → Prop} {L : List Addr} {st : Sto} {H : Hp} {s : L2.St} {ev : Evr} {ks : List Key} {ds : List Dt} {st' : Sto} {Q : VK} (w : Wd T Z L st H) (e : EnvOk L (Bad Z L st) H ev s) (h : eStar fd fk fv ev st = some ((ks, ds), st'))
    (q : ∀ D vs H' L', Afz T Z L st H (zAnd Z D) L' st' H' → H D = none → H' D = some (.dK (ks.zip vs)) → ks.length = vs.length → Dens L' (Bad (zAnd Z D) L' st') H' ds vs → Q (.ref D) H') : tStar (rE T fd) (rE T fk) (rE T fv) s H Q := by
  obtain ⟨⟨dx, st1⟩, h1, h⟩ := bind_some' h
  obtain ⟨⟨ks0, ds0⟩, h2, h⟩ := bind_some' h
  obtain ⟨⟨dy, st2⟩, h3, h⟩ := bind_some' h
  obtain ⟨⟨dz, st3⟩, h4, h⟩ := bind_some' h
  obtain ⟨k, h5, h⟩ := bind_some' h
  split at h
  case isFalse => cases h
  case isTrue hz =>
  have h6 : pPut k dz ks0 ds0 = (ks, ds) := congrArg Prod.fst (Option.some.inj h)
  have h7 : st3 = st' := congrArg Prod.snd (Option.some.inj h)
  subst h7
  obtain rfl : (pPut k dz ks0 ds0).1 = ks := by rw [h6]
  obtain rfl : (pPut k dz ks0 ds0).2 = ds := by rw [h6]
  clear h6 h
  intro D nD
  have m1 : Afz T Z L st H (zAnd Z D) L st (upd H D (.dK [])) := Afz.mine w nD
  have zD : zAnd Z D D := .inr rfl
  refine sE (zAnd Z D) L st _ s ev dx st1 _ m1.wd (e.keep m1) h1 fun m H1 L1 f1 p1 => ?_
  have hD : H1 D = some (.dK []) := f1.kp D _ upd_same (fun z => by
    obtain ⟨j, d, j1, j2⟩ := z
    exact (m1.wd.own j D d j1 j2).1 zD) (fun ps z => by cases z)
  obtain ⟨a, vs, rfl, ra, hl, t⟩ := asD_ok f1.wd p1 h2
  refine ⟨hD, a, _, rfl, ra, asD_ne f1.wd p1 h2, by rw [List.length_zip]; dsimp only at hz; omega, fun q2 nq => ?_⟩
  have tD : ∀ zs, H1 D ≠ some (.tup zs) := fun zs z => by rw [hD] at z; cases z
  have g1 : Afz T Z L st H (zAnd Z D) L1 st1 (upd H1 D (.dK (ks0.zip vs))) := (m1.trans f1).chgZ zD nD hD
  have t1 : Dens L1 (Bad (zAnd Z D) L1 st1) (upd H1 D (.dK (ks0.zip vs))) ds0 vs := t.chg (.inl zD) tD
  have hqD : q2 ≠ D := fun z => by rw [z, hD] at nq; cases nq
  have nq' : upd H1 D (.dK (ks0.zip vs)) q2 = none := by rw [upd_ne hqD]; exact nq
  have nq0 : H q2 = none := by
    cases qq : H q2 with
    | none => rfl
    | some o => exact absurd nq' (g1.trk q2 (by rw [qq]; simp))
  have m2 : Afz T (zAnd Z D) L1 st1 (upd H1 D (.dK (ks0.zip vs))) (zAnd (zAnd Z D) q2) L1 st1 (upd (upd H1 D (.dK (ks0.zip vs))) q2 (.dK [])) := Afz.mine g1.wd nq'
  have g2 := g1.trans m2
  have zq : zAnd (zAnd Z D) q2 q2 := .inr rfl
  have zD2 : zAnd (zAnd Z D) q2 D := .inl zD
  refine sE _ L1 st1 _ s ev dy st2 _ g2.wd (e.keep g2) h3 fun x H2 L2 f2 p2 => ?_
  refine sE _ L2 st2 H2 s ev dz st3 _ f2.wd ((e.keep g2).keep f2) h4 fun y H3 L3 f3 p3 => ?_
  have f23 := f2.trans f3
  have kd : ∀ (c : Addr) (o : HO), zAnd (zAnd Z D) q2 c → upd (upd H1 D (.dK (ks0.zip vs))) q2 (.dK []) c = some o → (∀ ps, o ≠ .tbl ps) → H3 c = some o := fun c o zc ec nt => f23.kp c o ec (fun z => by
    obtain ⟨j, d, j1, j2⟩ := z
    exact (g2.wd.own j c d j1 j2).1 zc) nt
  have e3D : H3 D = some (.dK (ks0.zip vs)) := kd D _ zD2 (by rw [upd_ne (Ne.symm hqD), upd_same]) (fun ps z => by cases z)
  have e3q : H3 q2 = some (.dK []) := kd q2 _ zq upd_same (fun ps z => by cases z)
  refine ⟨e3D, e3q, k, keyD_ok p2 h5, ?_⟩
  have g3 := g2.trans f23
  have t3 := Dens.pPut (ks := ks0) p3 k ((t1.keep m2).keep f23)
  have g4 : Afz T Z L st H (zAnd (zAnd Z D) q2) L3 st3 (upd H3 q2 (.dK [(k, y)])) := g3.chgZ zq nq0 e3q
  have t4 := t3.chg (o := .dK [(k, y)]) (.inl zq) (fun zs z => by rw [e3q] at z; cases z)
  have e4D : upd H3 q2 (.dK [(k, y)]) D = some (.dK (ks0.zip vs)) := by rw [upd_ne (Ne.symm hqD)]; exact e3D
  have g5 := g4.chgZ (kvs' := putK (ks0.zip vs) k y) zD2 nD e4D
  have t5 := t4.chg (o := .dK (putK (ks0.zip vs) k y)) (.inl zD2) (fun zs z => by rw [e4D] at z; cases z)
  refine q D (pPut k y ks0 vs).2 _ L3 ⟨g5.wd.less fun b z => .inl z, g5.pre, g5.kp, g5.nw, g5.trk, g5.tp, g5.fr, fun b z => z.elim .inl fun y => .inr (by rw [y]; exact nD)⟩ nD ?_ ?_ (t5.mono bad_zAnd)
  · rw [upd_same, pPut_zip k y hl, pPut_keys k y dz ks0 vs ds0]
  · rw [pPut_keys k dz y ks0 ds0 vs]; exact pPut_len k y hl
theorem sim_starV {fd fk fv : SE} : SimE T (tStar (rE T fd) (rE T fk) (rE T fv)) (dToV (eStar fd fk fv)) := by
  intro Z L st H s r d st' Q w e h q
  obtain ⟨⟨⟨ks, zs⟩, st1⟩, a1, h⟩ := bind_some' h
  cases h
  refine star_run w e a1 fun D vs H' L' ff nD hD hl hv => ?_
  refine q _ H' L' ff.back ?_
  unfold Den
  refine ⟨D, vs, rfl, fun z => ?_, .inl hD, hl, hv.mono bad_zAnd⟩
  rcases z with z | ⟨j, d, j1, j2⟩
  · exact w.zt D z nD
  · exact (ff.wd.own j D d j1 j2).1 (.inr rfl)
theorem jStarV {X : Cx} {d k v : Expr} {pos : Pos} {fd fk fv : SE} (hd : PE X d (rE T fd)) (hk : PE X k (rE T fk)) (hv : PE X v (rE T fv)) : PE X (.Dict [none, some k] [d, v] pos) (rE T (dToV (eStar fd fk fv))) := toE (pe_star hd hk hv) sim_starV
end
end HB

set_option Elab.async false
set_option linter.all false
set_option maxRecDepth 100000
set_option maxHeartbeats 1000000
/-! HC, part g: [.. for x in xs for sign in text]. -/
namespace HB
open PySem PySem.Spec PyProof.Rows L2
def lc2Go (k : SG) (c : ST) (fw : SE) (vs1 : List Nat) (k1 : SG) (c1 : ST) (f : SE) (r : Evr) : List Dt → Sto → Option (List Dt × Sto)
  | [], st => some ([], st)
  | x :: xs, st => (k x r).bind fun r1 => (c r1 st).bind fun b => if b.1 = true then (iE itS fw r1 b.2).bind fun ys => (lcGo k1 c1 f (wipeD r1 vs1) ys.1 ys.2).bind fun z => (lc2Go k c fw vs1 k1 c1 f r xs z.2).bind fun z2 => some (z.1 ++ z2.1, z2.2) else lc2Go k c fw vs1 k1 c1 f r xs b.2
def lc2 (fi : SA) (own : List Nat) (k : SG) (c : ST) (fw : SE) (vs1 : List Nat) (k1 : SG) (c1 : ST) (f : SE) : SA := fun r st => (fi r st).bind fun xs => (lc2Go k c fw vs1 k1 c1 f (wipeD r own) xs.1 xs.2).bind fun z => if z.1.length ≤ sizeLine then some z else none
section
variable {T : List (Addr × Str)}
theorem EnvOk.chg {L : List Addr} {B : Addr → Prop} {H : Hp} {a : Addr} {o : HO} {r : Evr} {s : L2.St} (e : EnvOk L B H r s) (hb : B a) (ht : ∀ xs, H a ≠ some (.tup xs)) : EnvOk L B (upd H a o) r s := ⟨e.1, fun i d h => let ⟨v, h1, h2⟩ := e.2 i d h; ⟨v, h1, h2.chg hb ht⟩⟩
theorem lc2_run {is is1 own vs1 : List Nat} {wi : TI} {fi : SA} {g g1 : TG} {k k1 : SG} {tt tt1 : TT} {c c1 : ST} {tw te : TE} {fw f : SE} (hi : SimI T wi fi) (hg : SimG T is g k) (hc : SimT T tt c) (hw : SimE T tw fw) (hg1 : SimG T is1 g1 k1) (hc1 : SimT T tt1 c1) (hf : SimE T te f) (hs : ∀ i ∈ is, i ∈ own) (hs1 : ∀ i ∈ is1, i ∈ vs1)
    {Z : Addr → Prop} {L : List Addr} {st : Sto} {H : Hp} {s : L2.St} {r : Evr} {zs : List Dt} {st' : Sto} {Q : VK} (w : Wd T Z L st H) (e : EnvOk L (Bad Z L st) H r s) (h : lc2 fi own k c fw vs1 k1 c1 f r st = some (zs, st'))
    (q : ∀ D vs H' L', Afz T Z L st H (zAnd Z D) L' st' H' → H D = none → H' D = some (.lst vs) → Dens L' (Bad (zAnd Z D) L' st') H' zs vs → Q (.ref D) H') : tLc2 wi g tt (iStr tw) g1 tt1 te own vs1 s H Q := by
  obtain ⟨⟨xs, st1⟩, a1, h⟩ := bind_some' h
  obtain ⟨⟨ys, st9⟩, a2, h⟩ := bind_some' h
  split at h
  case isFalse => cases h
  case isTrue hz =>
  cases h
  refine hi Z L st H s r xs st1 _ w e a1 fun J H1 L1 f1 wk D nD => ?_
  have nD0 : H D = none := by
    cases qq : H D with
    | none => rfl
    | some o => exact absurd nD (f1.trk D (by rw [qq]; simp))
  have zD : zAnd Z D D := .inr rfl
  have m1 : Afz T Z L1 st1 H1 (zAnd Z D) L1 st1 (upd H1 D (.lst [])) := Afz.mine f1.wd nD
  refine ⟨fun i m H2 => m = xs.length - i ∧ i ≤ xs.length ∧ ∃ L2 st2 acc rest vs, Afz T Z L1 st1 H1 (zAnd Z D) L2 st2 H2 ∧ H2 D = some (.lst vs) ∧ Dens L2 (Bad (zAnd Z D) L2 st2) H2 acc vs ∧ lc2Go k c fw vs1 k1 c1 f (wipeD r own) (xs.drop i) st2 = some (rest, st') ∧ acc ++ rest = zs,
    ⟨xs.length, by simp, Nat.zero_le _, L1, st1, [], zs, [], m1, upd_same, .nil, a2, rfl⟩, ?_⟩
  rintro i m H2 ⟨rfl, hle, L2, st2, acc, rest, vs, f2, hD, hacc, h2, ez⟩
  obtain ⟨ws, wg⟩ := wk (zAnd Z D) L2 st2 H2 f2
  by_cases hlt : i < xs.length
  · right
    obtain ⟨go, yl⟩ := wg i xs[i] (List.getElem?_eq_getElem hlt)
    rw [List.drop_eq_getElem_cons hlt] at h2
    obtain ⟨r3, b1, b2⟩ := bind_some' h2
    obtain ⟨⟨b, st3⟩, b3, b4⟩ := bind_some' b2
    refine ⟨go, fun H5 => ∃ L5 st5 acc5 rest5 vs5, Afz T Z L1 st1 H1 (zAnd Z D) L5 st5 H5 ∧ H5 D = some (.lst vs5) ∧ Dens L5 (Bad (zAnd Z D) L5 st5) H5 acc5 vs5 ∧ lc2Go k c fw vs1 k1 c1 f (wipeD r own) (xs.drop (i + 1)) st5 = some (rest5, st') ∧ acc5 ++ rest5 = zs,
      fun H5 x => ⟨xs.length - (i + 1), by omega, rfl, hlt, x⟩, fun x H3 y => ?_⟩
    obtain ⟨f3, p3⟩ := yl x H3 y
    have e3 := (((e.keep f1).keep f2).keep f3).wipe own
    refine hg (zAnd Z D) L2 st2 H3 _ _ x _ r3 _ f3.wd e3 p3 b1 fun s4 e4 wp => ⟨?_, ?_⟩
    · rw [wp own hs, wipe_wipe]
    refine hc (zAnd Z D) L2 st2 H3 s4 r3 b st3 _ f3.wd e4 b3 fun H4 L4 f4 => ?_
    have keepD : ∀ {La : List Addr} {sta : Sto} {Ha : Hp} {L' : List Addr} {st'' : Sto} {H' : Hp} {us : List V}, Wd T (zAnd Z D) La sta Ha → Ha D = some (.lst us) → Afz T (zAnd Z D) La sta Ha (zAnd Z D) L' st'' H' → H' D = some (.lst us) := fun wa ea ff => ff.kp D _ ea (fun z => by
      obtain ⟨j, d, j1, j2⟩ := z
      exact (wa.own j D d j1 j2).1 zD) (fun ps z => by cases z)
    have f34 := f3.trans f4
    cases b with
    | false =>
      rw [if_neg (by simp)] at b4
      exact iteF ⟨L4, st3, acc, rest, vs, f2.trans f34, keepD f2.wd hD f34, (hacc.keep f3).keep f4, b4, ez⟩
    | true =>
      rw [if_pos rfl] at b4
      obtain ⟨⟨yy, st5⟩, c1', c2⟩ := bind_some' b4
      obtain ⟨⟨z1, st6⟩, c3, c4⟩ := bind_some' c2
      obtain ⟨⟨z2, st7⟩, c5, c6⟩ := bind_some' c4
      cases c6
      obtain ⟨⟨dx, sx⟩, i1, i2⟩ := bind_some' c1'
      obtain ⟨tx, i3, i4⟩ := Option.map_eq_some_iff.mp i2
      cases i4
      refine iteT (hw (zAnd Z D) L4 st3 H4 s4 r3 dx _ _ f4.wd (e4.keep f4) i1 fun xv H5 L5 f5 p5 => ?_)
      cases dx with
      | str tz =>
        cases i3
        refine ⟨tz, den_str p5, ?_⟩
        have f35 := f34.trans f5
        refine ⟨fun j kk H6 => kk = tz.cps.size - j ∧ j ≤ tz.cps.size ∧ ∃ L6 st8 acc6 rest6 vs6, Afz T Z L1 st1 H1 (zAnd Z D) L6 st8 H6 ∧ EnvOk L6 (Bad (zAnd Z D) L6 st8) H6 r3 s4 ∧ H6 D = some (.lst vs6) ∧ Dens L6 (Bad (zAnd Z D) L6 st8) H6 acc6 vs6 ∧ lcGo k1 c1 f (wipeD r3 vs1) ((tz.cps.toList.map fun c => Dt.str ⟨#[c]⟩).drop j) st8 = some (rest6, st6) ∧ acc6 ++ (rest6 ++ z2) = zs,
          ⟨tz.cps.size, by simp, Nat.zero_le _, L5, _, acc, z1, vs, f2.trans f35, (e4.keep f4).keep f5, keepD f2.wd hD f35, ((hacc.keep f3).keep f4).keep f5, c3, ez⟩, ?_⟩
        rintro j kk H6 ⟨rfl, jle, L6, st8, acc6, rest6, vs6, f6, e6, hD6, hacc6, h6, ez6⟩
        by_cases jlt : j < tz.cps.size
        · right
          refine ⟨jlt, fun H9 => ∃ L6 st8 acc6 rest6 vs6, Afz T Z L1 st1 H1 (zAnd Z D) L6 st8 H9 ∧ EnvOk L6 (Bad (zAnd Z D) L6 st8) H9 r3 s4 ∧ H9 D = some (.lst vs6) ∧ Dens L6 (Bad (zAnd Z D) L6 st8) H9 acc6 vs6 ∧ lcGo k1 c1 f (wipeD r3 vs1) ((tz.cps.toList.map fun c => Dt.str ⟨#[c]⟩).drop (j + 1)) st8 = some (rest6, st6) ∧ acc6 ++ (rest6 ++ z2) = zs,
            fun H9 x => ⟨tz.cps.size - (j + 1), by omega, rfl, jlt, x⟩, fun xc H7 hy => ?_⟩
          obtain ⟨rfl, ch, hch, rfl⟩ := hy
          have hget : tz.cps.toList[j]? = some ch := by rw [Array.getElem?_toList]; exact hch
          have hjl : j < (tz.cps.toList.map fun c => Dt.str ⟨#[c]⟩).length := by simpa using jlt
          rw [List.drop_eq_getElem_cons hjl] at h6
          have hel : (tz.cps.toList.map fun c => Dt.str ⟨#[c]⟩)[j] = Dt.str ⟨#[ch]⟩ := by
            have : (tz.cps.toList.map fun c => Dt.str ⟨#[c]⟩)[j]? = some (Dt.str ⟨#[ch]⟩) := by rw [List.getElem?_map, hget]; rfl
            rw [List.getElem?_eq_getElem hjl] at this
            exact Option.some.inj this
          rw [hel] at h6
          obtain ⟨r7, d1, d2⟩ := bind_some' h6
          obtain ⟨⟨b7, st10⟩, d3, d4⟩ := bind_some' d2
          refine hg1 (zAnd Z D) L6 st8 _ _ _ (V.str ⟨#[ch]⟩) _ r7 _ f6.wd (e6.wipe vs1) Den.str d1 fun s7 e7 wp7 => ⟨?_, ?_⟩
          · rw [wp7 vs1 hs1, wipe_wipe]
          refine hc1 (zAnd Z D) L6 st8 _ s7 r7 b7 st10 _ f6.wd e7 d3 fun H8 L8 f8 => ?_
          cases b7 with
          | false =>
            rw [if_neg (by simp)] at d4
            exact iteF ⟨L8, st10, acc6, rest6, vs6, f6.trans f8, e6.keep f8, keepD f6.wd hD6 f8, hacc6.keep f8, d4, ez6⟩
          | true =>
            rw [if_pos rfl] at d4
            obtain ⟨⟨dy, st11⟩, k1', k2⟩ := bind_some' d4
            obtain ⟨⟨rest7, st12⟩, k3, k4⟩ := bind_some' k2
            cases k4
            refine iteT (hf (zAnd Z D) L8 st10 H8 s7 r7 dy st11 _ f8.wd (e7.keep f8) k1' fun y H9 L9 f9 p9 => ?_)
            have f89 := f8.trans f9
            have hD9 := keepD f6.wd hD6 f89
            have hacc9 := (hacc6.keep f8).keep f9
            have tD9 : ∀ zs, H9 D ≠ some (.tup zs) := fun zs z => by rw [hD9] at z; cases z
            have hlen : vs6.length < sizeLine := by
              rw [← hacc6.len]
              have : (acc6 ++ (dy :: rest7 ++ z2)).length ≤ sizeLine := by rw [ez6]; exact hz
              rw [List.length_append, List.cons_append, List.length_cons] at this
              omega
            have fa := f6.trans f89
            have wd9 : Wd T (zAnd Z D) L9 st11 (upd H9 D (.lst (vs6 ++ [y]))) := f9.wd.chg zD fun u eu => by rw [hD9] at eu; cases eu; exact .inl ⟨_, rfl⟩
            refine ⟨vs6, hD9, hlen, L9, st11, acc6 ++ [dy], rest7, vs6 ++ [y], ⟨wd9, fa.pre, fun b u eb nl nt => ?_, fa.nw, fun b n z => ?_, fun b us eb => ?_, fa.fr, fa.zs⟩, ((e6.keep f8).keep f9).chg (.inl zD) tD9, upd_same, (hacc9.append (.cons p9 .nil)).chg (.inl zD) tD9, k3, by rw [← ez6]; simp⟩
            · rw [upd_ne (ne_of_none eb nD)]; exact fa.kp b u eb nl nt
            · by_cases hb : b = D
              · rw [hb, upd_same] at z; cases z
              · rw [upd_ne hb] at z; exact fa.trk b n z
            · rw [upd_ne (ne_of_none eb nD)]; exact fa.tp b us eb
        · left
          have hx : j = tz.cps.size := by omega
          subst hx
          rw [List.drop_eq_nil_of_le (by simp)] at h6
          cases h6
          refine ⟨Nat.le_refl _, L6, _, acc6, z2, vs6, f6, hD6, hacc6, c5, by simpa using ez6⟩
      | _ => cases i3
  · left
    have hx : i = xs.length := by omega
    subst hx
    rw [List.drop_length] at h2
    cases h2
    rw [List.append_nil] at ez
    subst ez
    exact ⟨ws, q D vs H2 L2 (f1.trans f2) nD0 hD hacc⟩
theorem sim_lc2V {is is1 own vs1 : List Nat} {wi : TI} {fi : SA} {g g1 : TG} {k k1 : SG} {tt tt1 : TT} {c c1 : ST} {tw te : TE} {fw f : SE} (hi : SimI T wi fi) (hg : SimG T is g k) (hc : SimT T tt c) (hw : SimE T tw fw) (hg1 : SimG T is1 g1 k1) (hc1 : SimT T tt1 c1) (hf : SimE T te f) (hs : ∀ i ∈ is, i ∈ own) (hs1 : ∀ i ∈ is1, i ∈ vs1) :
    SimE T (tLc2 wi g tt (iStr tw) g1 tt1 te own vs1) (toV (lc2 fi own k c fw vs1 k1 c1 f)) := by
  intro Z L st H s r d st' Q w e h q
  obtain ⟨⟨zs, st1⟩, a1, h⟩ := bind_some' h
  cases h
  refine lc2_run hi hg hc hw hg1 hc1 hf hs hs1 w e a1 fun D vs H' L' ff nD hD hv => ?_
  refine q _ H' L' ff.back ?_
  unfold Den
  refine ⟨D, vs, rfl, fun z => ?_, hD, hv.mono bad_zAnd⟩
  rcases z with z | ⟨j, d, j1, j2⟩
  · exact w.zt D z nD
  · exact (ff.wd.own j D d j1 j2).1 (.inr rfl)
/-- [e for x in xs if .. for sign in text if ..] -/
theorem jLc2V {X : Cx} {pos : Pos} {elt tg iter tg1 iter1 : Expr} {ifs ifs1 : List Expr} {scope : Scope} {own : List (Str × Nat)} {vs1 : List Nat} {g g1 : TG} {k k1 : SG} {fi : SA} {is is1 : List Nat} {ga gb : ST} {fw fa : SE} (hc : X.calm = true) (hN : X.N.Nodup) (hk : SimG T is g k) (hk1 : SimG T is1 g1 k1) (hi : PI X tg iter (rI T fi)) (ok : BlkOk X.N X.env.scope scope own) (hv : ∀ i ∈ vs1, i ∈ own.map (·.2))
    (hg : ∀ s H C cl fp, PG (blkX X scope s H C cl fp) tg g) (ht : ∀ s H C cl fp, PTs (blkX X scope s H C cl fp) ifs (rT T ga)) (hi1 : ∀ s H C cl fp, PE (blkX X scope s H C cl fp) iter1 (rE T fw)) (hg1 : ∀ s H C cl fp, PG (blkX X scope s H C cl fp) tg1 g1) (ht1 : ∀ s H C cl fp, PTs (blkX X scope s H C cl fp) ifs1 (rT T gb)) (he : ∀ s H C cl fp, PE (blkX X scope s H C cl fp) elt (rE T fa))
    (hz : ∀ i ∈ is, i ∈ own.map (·.2)) (hz1 : ∀ i ∈ is1, i ∈ vs1) (hs : ∀ x, foldedSetIterable iter X.env x = pure x := by intro _; rfl) (hs1 : ∀ env x, foldedSetIterable iter1 env x = pure x := by intro _ _; rfl) :
    PE X (.ListComp elt [⟨tg, iter, ifs, 0⟩, ⟨tg1, iter1, ifs1, 0⟩] scope pos) (rE T (toV (lc2 fi (own.map (·.2)) k ga fw vs1 k1 gb fa))) :=
  toE (pe_lc2 hc hN hi ok hv hg ht (fun s H C cl fp => pi_str (hi1 s H C cl fp)) hg1 ht1 he hs hs1) (sim_lc2V sI hk sT sE hk1 sT sE hz hz1)
end
end HB

set_option Elab.async false
set_option linter.all false
set_option maxRecDepth 100000
set_option maxHeartbeats 1000000
/-! HC, part h: list(range(a, b)), list(range(a, b, -1)). -/
namespace HB
open PySem PySem.Spec PyProof.Rows L2
def dwnV (a : Int) (n : Nat) : List V := (List.range n).map fun i => V.int (a + (i : Nat) * (-1))
def dwnL (a : Int) (n : Nat) : List Dt := (List.range n).map fun i => .int (a - (i : Nat))
def tLstDn (ta tb tc : TE) : TE := fun σ H Q => ta σ H fun x H1 => tb σ H1 fun y H2 => tc σ H2 fun z H3 => ∃ i j, x = .int i ∧ y = .int j ∧ z = .int (-1) ∧ (-(2 ^ 62) ≤ i ∧ i < 2 ^ 62 ∧ -(2 ^ 62) ≤ j ∧ j < 2 ^ 62 ∧ (i - j).toNat ≤ 2 ^ 24) ∧ ∀ q, H3 q = none → Q (.ref q) (upd H3 q (.lst (dwnV i (i - j).toNat)))
section
variable {X : Cx} {a b c : Expr} {ta tb tc : TE} {p p2 pos pos2 : Pos}
theorem pe_listDn (hcm : X.calm = true) (hg : Gl X "list") (hm : X.mg "list" = none) (hg2 : Gl X "range") (hm2 : X.mg "range" = none) (ha : PE X a ta) (hb : PE X b tb) (hc : PE X c tc)
    (na : starEach [a, b, c] X.env = (false, eval a X.env) :: starEach [b, c] X.env := by rfl) (nb : starEach [b, c] X.env = (false, eval b X.env) :: starEach [c] X.env := by rfl) (nc : starEach [c] X.env = (false, eval c X.env) :: starEach [] X.env := by rfl) (hp : (backTo pos2 (starEach [b, c] X.env)).any (·.1) = false := by rfl)
    (nr : starEach [.Call (.Name "range" p2) [a, b, c] [] pos2] X.env = (false, eval (.Call (.Name "range" p2) [a, b, c] [] pos2) X.env) :: starEach [] X.env := by rfl) :
    PE X (.Call (.Name "list" p) [.Call (.Name "range" p2) [a, b, c] [] pos2] [] pos) (tLstDn ta tb tc) := by
  refine ⟨fun pins s σ H Q I h => ?_⟩
  have rng : wpAny (model X.prog X.w) X.A (eval (.Call (.Name "range" p2) [a, b, c] [] pos2) X.env) (fun x s' => ∃ r i j t u v H', x = .ref r ∧ IsRange s'.heap r i j (-1) t u v ∧ Inv X pins σ H' s' ∧ (-(2 ^ 62) ≤ i ∧ i < 2 ^ 62 ∧ -(2 ^ 62) ≤ j ∧ j < 2 ^ 62 ∧ (i - j).toNat ≤ 2 ^ 24) ∧ ∀ q, H' q = none → Q (.ref q) (upd H' q (.lst (dwnV i (i - j).toNat)))) X.xe s := by
    refine Call_ (ld_blt I hg2 hm2 boot_range (PyProof.Rows.callWith_type1 (args_cons (thn (ha.run pins s σ H _ I h) fun v s1 ⟨x, H1, I1, r1, q1⟩ => args_cons (thn (hb.run pins s1 σ H1 _ I1 q1) fun u s2 ⟨y, H2, I2, r2, q2⟩ => one_arg hc I2 q2 (fun ww s3 z H3 I3 r3 q => ?_) nc) nb) na) na hp))
    obtain ⟨i, j, rfl, rfl, rfl, ok, q⟩ := q
    obtain ⟨t, rfl⟩ := r1
    obtain ⟨t', rfl⟩ := r2
    obtain ⟨t'', rfl⟩ := r3
    exact call_range_3 (by decide) ⟨_, i, j, _, _, _, H3, rfl, IsRange.new _ _ _ _ _ _ _, I3.kept fun b u e => Heap.get?_push_of_some _ e, ok, q⟩ (.inl (PyProof.noPylong_small (by decide)))
  refine Call_ (ld_blt I hg hm boot_list (PyProof.Rows.callWith_type1 (args_cons (thn rng fun x s1 ⟨r, i, j, t, u, v, H1, ex, hr, I1, ok, q⟩ => args_nil ?_) nr) nr))
  subst ex
  obtain ⟨b1, b2, b3, b4, b5⟩ := ok
  refine call_list_range (n := (i - j).toNat) (I1.ok.hd hcm) hr (PySem.W.small_down b1 b2 b3 b4) (PySem.W.rangeSize_downNat i j) b5 fun h' tk acc c' hk e' hi => ?_
  have e0 : acc.toList.length = (i - j).toNat := by rw [Array.length_toList]; exact hi.1
  refine ⟨.ref s1.heap.objs.size, upd H1 s1.heap.objs.size (.lst (dwnV i (i - j).toNat)), I1.laid hk (Nat.le_refl _) (show ObjOk X.prog X.w _ _ _ (.lst (dwnV i (i - j).toNat)) from ⟨?_, acc.toList, c', ?_, ?_⟩), rfl, q _ (I1.hok.fresh (Nat.le_refl _))⟩
  · unfold dwnV; rw [List.length_map, List.length_range, sizeLine_eq]; omega
  · unfold dwnV
    rw [← e0]
    refine vals_of_get acc.toList _ fun j u hj => ?_
    obtain ⟨t, rfl⟩ := hi.2 j u (by rw [← hj, Array.getElem?_toList])
    exact ⟨t, rfl⟩
  · rw [Array.toArray_toList]; exact e'
end
def eLR2 (fa fb : SE) : SE := fun r st => (fa r st).bind fun x => (fb r x.2).bind fun y => match x.1, y.1 with
  | .int i, .int j => if -(2 ^ 62) ≤ i ∧ i < 2 ^ 62 ∧ -(2 ^ 62) ≤ j ∧ j < 2 ^ 62 ∧ (j - i).toNat ≤ 2 ^ 24 then some (.lst (rngL i (j - i).toNat), y.2) else none
  | _, _ => none
def eLDn (fa fb fc : SE) : SE := fun r st => (fa r st).bind fun x => (fb r x.2).bind fun y => (fc r y.2).bind fun z => match x.1, y.1, z.1 with
  | .int i, .int j, .int k => if k = -1 ∧ -(2 ^ 62) ≤ i ∧ i < 2 ^ 62 ∧ -(2 ^ 62) ≤ j ∧ j < 2 ^ 62 ∧ (i - j).toNat ≤ 2 ^ 24 then some (.lst (dwnL i (i - j).toNat), z.2) else none
  | _, _, _ => none
section
variable {T : List (Addr × Str)}
theorem dens_intsF {L : List Addr} {B : Addr → Prop} {H : Hp} (f : Nat → Int) : ∀ xs : List Nat, Dens L B H (xs.map fun i => Dt.int (f i)) (xs.map fun i => V.int (f i))
  | [] => .nil
  | x :: xs => .cons Den.int (dens_intsF f xs)
theorem sim_lr2 {ta tb : TE} {fa fb : SE} (ha : SimE T ta fa) (hb : SimE T tb fb) : SimE T (tLstRg (tRg2 ta tb)) (eLR2 fa fb) := by
  intro Z L st H s r d st' Q w e h q
  obtain ⟨⟨dx, st1⟩, h1, h⟩ := bind_some' h
  obtain ⟨⟨dy, st2⟩, h2, h⟩ := bind_some' h
  refine ha Z L st H s r dx st1 _ w e h1 fun x H1 L1 f1 p1 => ?_
  refine hb Z L1 st1 H1 s r dy st2 _ f1.wd (e.keep f1) h2 fun y H2 L2 f2 p2 => ?_
  match dx, dy, h, p1, p2 with
  | .int i, .int j, h, p1, p2 =>
    dsimp only at h
    split at h
    · rename_i ok
      cases h
      refine ⟨i, j, den_int (p1.keep f2), den_int p2, ok, fun l nl => q _ _ L2 ((f1.trans f2).trans (.new f2.wd nl)) (.newL f2.wd nl ?_)⟩
      exact dens_intsF (fun n => i + (n : Int)) _
    · cases h
theorem sim_ldn {ta tb tc : TE} {fa fb fc : SE} (ha : SimE T ta fa) (hb : SimE T tb fb) (hc : SimE T tc fc) : SimE T (tLstDn ta tb tc) (eLDn fa fb fc) := by
  intro Z L st H s r d st' Q w e h q
  obtain ⟨⟨dx, st1⟩, h1, h⟩ := bind_some' h
  obtain ⟨⟨dy, st2⟩, h2, h⟩ := bind_some' h
  obtain ⟨⟨dz, st3⟩, h3, h⟩ := bind_some' h
  refine ha Z L st H s r dx st1 _ w e h1 fun x H1 L1 f1 p1 => ?_
  refine hb Z L1 st1 H1 s r dy st2 _ f1.wd (e.keep f1) h2 fun y H2 L2 f2 p2 => ?_
  refine hc Z L2 st2 H2 s r dz st3 _ f2.wd ((e.keep f1).keep f2) h3 fun z H3 L3 f3 p3 => ?_
  match dx, dy, dz, h, p1, p2, p3 with
  | .int i, .int j, .int k, h, p1, p2, p3 =>
    dsimp only at h
    split at h
    · rename_i ok
      cases h
      refine ⟨i, j, den_int ((p1.keep f2).keep f3), den_int (p2.keep f3), by rw [den_int p3, ok.1], ok.2, fun l nl => q _ _ L3 ((f1.trans (f2.trans f3)).trans (.new f3.wd nl)) (.newL f3.wd nl ?_)⟩
      unfold dwnL dwnV
      have e : (fun k : Nat => V.int (i + (k : Int) * (-1))) = fun k : Nat => V.int (i - (k : Int)) := by
        funext k; congr 1; omega
      rw [e]; exact dens_intsF (fun n => i - (n : Int)) _
    · cases h
variable {X : Cx} {a b c : Expr} {fa fb fc : SE} {p p2 pos pos2 : Pos}
theorem jLR2 (hcm : X.calm = true) (hg : Gl X "list") (hm : X.mg "list" = none) (hg2 : Gl X "range") (hm2 : X.mg "range" = none) (ha : PE X a (rE T fa)) (hb : PE X b (rE T fb)) (na : starEach [a, b] X.env = (false, eval a X.env) :: starEach [b] X.env := by rfl) (nb : starEach [b] X.env = (false, eval b X.env) :: starEach [] X.env := by rfl) (hp : (backTo pos2 (starEach [b] X.env)).any (·.1) = false := by rfl)
    (nr : starEach [.Call (.Name "range" p2) [a, b] [] pos2] X.env = (false, eval (.Call (.Name "range" p2) [a, b] [] pos2) X.env) :: starEach [] X.env := by rfl) :
    PE X (.Call (.Name "list" p) [.Call (.Name "range" p2) [a, b] [] pos2] [] pos) (rE T (eLR2 fa fb)) := toE (pe_listRg hcm hg hm (prg_2 hg2 hm2 ha hb na nb hp) nr) (sim_lr2 sE sE)
theorem jLDn (hcm : X.calm = true) (hg : Gl X "list") (hm : X.mg "list" = none) (hg2 : Gl X "range") (hm2 : X.mg "range" = none) (ha : PE X a (rE T fa)) (hb : PE X b (rE T fb)) (hc : PE X c (rE T fc)) (na : starEach [a, b, c] X.env = (false, eval a X.env) :: starEach [b, c] X.env := by rfl) (nb : starEach [b, c] X.env = (false, eval b X.env) :: starEach [c] X.env := by rfl) (nc : starEach [c] X.env = (false, eval c X.env) :: starEach [] X.env := by rfl) (hp : (backTo pos2 (starEach [b, c] X.env)).any (·.1) = false := by rfl)
    (nr : starEach [.Call (.Name "range" p2) [a, b, c] [] pos2] X.env = (false, eval (.Call (.Name "range" p2) [a, b, c] [] pos2) X.env) :: starEach [] X.env := by rfl) :
    PE X (.Call (.Name "list" p) [.Call (.Name "range" p2) [a, b, c] [] pos2] [] pos) (rE T (eLDn fa fb fc)) := toE (pe_listDn hcm hg hm hg2 hm2 ha hb hc na nb nc hp nr) (sim_ldn sE sE sE)
end
end HB

set_option Elab.async false
set_option linter.all false
set_option maxRecDepth 100000
set_option maxHeartbeats 1000000
/-! HC, part i: a + b as a new live list. -/
namespace HB
open PySem PySem.Spec PyProof.Rows L2
def gAddR (st : Sto) (x y : Dt) : Option (Dt × Sto) := match asL st x, asL st y with
  | some a, some b => if a.length + b.length ≤ sizeLine then some (.ref st.length, st ++ [some (.lst (a ++ b))]) else none
  | _, _ => none
section
variable {T : List (Addr × Str)}
theorem vo_AddR : VO2 T rAdd gAddR := by
  intro Z L st H x y dx dy d st' Q w hx hy h q
  unfold gAddR at h
  split at h
  · rename_i a b ha hb
    split at h
    · rename_i hl
      cases h
      obtain ⟨p1, vs, rfl, e1, t1⟩ := asL_ok w hx ha
      obtain ⟨p2, us, rfl, e2, t2⟩ := asL_ok w hy hb
      refine .inr (.inr ⟨p1, p2, vs, us, rfl, rfl, e1, e2, by rw [← t1.len, ← t2.len]; exact hl, fun p np => ?_⟩)
      refine q _ _ (L ++ [p]) (.newR w np ⟨vs ++ us, rfl, t1.append t2⟩) ?_
      unfold Den
      exact ⟨p, by rw [← w.len]; simp, rfl⟩
    · cases h
  · cases h
variable {X : Cx} {a b : Expr} {fa fb : SE} {pos : Pos}
theorem jAddR (ha : PE X a (rE T fa)) (hb : PE X b (rE T fb)) : PE X (.BinOp a .Add b pos) (rE T (eOp2 gAddR fa fb)) := jOp op_Add vo_AddR ha hb
end
theorem boot_min' : bootBuiltins ("min" : Str) = some (.builtin "min") := by with_unfolding_all rfl
theorem boot_max' : bootBuiltins ("max" : Str) = some (.builtin "max") := by with_unfolding_all rfl
end HB

set_option Elab.async false
set_option linter.all false
set_option maxRecDepth 100000
set_option maxHeartbeats 1000000
/-! HC, part j: == and != of lists that hold many live objects. -/
namespace HB
open PySem PySem.Spec PyProof.Rows L2
def eqC (st : Sto) (x y : Dt) : Option Bool := (deref st 100 x).bind fun a => (deref st 100 y).bind fun b => if alikeD a b = true then (if noRef a = true ∧ noRef b = true then eqQ 8 a b else none) else eqD st x y
def gEqC (st : Sto) (x y : Dt) : Option (Dt × Sto) := (eqC st x y).map fun b => (.bl b, st)
def gNeC (st : Sto) (x y : Dt) : Option (Dt × Sto) := (eqC st x y).map fun b => (.bl (!b), st)
section
variable {T : List (Addr × Str)} {K : PySem.W.Frag}
theorem vo_EqC : VO2 T (rEqZ K) gEqC := by
  intro Z L st H x y dx dy d st' Q w hx hy h q
  obtain ⟨b, h1, h2⟩ := Option.map_eq_some_iff.mp h
  cases h2
  obtain ⟨a, e1, e2⟩ := bind_some' h1
  obtain ⟨c, e3, e4⟩ := bind_some' e2
  split at e4
  · rename_i ha
    split at e4
    · rename_i hn
      exact .inr ⟨L, Z, a, c, b, hn.1, hn.2, ha, e4, deref_ok w e1 (hx.mono fun b z => .inl z), deref_ok w e3 (hy.mono fun b z => .inl z), q _ H L (.refl w) Den.bl⟩
    · cases e4
  · exact .inl (vo_Eq Z L st H x y dx dy _ _ Q w hx hy (by unfold gEq; rw [e4]; rfl) q)
theorem vo_NeC : VO2 T (rNeZ K) gNeC := by
  intro Z L st H x y dx dy d st' Q w hx hy h q
  obtain ⟨b, h1, h2⟩ := Option.map_eq_some_iff.mp h
  cases h2
  obtain ⟨a, e1, e2⟩ := bind_some' h1
  obtain ⟨c, e3, e4⟩ := bind_some' e2
  split at e4
  · rename_i ha
    split at e4
    · rename_i hn
      exact .inr ⟨L, Z, a, c, b, hn.1, hn.2, ha, e4, deref_ok w e1 (hx.mono fun b z => .inl z), deref_ok w e3 (hy.mono fun b z => .inl z), q _ H L (.refl w) Den.bl⟩
    · cases e4
  · exact .inl (vo_Ne Z L st H x y dx dy _ _ Q w hx hy (by unfold gNe; rw [e4]; rfl) q)
end
/-! ### what is seen of live objects -/
theorem derefs_map {α : Type} {st : Sto} {f g : α → Dt} : ∀ (l : List α) (m : Nat), (∀ a ∈ l, ∀ k, 3 ≤ k → deref st k (f a) = some (g a)) → l.length + 3 ≤ m → derefs st m (l.map f) = some (l.map g)
  | [], m, _, _ => by cases m <;> rfl
  | a :: l, 0, _, h => by simp at h
  | a :: l, m + 1, h, hm => by
    rw [List.length_cons] at hm
    rw [List.map_cons, List.map_cons]
    show ((deref st m (f a)).bind fun e => (derefs st m (l.map f)).map fun es => e :: es) = _
    rw [h a (by simp) m (by omega), derefs_map l m (fun b hb => h b (by simp [hb])) (by omega)]
    rfl
/-- x and y are alike -/
theorem eqC_of {st : Sto} {x y a b : Dt} (hx : deref st 100 x = some a) (hy : deref st 100 y = some b) (na : noRef a = true) (nb : noRef b = true) (hk : alikeD a b = true) (hq : eqQ 8 a b = some true) : gEqC st x y = some (.bl true, st) ∧ gNeC st x y = some (.bl false, st) := by
  have e : eqC st x y = some true := by
    unfold eqC
    rw [hx, Option.bind_some, hy, Option.bind_some, if_pos hk, if_pos ⟨na, nb⟩]
    exact hq
  unfold gEqC gNeC
  rw [e]
  exact ⟨rfl, rfl⟩
theorem eqQ_nil {n : Nat} : eqQ (n + 1) (.lst []) (.lst []) = some true := rfl
theorem eqQ_cons {n : Nat} {x y : Dt} {xs ys : List Dt} (h : eqQ n x y = some true) (ht : eqQ (n + 1) (.lst xs) (.lst ys) = some true) : eqQ (n + 1) (.lst (x :: xs)) (.lst (y :: ys)) = some true := by
  have ht' : (if xs.length = ys.length then allO (List.zipWith (eqQ n) xs ys) else some false) = some true := ht
  show (if (x :: xs).length = (y :: ys).length then allO (List.zipWith (eqQ n) (x :: xs) (y :: ys)) else some false) = some true
  by_cases hl : xs.length = ys.length
  · rw [if_pos hl] at ht'
    rw [if_pos (by simp [hl]), List.zipWith_cons_cons]
    show ((eqQ n x y).bind fun b => (allO (List.zipWith (eqQ n) xs ys)).map fun c => b && c) = _
    rw [h, ht']
    rfl
  · rw [if_neg hl] at ht'; cases ht'
theorem eqQ_maps {α : Type} {n : Nat} {f g : α → Dt} : ∀ l : List α, (∀ a ∈ l, eqQ n (f a) (g a) = some true) → eqQ (n + 1) (.lst (l.map f)) (.lst (l.map g)) = some true
  | [], _ => rfl
  | a :: l, h => eqQ_cons (h a (by simp)) (eqQ_maps l fun b hb => h b (by simp [hb]))
end HB

set_option Elab.async false
set_option linter.all false
set_option maxRecDepth 100000
set_option maxHeartbeats 1000000
/-! HC, part k: a call by value that looks deeper into what it gets. -/
namespace HB
open PySem PySem.Spec PyProof.Rows L2
def fW (F : List Dt → Sto → Option (Dt × Sto)) : List Dt → Option Dt := fun ds => (F ds []).bind fun x => deref x.2 100 x.1
theorem fW_of {F : List Dt → Sto → Option (Dt × Sto)} {ds : List Dt} {x d : Dt} {st1 : Sto} (h : F ds [] = some (x, st1)) (h2 : deref st1 100 x = some d) : fW F ds = some d := by unfold fW; rw [h]; exact h2
section
variable {T : List (Addr × Str)} {P : Program} {w : World} {K : PySem.W.Frag} {mg : Str → Option Value} {base : Heap} {k n : Nat} {f : Addr} {fd : FuncData} {ps : List Str} {F : List Dt → Sto → Option (Dt × Sto)}
theorem gfn_W (G : GFn P w K mg base k f fd ps (SpF T n F)) : GFn P w K mg base k f fd ps (SpF T n (liftV (fW F))) := by
  refine G.imp fun vs H Q h => ?_
  obtain ⟨Z, L, st, ds, d, st', hl, wd, dn, hF, q⟩ := h
  unfold liftV at hF
  split at hF
  case isFalse => cases hF
  case isTrue hn =>
  obtain ⟨d1, e1, e2⟩ := Option.map_eq_some_iff.mp hF
  cases e2
  obtain ⟨⟨d0, st0⟩, e3, e4⟩ := bind_some' e1
  refine ⟨Bad Z L st, [], [], ds, d0, st0, hl, wd.inner, by rw [bad_inner]; exact dn.anyL hn, e3, fun v H' L' ff p => ?_⟩
  exact q v H' L (wd.outer ff) (deref_ok ff.wd e4 (p.mono fun b z => .inl z))
end
end HB

set_option Elab.async false
set_option linter.all false
set_option maxRecDepth 100000
set_option maxHeartbeats 1000000
/-! HC, part l: x *= e of ints. -/
namespace HB
open PySem PySem.Spec PyProof.Rows L2
def ipMul : TIp := fun x y H Q => ∃ i j, x = .int i ∧ y = .int j ∧ CMul i j ∧ Q (.int (i * j)) H
theorem ip_mul {X : Cx} : PIp X .Mult ipMul := by
  intro pins s σ H x y v u Q I r1 r2 h
  obtain ⟨i, j, e1, e2, hc, q⟩ := h
  subst e1; subst e2
  obtain ⟨t, rfl⟩ := r1
  obtain ⟨t', rfl⟩ := r2
  exact imul_int ⟨.int _, H, I.tok _, ⟨_, rfl⟩, q⟩ hc.ok
section
variable {T : List (Addr × Str)}
theorem sim_augM {i : Nat} {ta : TE} {fa : SE} (ha : SimE T ta fa) : SimS T (tAug i ta ipMul) (sAug i (gI cMul fun i j => i * j) fa) := by
  intro Z L st H s r o D w e h q
  unfold sAug at h
  split at h
  · rename_i d hd
    obtain ⟨⟨dy, st1⟩, h1, h⟩ := bind_some' h
    obtain ⟨⟨dz, st2⟩, h2, h3⟩ := Option.map_eq_some_iff.mp h
    cases h3
    obtain ⟨v, hv, pv⟩ := e.2 i _ hd
    refine ⟨v, hv, ha Z L st H s r dy st1 _ w e h1 fun y H1 L1 f1 p1 => ?_⟩
    cases d with
    | int a =>
      cases dy with
      | int b =>
        unfold gI at h2
        dsimp only at h2
        split at h2
        · rename_i hc
          cases h2
          refine ⟨a, b, den_int pv, den_int p1, cMul_ok hc, ?_⟩
          exact q _ H1 L1 f1 ((e.keep f1).set i Den.int)
        · cases h2
      | _ => cases h2
    | _ => cases h2
  · cases h
variable {X : Cx} {e : Expr} {fa : SE} {pos : Pos}
theorem jsAugM {i : Nat} {x : Str} {p2 : Pos} (hN : X.N.Nodup) (he : PE X e (rE T fa)) (hi : X.N[i]? = some x := by rfl) (hx : Loc X.env.scope x := by first | exact Or.inl rfl | exact Or.inr rfl) (hf : X.fn x = true ∨ X.env.scope.names.lookup x = some .local := by first | exact .inl rfl | exact .inr rfl) :
    PS X (.AugAssign (.Name x p2) .Mult e pos) (rS T (sAug i (gI cMul fun i j => i * j) fa)) := toS (ps_aug hN hi hx he ip_mul hf) (sim_augM sE)
end
end HB

set_option Elab.async false
set_option linter.all false
set_option maxRecDepth 100000
set_option maxHeartbeats 1000000
/-! HC, part m: zip of two lists. -/
namespace HB
open PySem PySem.Spec PyProof.Rows L2
def zipP (ds es : List Dt) : List Dt := (ds.zip es).map fun x => .tup [x.1, x.2]
def zipL : List Dt → Option (List Dt)
  | [.lst ds, .lst es] => some (zipP ds es)
  | _ => none
section
variable {T : List (Addr × Str)} {K : PySem.W.Frag}
theorem sim_zip {ta : TA} {f : SA} (hf : SimA T ta f) : SimI T (iZip K ta) (iR zipL f) := by
  intro Z L st H s r xs st' Q w e h q
  obtain ⟨⟨dx, st1⟩, h1, h2⟩ := bind_some' h
  obtain ⟨ys, h3, h4⟩ := Option.map_eq_some_iff.mp h2
  cases h4
  refine hf Z L st H s r dx _ _ w e h1 fun vs0 H1 L1 f1 p1 => ?_
  dsimp only at h3
  unfold zipL at h3
  split at h3
  · rename_i ds es
    cases h3
    obtain ⟨v, u, rfl, p, p'⟩ := dens2 p1
    unfold Den at p p'
    obtain ⟨a, vs, rfl, nb, ea, t⟩ := p
    obtain ⟨b, us, rfl, nb', eb, t'⟩ := p'
    refine ⟨a, b, vs, us, rfl, SqL.of ea, SqL.of eb, q _ H1 L1 f1 fun Z2 L2 st2 H2 f2 => ?_⟩
    have ea2 : H2 a = some (.lst vs) := f2.kp a _ ea (fun z => nb (.inr z)) (fun ps z => by cases z)
    have eb2 : H2 b = some (.lst us) := f2.kp b _ eb (fun z => nb' (.inr z)) (fun ps z => by cases z)
    have t2 := t.keep f2
    have t2' := t'.keep f2
    have wk := walk_zip (K := K) (a := a) (b := b) (xs := vs) (ys := us) (n := min vs.length us.length) rfl
    refine ⟨?_, fun i d hd => ?_⟩
    · have : (zipP ds es).length = min vs.length us.length := by unfold zipP; simp [t.len, t'.len]
      rw [this]
      exact wk.stops H2 ⟨SqL.of ea2, SqL.of eb2⟩
    · unfold zipP at hd
      rw [List.getElem?_map] at hd
      obtain ⟨⟨d0, d1⟩, hj, rfl⟩ := Option.map_eq_some_iff.mp hd
      obtain ⟨hd0, hd1⟩ := List.getElem?_zip_eq_some.mp hj
      obtain ⟨v, hv, pv⟩ := t2.get hd0
      obtain ⟨u, hu, pu⟩ := t2'.get hd1
      have hi : i < min vs.length us.length := by
        have := (List.getElem?_eq_some_iff.mp hv).1
        have := (List.getElem?_eq_some_iff.mp hu).1
        omega
      refine ⟨wk.goes i H2 hi ⟨SqL.of ea2, SqL.of eb2⟩, fun x H3 y => ?_⟩
      obtain ⟨TT, x1, y1, rfl, nT, rfl, hx1, hy1⟩ := wk.yields i H2 x H3 hi ⟨SqL.of ea2, SqL.of eb2⟩ y
      have hx1 : vs[i]? = some x1 := hx1
      have hy1 : us[i]? = some y1 := hy1
      rw [hv] at hx1
      rw [hu] at hy1
      cases hx1
      cases hy1
      exact ⟨.new f2.wd nT, .newT f2.wd nT (.cons pv (.cons pu .nil))⟩
  · cases h3
variable {X : Cx} {e e2 : Expr} {fs : SA} {pos : Pos}
theorem jiZip {p tpos : Pos} {elts : List Expr} {kk : Nat} (hg : Gl X "zip") (hm : X.mg "zip" = none) (ha : PA X [e, e2] (rA T fs)) (hs : starEach [e, e2] X.env = (false, eval e X.env) :: starEach [e2] X.env := by rfl) (hpl : (backTo pos (starEach [e2] X.env)).any (·.1) = false := by rfl) :
    PI X (.Tuple elts kk tpos) (.Call (.Name "zip" p) [e, e2] [] pos) (rI T (iR zipL fs)) := toI (pi_zip hg hm ha hs hpl) (sim_zip sA)
end
end HB

set_option Elab.async false
set_option linter.all false
set_option maxRecDepth 100000
set_option maxHeartbeats 1000000
/-! HC, part n: a call that changes its first argument and looks deeper; slices of tuples; for over zip of a live list. -/
namespace HB
open PySem PySem.Spec PyProof.Rows L2
def fX (F : List Dt → Sto → Option (Dt × Sto)) : Dt → List Dt → Option (Dt × Dt) := fun c ds => (F (.ref 0 :: ds) [some c]).bind fun x => match x.2[0]? with
  | some (some c') => if noRef c' = true then (deref (x.2.set 0 none) 100 x.1).map fun d => (d, c') else none
  | _ => none
theorem fX_of {F : List Dt → Sto → Option (Dt × Sto)} {ds : List Dt} {st1 : Sto} {x d c c' : Dt} (h : F (.ref 0 :: ds) [some c] = some (x, st1)) (h0 : st1[0]? = some (some c')) (hn : noRef c' = true) (hx : deref (st1.set 0 none) 100 x = some d) : fX F c ds = some (d, c') := by
  unfold fX
  rw [h]
  show (match st1[0]? with
    | some (some c') => if noRef c' = true then (deref (st1.set 0 none) 100 x).map fun d => (d, c') else none
    | _ => none) = _
  rw [h0]
  show (if noRef c' = true then _ else none) = _
  rw [if_pos hn, hx]
  rfl
section
variable {T : List (Addr × Str)} {P : Program} {w : World} {K : PySem.W.Frag} {mg : Str → Option Value} {base : Heap} {k n : Nat} {f : Addr} {fd : FuncData} {ps : List Str} {F : List Dt → Sto → Option (Dt × Sto)}
theorem gfn_X (G : GFn P w K mg base k f fd ps (SpF T n F)) : GFn P w K mg base k f fd ps (SpF T n (liftE (fX F))) := by
  refine G.imp fun vs H Q h => ?_
  obtain ⟨Z, L, st, ds, d, st', hl, wd, dn, hF, q⟩ := h
  unfold liftE at hF
  split at hF
  case h_2 => cases hF
  case h_1 k ds =>
  split at hF
  case isFalse => cases hF
  case isTrue hn =>
  split at hF
  case h_2 => cases hF
  case h_1 c hc =>
  split at hF
  case isFalse => cases hF
  case isTrue hnc =>
  obtain ⟨⟨d1, c1⟩, e1, e2⟩ := Option.map_eq_some_iff.mp hF
  cases e2
  obtain ⟨⟨d0, st0⟩, e3, e4⟩ := bind_some' e1
  obtain ⟨v0, us, rfl, p0, dn'⟩ := dn.uncons
  unfold Den at p0
  obtain ⟨a, ka, rfl⟩ := p0
  have la : Liv L st a := ⟨k, c, ka, hc⟩
  obtain ⟨nza, oa, ea, qa⟩ := wd.own k a c ka hc
  have ta : ∀ xs, oa ≠ .tup xs := fun xs z => by
    rcases qa.kind with ⟨ys, y⟩ | ⟨kvs, y⟩ <;> (rw [y] at z; cases z)
  let Z1 : Addr → Prop := fun b => Bad Z L st b ∧ b ≠ a
  have l1 : ∀ b, Liv [a] [some c] b ↔ b = a := fun b => by
    constructor
    · rintro ⟨j, x, j1, j2⟩
      cases j with
      | zero => simp at j1; exact j1.symm
      | succ j => simp at j1
    · rintro rfl
      exact ⟨0, c, rfl, rfl⟩
  have b1 : ∀ b, Bad Z1 [a] [some c] b → Bad Z L st b := fun b z => by
    rcases z with z | z
    · exact z.1
    · rw [(l1 b).mp z]; exact .inr la
  have w1 : Wd T Z1 [a] [some c] H := by
    refine ⟨wd.tabs, rfl, fun i j b x y a1 a2 _ _ => ?_, fun j b x a1 a2 => ?_, fun b z => z.1.elim (wd.zt b) wd.livTrk⟩
    · cases i with
      | zero =>
        cases j with
        | zero => rfl
        | succ j => simp at a2
      | succ i => simp at a1
    · cases j with
      | zero =>
        simp at a1 a2
        subst a1; subst a2
        exact ⟨fun z => z.2 rfl, oa, ea, (qa.imp fun ds vs t => t.mono b1).anyL hnc⟩
      | succ j => simp at a1
  have da : Dens [a] (Bad Z1 [a] [some c]) H (.ref 0 :: ds) (.ref a :: us) := by
    refine .cons ?_ ((dn'.mono b1).anyL hn)
    unfold Den
    exact ⟨a, rfl, rfl⟩
  refine ⟨Z1, [a], [some c], .ref 0 :: ds, d0, st0, hl, w1, da, e3, fun v H' L' ff p => ?_⟩
  dsimp only at e4
  split at e4
  case h_2 => cases e4
  case h_1 c' hc' =>
  split at e4
  case isFalse => cases e4
  case isTrue hnc' =>
  obtain ⟨d2, e5, e6⟩ := Option.map_eq_some_iff.mp e4
  cases e6
  have a0 : L'[0]? = some a := ff.ix rfl
  have lst : ∀ b, Liv L (st.set k (some c1)) b → Liv L st b := fun b ⟨j, x, j1, j2⟩ => by
    by_cases hj : k = j
    · subst hj
      rw [ka] at j1; cases j1
      exact la
    · rw [List.getElem?_set_ne hj] at j2
      exact ⟨j, x, j1, j2⟩
  have bz : ∀ b, Bad Z L (st.set k (some c1)) b → zAnd Z1 a b := fun b z => by
    by_cases hb : b = a
    · exact .inr hb
    · exact .inl ⟨z.elim .inl fun z => .inr (lst b z), hb⟩
  have bz2 : ∀ b, zAnd Z1 a b → Bad Z1 L' st0 b := fun b z => by
    rcases z with z | z
    · exact .inl z
    · rw [z]; exact .inr ⟨0, c1, a0, hc'⟩
  have stay : ∀ b u, b ≠ a → H b = some u → (∀ ps, u ≠ .tbl ps) → H' b = some u := fun b u nb e nt => ff.kp b u e (fun z => nb ((l1 b).mp z)) nt
  have bs : ∀ b, Bad Z L (st.set k (some c1)) b → Bad Z L st b := fun b z => z.elim .inl fun z => .inr (lst b z)
  have trD : ∀ ds vs, Dens L (Bad Z L st) H ds vs → Dens L (Bad Z L (st.set k (some c1))) H' ds vs := fun ds vs t =>
    (t.stayB fun b u e nt z => stay b u (fun y => by
      rcases z with ⟨xs, z⟩ | z
      · subst y; rw [ea] at e; cases e; exact ta xs z
      · exact z (by rw [y]; exact .inr la)) e nt).mono bs
  have hlt : k < st.length := (List.getElem?_eq_some_iff.mp hc).1
  refine q v H' L ⟨⟨ff.wd.tabs, by rw [List.length_set]; exact wd.len, fun i j b x y a1 a2 a3 a4 => ?_, fun j b x a1 a2 => ?_, fun b z => ff.trk b (wd.zt b z)⟩, ⟨[], by simp⟩, fun b u e nl nt => stay b u (fun y => nl (by rw [y]; exact la)) e nt, fun b z => .inl (lst b z), ff.trk, ff.tp, fun j b h e => absurd (List.getElem?_eq_some_iff.mp e).1 (by omega), fun b z => .inl z⟩ ?_
  · have g : ∀ (i : Nat) x, L[i]? = some b → (st.set k (some c1))[i]? = some (some x) → ∃ x', st[i]? = some (some x') := fun i x g1 g2 => by
      by_cases hj : k = i
      · subst hj; exact ⟨c, hc⟩
      · rw [List.getElem?_set_ne hj] at g2; exact ⟨x, g2⟩
    obtain ⟨x', g1⟩ := g i x a1 a3
    obtain ⟨y', g2⟩ := g j y a2 a4
    exact wd.inj i j b x' y' a1 a2 g1 g2
  · by_cases hj : k = j
    · subst hj
      rw [ka] at a1; cases a1
      rw [List.getElem?_set_self hlt] at a2
      cases a2
      obtain ⟨_, o, eo, qo⟩ := ff.wd.own 0 a c1 a0 hc'
      exact ⟨nza, o, eo, (qo.imp fun ds vs t => t.mono fun b z => bz2 b (bz b z)).anyL hnc'⟩
    · rw [List.getElem?_set_ne hj] at a2
      obtain ⟨nz, o, eo, qo⟩ := wd.own j b x a1 a2
      have nb : b ≠ a := fun y => by
        subst y
        exact hj (wd.inj k j b c x ka a1 hc a2)
      refine ⟨nz, o, stay b o nb eo fun ps z => ?_, qo.imp trD⟩
      rcases qo.kind with ⟨ys, y⟩ | ⟨kvs, y⟩ <;> (rw [y] at z; cases z)
  · obtain ⟨wz, _⟩ := ff.wd.toZ a0 hc'
    exact (deref_ok (L0 := L) wz e5 (p.mono bz2)).mono bz
end
/-! ### slices of tuples -/
def gSlT (x : Dt) (lo hi : Option Int) : Option Dt := match x with
  | .tup ds => if HT.sIx ds.length 0 lo = 0 ∧ HT.sIx ds.length ds.length hi = ds.length then none else some (.tup (cutL ds lo hi))
  | _ => none
def eSlT (f : SE) (l h : SO) : SE := fun r st => (f r st).bind fun x => (l r x.2).bind fun a => (h r a.2).bind fun b => (gSlT x.1 a.1 b.1).map fun d => (d, b.2)
section
variable {T : List (Addr × Str)} {K : PySem.W.Frag}
theorem sim_slT {te : TE} {tl th : TO} {f : SE} {l h : SO} (hf : SimE T te f) (hl : SimO T tl l) (hh : SimO T th h) : SimE T (tSl (rSlT K) te tl th) (eSlT f l h) := by
  intro Z L st H s r d st' Q w e hq q
  obtain ⟨⟨dx, st1⟩, h1, hq⟩ := bind_some' hq
  obtain ⟨⟨lo, st2⟩, h2, hq⟩ := bind_some' hq
  obtain ⟨⟨hi, st3⟩, h3, hq⟩ := bind_some' hq
  obtain ⟨d', h4, h5⟩ := Option.map_eq_some_iff.mp hq
  cases h5
  refine hf Z L st H s r dx st1 _ w e h1 fun x H1 L1 f1 p1 => ?_
  refine hl Z L1 st1 H1 s r lo st2 _ f1.wd (e.keep f1) h2 fun H2 L2 f2 => ?_
  refine hh Z L2 st2 H2 s r hi st3 _ f2.wd ((e.keep f1).keep f2) h3 fun H3 L3 f3 => ?_
  have p3 := (p1.keep f2).keep f3
  have fa := f1.trans (f2.trans f3)
  dsimp only at h4
  cases dx with
  | tup ds =>
    unfold gSlT at h4
    dsimp only at h4
    split at h4
    · cases h4
    · rename_i hw
      cases h4
      unfold Den at p3
      obtain ⟨a, vs, rfl, ea, t⟩ := p3
      refine ⟨a, vs, rfl, SqT.of ea, by rw [← t.len]; exact hw, fun p np => q _ _ L3 (fa.trans (.new f3.wd np)) ?_⟩
      refine .newT f3.wd np ?_
      show Dens _ _ _ (cutL ds lo hi) (cutV vs lo hi)
      unfold cutL cutV
      rw [t.len]
      exact (t.drop _).take _
  | _ => cases h4
variable {X : Cx} {e : Expr} {fa : SE} {pos : Pos}
theorem jSlT {lo hi : Option Expr} {fl fh : SO} {p2 : Pos} (he : PE X e (rE T fa)) (hl : PO X lo (rO T fl)) (hh : PO X hi (rO T fh)) : PE X (.Subscript e (.Slice lo hi none p2) pos) (rE T (eSlT fa fl fh)) := toE (pe_slice sl_tup he hl hh) (sim_slT sE sO sO)
end
/-! ### for over zip(live list, list) -/
def nxZ (k : Nat) (es : List Dt) (i : Nat) (st : Sto) : Option (Option Dt) := match st[k]? with
  | some (some (.lst ds)) => some (match ds[i]?, es[i]? with
    | some d, some e => some (.tup [d, e])
    | _, _ => none)
  | _ => none
def sForNx (nx : Nat → Sto → Option (Option Dt)) (k : SG) (g : SS) : Nat → Nat → SS
  | 0, _ => fun _ _ => none
  | n + 1, i => fun r st => (nx i st).bind fun o => match o with
    | none => some (.nx r st)
    | some x => (k x r).bind fun r1 => (g r1 st).bind fun o => match o with
      | .nx r' st' => sForNx nx k g n (i + 1) r' st'
      | .ct r' st' => sForNx nx k g n (i + 1) r' st'
      | .bk r' st' => some (.nx r' st')
      | .rt d st' => some (.rt d st')
def sForZ (f : SA) (k : SG) (g : SS) (n : Nat) : SS := fun r st => (f r st).bind fun x => match x.1 with
  | [.ref a, .lst es] => sForNx (nxZ a es) k g n 0 r x.2
  | _ => none
section
variable {T : List (Addr × Str)} {K : PySem.W.Frag}
theorem sim_forZ {is : List Nat} {ta : TA} {f : SA} {g : TG} {k : SG} {tb : TS} {gb : SS} {n : Nat} (hf : SimA T ta f) (hg : SimG T is g k) (hb : SimS T tb gb) : SimS T (tFor (iZip K ta) g tb) (sForZ f k gb n) := by
  intro Z L st H s r o D w e h q
  obtain ⟨⟨xs, st1⟩, a1, h⟩ := bind_some' h
  dsimp only at h
  split at h
  case h_2 => cases h
  case h_1 ka es =>
  refine hf Z L st H s r _ st1 _ w e a1 fun vs0 H1 L1 f1 p1 => ?_
  obtain ⟨v, u, rfl, p, p'⟩ := dens2 p1
  unfold Den at p p'
  obtain ⟨a, la, rfl⟩ := p
  obtain ⟨b, us, rfl, nb, eb, t'⟩ := p'
  -- at every later world
  have key : ∀ L2 st2 H2, Af T Z L1 st1 H1 L2 st2 H2 → ∀ ds, st2[ka]? = some (some (.lst ds)) → ∃ vs, SqL K H2 a vs ∧ SqL K H2 b us ∧ Dens L2 (Bad Z L2 st2) H2 ds vs ∧ Dens L2 (Bad Z L2 st2) H2 es us := fun L2 st2 H2 f2 ds hd => by
    have la2 : L2[ka]? = some a := f2.ix la
    obtain ⟨_, oa, ea, qa⟩ := f2.wd.own ka a _ la2 hd
    obtain ⟨vs, rfl, t⟩ := qa
    have eb2 : H2 b = some (.lst us) := f2.kp b _ eb (fun z => nb (.inr z)) (fun ps z => by cases z)
    exact ⟨vs, SqL.of ea, SqL.of eb2, t, t'.keep f2⟩
  have live0 : ∃ ds, st1[ka]? = some (some (.lst ds)) := by
    cases n with
    | zero => cases h
    | succ n =>
      obtain ⟨o1, b1, _⟩ := bind_some' h
      unfold nxZ at b1
      split at b1
      · rename_i ds hd; exact ⟨ds, hd⟩
      · cases b1
  obtain ⟨ds0, hd0⟩ := live0
  obtain ⟨vs, q1, q2, _, _⟩ := key L1 st1 H1 (.refl f1.wd) ds0 hd0
  refine ⟨a, b, vs, us, rfl, q1, q2, ?_⟩
  refine ⟨fun i m s2 H2 => ∃ L2 st2 r2, Af T Z L1 st1 H1 L2 st2 H2 ∧ EnvOk L2 (Bad Z L2 st2) H2 r2 s2 ∧ sForNx (nxZ ka es) k gb m i r2 st2 = some o,
    ⟨n, L1, st1, r, .refl f1.wd, e.keep f1, h⟩, ?_⟩
  rintro i m s2 H2 ⟨L2, st2, r2, f2, e2, h2⟩
  cases m with
  | zero => cases h2
  | succ m =>
    obtain ⟨o1, c1, c2⟩ := bind_some' h2
    unfold nxZ at c1
    split at c1
    case h_2 => cases c1
    case h_1 ds hd =>
    cases c1
    obtain ⟨vs, q1, q2, t, t2⟩ := key L2 st2 H2 f2 ds hd
    cases hdi : ds[i]? with
    | none =>
      left
      rw [hdi] at c2
      cases c2
      refine ⟨⟨vs, us, q1, q2, .inl ?_⟩, q s2 H2 L2 (f1.trans f2) e2⟩
      rw [← t.len]
      exact List.getElem?_eq_none_iff.mp hdi
    | some d =>
      cases hei : es[i]? with
      | none =>
        left
        rw [hdi, hei] at c2
        cases c2
        refine ⟨⟨vs, us, q1, q2, .inr ?_⟩, q s2 H2 L2 (f1.trans f2) e2⟩
        rw [← t2.len]
        exact List.getElem?_eq_none_iff.mp hei
      | some d' =>
        right
        rw [hdi, hei] at c2
        dsimp only at c2
        obtain ⟨v, hv, pv⟩ := t.get hdi
        obtain ⟨u, hu, pu⟩ := t2.get hei
        refine ⟨⟨vs, us, v, u, q1, q2, hv, hu⟩, fun s5 H5 => ∃ L5 st5 r5, Af T Z L1 st1 H1 L5 st5 H5 ∧ EnvOk L5 (Bad Z L5 st5) H5 r5 s5 ∧ sForNx (nxZ ka es) k gb m (i + 1) r5 st5 = some o, fun s5 H5 x => ⟨m, by omega, x⟩, fun x H3 y => ?_⟩
        obtain ⟨TT, x1, y1, rfl, nT, rfl, hx1, hy1⟩ := y
        have hx1 := hx1 vs q1
        have hy1 := hy1 us q2
        rw [hv] at hx1
        rw [hu] at hy1
        cases hx1
        cases hy1
        have f3 : Af T Z L2 st2 H2 L2 st2 (upd H2 TT (.tup [v, u])) := .new f2.wd nT
        have p3 : Den L2 (Bad Z L2 st2) (upd H2 TT (.tup [v, u])) (.tup [d, d']) (.ref TT) := .newT f2.wd nT (.cons pv (.cons pu .nil))
        obtain ⟨r3, b1, b2⟩ := bind_some' c2
        obtain ⟨o2, b3, b4⟩ := bind_some' b2
        refine hg Z L2 st2 _ s2 r2 _ _ r3 _ f3.wd (e2.keep f3) p3 b1 fun s3 e3 _ => ?_
        refine hb Z L2 st2 _ s3 r3 o2 _ f3.wd e3 b3 ?_
        cases o2 with
        | nx r' st' => exact fun s4 H4 L4 f4 e4 => ⟨L4, st', r', f2.trans (f3.trans f4), e4, b4⟩
        | ct r' st' => exact fun s4 H4 L4 f4 e4 => ⟨L4, st', r', f2.trans (f3.trans f4), e4, b4⟩
        | bk r' st' => cases b4; exact fun s4 H4 L4 f4 e4 => q s4 H4 L4 (f1.trans (f2.trans (f3.trans f4))) e4
        | rt d st' => cases b4; exact fun v H4 L4 f4 e4 => q v H4 L4 (f1.trans (f2.trans (f3.trans f4))) e4
variable {X : Cx} {pos : Pos} {g : SS}
theorem jsForZ (n : Nat) {a b : Expr} {elts : List Expr} {kk : Nat} {tpos p ipos : Pos} {body : List Stmt} {tgt : TG} {kt : SG} {fs : SA} {is : List Nat} (hp : PassesOwn (model X.prog X.w) X.A X.env X.xe) (hc : X.calm = true) (hk : SimG T is tgt kt) (hgz : Gl X "zip") (hm : X.mg "zip" = none) (ha : PA X [a, b] (rA T fs)) (hg : PG X (.Tuple elts kk tpos) tgt) (hb : PSs X body (rS T g))
    (hs1 : starEach [a, b] X.env = (false, eval a X.env) :: starEach [b] X.env := by rfl) (hpl : (backTo ipos (starEach [b] X.env)).any (·.1) = false := by rfl) (hs : ∀ x, foldedSetIterable (.Call (.Name "zip" p) [a, b] [] ipos) X.env x = pure x := by intro _; rfl) :
    PS X (.For (.Tuple elts kk tpos) (.Call (.Name "zip" p) [a, b] [] ipos) body [] pos) (rS T (sForZ fs kt g n)) := toS (ps_for hp hc (pi_zip hgz hm ha hs1 hpl) hg hb hs) (sim_forZ sA hk sS)
end
/-! ### d.get(k, x) -/
def eGet2 (fd fk fx : SE) : SE := fun r st => (fd r st).bind fun x => (asD x.2 x.1).bind fun _ => (fk r x.2).bind fun y => (fx r y.2).bind fun z => (asD z.2 x.1).bind fun p => (keyD y.1).map fun k => ((pGet k p.1 p.2).getD z.1, z.2)
section
variable {T : List (Addr × Str)}
theorem sim_get2 {td ty tx : TE} {fd fk fx : SE} (hd : SimE T td fd) (hk : SimE T ty fk) (hx : SimE T tx fx) : SimE T (tDGet2 td ty tx) (eGet2 fd fk fx) := by
  intro Z L st H s r d st' Q w e h q
  obtain ⟨⟨dx, st1⟩, h1, h⟩ := bind_some' h
  obtain ⟨⟨ks0, ds0⟩, g1, h⟩ := bind_some' h
  obtain ⟨⟨dy, st2⟩, h2, h⟩ := bind_some' h
  obtain ⟨⟨dz, st3⟩, h3, h⟩ := bind_some' h
  obtain ⟨⟨ks, ds⟩, g2, h⟩ := bind_some' h
  obtain ⟨k, g3, h5⟩ := Option.map_eq_some_iff.mp h
  cases h5
  refine hd Z L st H s r dx st1 _ w e h1 fun x H1 L1 f1 p1 => ?_
  obtain ⟨a, vs0, rfl, ea0, _, _⟩ := asD_ok f1.wd p1 g1
  refine ⟨a, rfl, .inl ⟨_, ea0⟩, ?_⟩
  refine hk Z L1 st1 H1 s r dy st2 _ f1.wd (e.keep f1) h2 fun y H2 L2 f2 p2 => ?_
  refine hx Z L2 st2 H2 s r dz st3 _ f2.wd ((e.keep f1).keep f2) h3 fun z H3 L3 f3 p3 => ?_
  obtain ⟨a', vs, ea', ea, el, t⟩ := asD_ok f3.wd ((p1.keep f2).keep f3) g2
  cases ea'
  refine ⟨pGet k ks vs, .inl ⟨_, k, ea, keyD_ok p2 g3, (pGet_val k ks vs).symm⟩, q _ H3 L3 (f1.trans (f2.trans f3)) ?_⟩
  rcases t.pGet k (ks := ks) with ⟨z1, z2⟩ | ⟨d2, v, z1, z2, z3⟩
  · rw [z1, z2]; exact p3
  · rw [z1, z2]; exact z3
variable {X : Cx} {o e f : Expr} {apos cpos : Pos} {fd fk fx : SE}
theorem jGet2 (hu : X.A.units + 64 < cLine) (ho : PE X o (rE T fd)) (he : PE X e (rE T fk)) (hf : PE X f (rE T fx)) (hbase : attributeBase o "get" X.env (eval o X.env) = eval o X.env := by rfl)
    (hfew : ((backTo cpos (starEach [e, f] X.env)).all (fun x => !x.1) && (backToKw cpos (keywordEach [] X.env)).all (fun x => x.1.isSome) && decide (([e, f] : List Expr).length + ([] : List Keyword).length + (if ([] : List Keyword).isEmpty then 0 else 1) < 30)) = true := by rfl)
    (hline : (apos.endLine == cpos.line) = true := by rfl) (htr : backTo cpos (starEach [e, f] X.env) = [(false, eval e X.env), (false, eval f X.env)] := by rfl) :
    PE X (.Call (.Attribute o "get" apos) [e, f] [] cpos) (rE T (eGet2 fd fk fx)) := toE (pe_dget2 (by omega) ho he hf ⟨hbase, hfew, hline, htr⟩) (sim_get2 sE sE sE)
end
end HB

set_option Elab.async false
set_option linter.all false
set_option maxRecDepth 100000
set_option maxHeartbeats 1000000
/-! HC, part o: int of an int or a bool. -/
namespace HB
open PySem PySem.Spec PyProof.Rows L2
def gIntB (st : Sto) (xs : List Dt) : Option (Dt × Sto) := match xs with
  | [.int i] => some (.int i, st)
  | [.bl k] => some (.int (if k = true then 1 else 0), st)
  | _ => none
section
variable {T : List (Addr × Str)}
theorem vo_intB : VON T (fun xs H Q => (∃ i, xs = [.int i] ∧ Q (.int i) H) ∨ ∃ k, xs = [.bl k] ∧ Q (.int (if k then 1 else 0)) H) gIntB := by
  intro Z L st H xs dxs d st' Q w hx h q
  unfold gIntB at h
  split at h
  · cases h
    obtain ⟨v, rfl, p⟩ := dens1 hx
    exact .inl ⟨_, by rw [den_int p], q _ H L (.refl w) Den.int⟩
  · cases h
    obtain ⟨v, rfl, p⟩ := dens1 hx
    exact .inr ⟨_, by rw [den_bl p], q _ H L (.refl w) Den.int⟩
  · cases h
end
end HB

set_option Elab.async false
set_option linter.all false
set_option maxRecDepth 100000
set_option maxHeartbeats 1000000
/-! HC, part p: sum(lists, []). -/
namespace PySem
theorem F_args_sum2 (a b : Value) : argsOk "sum" ⟨[a, b], []⟩ := by unfold argsOk; kernel_rfl
/-- the first i of some lists, joined -/
def accL (its : Nat → Array Value) : Nat → Array Value
  | 0 => #[]
  | i + 1 => accL its i ++ its i
section
variable {prog : Program} {w : World} {A : Around} {R : Result → Shared → Prop} {I ax S : Addr} {items : Array Value}
theorem codeAny_sumL_loop (hh : A.in1.handled = none) (hne : ax ≠ I) (its : Nat → Array Value) (hSI : S ≠ I) (hSa : S ≠ ax) (hsz : ∀ i, i ≤ items.size → (accL its i).size ≤ sizeLine) :
    ∀ (k i : Nat) (s : Shared) (T : Addr) (c cT : Nat), items.size - i = k → i ≤ items.size → (s.heap.IsListIter I ax i ∧ s.heap.IsList ax items) → IsL s.heap S #[.ref T] c → IsL s.heap T (accL its i) cT → T ≠ S → T ≠ I →
    (∀ j v, j < items.size → items[j]? = some v → ∃ l cl, v = .ref l ∧ l ≠ I ∧ l ≠ S ∧ IsL s.heap l (its j) cl) →
    (∀ h' tk T' c', (∀ b o, b ≠ I → b ≠ S → s.heap.get? b = some o → h'.get? b = some o) → IsL h' T' (accL its items.size) c' → (i = items.size ∧ T' = T ∨ i < items.size ∧ I < T') → R (.ok (.ret (.ref T'))) { s with heap := h', toks := tk }) →
    codeAny (model prog w) A (.builtin "sum.loop" ⟨[.ref I, .ref S, rawInt 2, rawInt 0], []⟩) R s := by
  intro k
  induction k with
  | zero =>
    intro i s T c cT hk hi hst hS hT hTS hTI hsub hR
    have hin : i = items.size := by omega
    subst hin
    refine codeAny_builtin F.entry_sum_loop ?_
    rw [Around.under_plainId F.plain_sum_loop _]
    show wpAny _ A.in1 (seqItems? (.ref S) >>= _) _ _ s
    refine wpAny_bind (wpAny_seqItems hS rfl ?_)
    show wpAny _ A.in1 (tryCatch (pyNext (.ref I)) _ >>= _) _ _ s
    refine wpAny_bind (wpAny_tryCatch ((Walks.list (prog := prog) (w := w) hh I ax hne items).done s _ _ hst fun h' tk hk' => ?_))
    exact wpAny_pure (hR h' tk T cT (fun b o hb _ e => hk' b o (by simpa using hb) e) (hk' T _ (by simpa using hTI) hT) (.inl ⟨rfl, rfl⟩))
  | succ k ih =>
    intro i s T c cT hk hi hst hS hT hTS hTI hsub hR
    have hlt : i < items.size := by omega
    refine codeAny_builtin F.entry_sum_loop ?_
    rw [Around.under_plainId F.plain_sum_loop _]
    show wpAny _ A.in1 (seqItems? (.ref S) >>= _) _ _ s
    refine wpAny_bind (wpAny_seqItems hS rfl ?_)
    show wpAny _ A.in1 (tryCatch (pyNext (.ref I)) _ >>= _) _ _ s
    refine wpAny_bind (wpAny_tryCatch ((Walks.list (prog := prog) (w := w) hh I ax hne items).item i s _ _ hlt hst fun v h' tk hP hst' hk' => ?_))
    obtain ⟨l, cl, rfl, hlI, hlS, hl⟩ := hsub i v hlt hP
    have keep1 : ∀ b o, b ≠ I → s.heap.get? b = some o → h'.get? b = some o := fun b o hb e => hk' b o (by simpa using hb) e
    have hT' : IsL h' T (accL its i) cT := keep1 T _ hTI hT
    have hl' : IsL h' l (its i) cl := keep1 l _ hlI hl
    have hS' : IsL h' S #[.ref T] c := keep1 S _ hSI hS
    show wpAny _ A.in1 ((holding [Value.ref l] (binaryOp .Add (.ref T) (.ref l))).attempt >>= _) _ _ _
    have hsz1 : (accL its i).size + (its i).size ≤ sizeLine := by
      have := hsz (i + 1) hlt
      unfold accL at this
      rw [Array.size_append] at this
      exact this
    refine wpAny_bind (wpAny_attempt (wpAny_holding (P.add_list (s := { s with heap := h', toks := tk }) hT' hl' ?_ hsz1)))
    let T2 : Addr := h'.objs.size
    let h2 : Heap := h'.push { cls := .type "list", data := .seq (accL its i ++ its i) }
    have kp2 : ∀ b o, h'.get? b = some o → h2.get? b = some o := fun b o e => Heap.get?_push_of_some _ e
    have hT2 : IsL h2 T2 (accL its (i + 1)) 0 := Heap.get?_push_size _ rfl
    have hS2 : IsL h2 S #[.ref T] c := kp2 S _ hS'
    have hST2 : T2 ≠ S := fun z => Nat.lt_irrefl _ (z ▸ Heap.lt_size hS')
    have hIT2 : T2 ≠ I := fun z => by
      obtain ⟨⟨o', h1, _⟩, _⟩ := hst'
      exact Nat.lt_irrefl _ (z ▸ Heap.lt_size h1)
    have hN : I < T2 := by
      obtain ⟨⟨o', h1, _⟩, _⟩ := hst'
      exact Heap.lt_size h1
    show wpAny _ A.in1 (updateSeq S (fun _ => #[.ref T2]) >>= _) _ _ _
    refine wpAny_bind (wpAny_updateSeq hS2 rfl ?_)
    have hS3 := Heap.get?_update_self (Obj.mapSeq fun _ => #[Value.ref T2]) hS2 rfl
    refine wpAny_bind (wpAny_letGo ?_)
    refine wpAny_bind (wpAny_updateSeq hS3 rfl (wpAny_pure ⟨plainId_quiet F.plain_sum_loop _, ?_⟩))
    have kp3 : ∀ b o, b ≠ S → h2.get? b = some o → ((h2.update S (Obj.mapSeq fun _ => #[Value.ref T2])).update S (Obj.mapSeq fun _ => #[Value.ref T2])).get? b = some o := fun b o hb e =>
      (Heap.get?_update_other _ _ (fun z : S = b => hb z.symm)).trans ((Heap.get?_update_other _ _ (fun z : S = b => hb z.symm)).trans e)
    refine ih (i + 1) _ T2 _ 0 (by omega) hlt ?_ (Heap.get?_update_self _ hS3 rfl) (kp3 T2 _ hST2 hT2) hST2 hIT2 (fun j v hj hv => ?_) fun h'' tk'' T' c' hk'' hT'' hw => ?_
    · exact ⟨hst'.1.at fun o e => kp3 I o (fun z => hSI z.symm) (kp2 I o e), hst'.2.at fun o e => kp3 ax o (fun z => hSa z.symm) (kp2 ax o e)⟩
    · obtain ⟨l, cl, rfl, a, b, e⟩ := hsub j v hj hv
      exact ⟨l, cl, rfl, a, b, kp3 l _ b (kp2 l _ (keep1 l _ a e))⟩
    · refine hR h'' tk'' T' c' (fun b o hb hb2 e => hk'' b o hb hb2 (kp3 b o hb2 (kp2 b o (keep1 b o hb e)))) hT'' (.inr ⟨hlt, ?_⟩)
      rcases hw with ⟨_, rfl⟩ | ⟨_, z⟩
      · exact hN
      · exact z
end
theorem sub_list_str' : isSubtype (.type "list") (.type "str") = pure false := by rw [isSubtype_type]; kernel_rfl
theorem sub_list_bytes' : isSubtype (.type "list") (.type "bytes") = pure false := by rw [isSubtype_type]; kernel_rfl
theorem sub_list_bytearray' : isSubtype (.type "list") (.type "bytearray") = pure false := by rw [isSubtype_type]; kernel_rfl
section
variable {prog : Program} {w : World} {A : Around} {E : Value → Shared → Prop} {s : Shared} {a b : Addr} {items : Array Value} {cb : Nat} {its : Nat → Array Value}
theorem call_sumL {Q : Value → Shared → Prop} (hh : A.handled = none) (hl : s.heap.IsList a items) (hb : IsL s.heap b #[] cb) (hsub : ∀ j v, j < items.size → items[j]? = some v → ∃ l cl, v = .ref l ∧ IsL s.heap l (its j) cl) (hsz : ∀ i, i ≤ items.size → (accL its i).size ≤ sizeLine)
    (h : ∀ h' tk T c, (∀ x o, s.heap.get? x = some o → h'.get? x = some o) → IsL h' T (accL its items.size) c → (items.size = 0 ∧ T = b ∨ 0 < items.size ∧ s.heap.objs.size ≤ T) → Q (.ref T) { s with heap := h', toks := tk }) :
    wpAny (model prog w) A (call (.builtin "sum") [.ref a, .ref b]) Q E s := by
  have hlt : a < s.heap.objs.size := by obtain ⟨_, e, _⟩ := hl; exact Heap.lt_size e
  refine call_function_tree F.kind_sum F.plain_sum F.entry_sum (F_args_sum2 _ _) ?_
  unfold Builtin.«sum»
  simp only [List.length_cons, List.length_nil]
  rw [if_neg (by decide)]
  refine wpAny_bind (wpAny_of_eq (show Builtin.Builtins.bindParams "sum" ["start"] 0 ⟨[.ref b], []⟩ = pure [some (.ref b)] from rfl) ?_)
  refine wpAny_bind (wpAny_pyIter_list hl ?_)
  let I : Addr := s.heap.objs.size
  let h1 : Heap := s.heap.push { cls := .type "list_iterator", data := .fields #[.ref a, .int 0 0] }
  have k1 : ∀ x o, s.heap.get? x = some o → h1.get? x = some o := fun x o e => Heap.get?_push_of_some _ e
  have hI1 : h1.IsListIter I a 0 := ⟨_, Heap.get?_push_size _ rfl, rfl, rfl⟩
  have hb1 : IsL h1 b #[] cb := k1 b _ hb
  have tb : Shared.TypeIs { s with heap := h1 } (.ref b) "list" := ⟨_, hb1, rfl⟩
  refine wpAny_bind (wpAny_pure ?_)
  simp only [List.forIn_cons, List.forIn_nil]
  refine wpAny_bind (wpAny_bind (wpAny_bind (wpAny_isInstance (T := "list") (b := false) tb sub_list_str' ?_)))
  simp only [Bool.false_eq_true, if_false]
  refine wpAny_pure (wpAny_bind (wpAny_bind (wpAny_isInstance (T := "list") (b := false) tb sub_list_bytes' ?_)))
  simp only [Bool.false_eq_true, if_false]
  refine wpAny_pure (wpAny_bind (wpAny_bind (wpAny_isInstance (T := "list") (b := false) tb sub_list_bytearray' ?_)))
  simp only [Bool.false_eq_true, if_false]
  refine wpAny_pure (wpAny_pure ?_)
  refine wpAny_bind (wpAny_newObj_type ?_)
  let S : Addr := h1.objs.size
  have hSI : S ≠ I := fun z => by
    obtain ⟨o', e, _⟩ := hI1
    exact Nat.lt_irrefl _ (z ▸ Heap.lt_size e)
  have lt1 : ∀ x o, h1.get? x = some o → x ≠ S := fun x o e z => Nat.lt_irrefl _ (z ▸ Heap.lt_size e)
  have k2 : ∀ x o, h1.get? x = some o → (h1.push { cls := .type "list", data := .seq #[.ref b] }).get? x = some o := fun x o e => Heap.get?_push_of_some _ e
  have hl1 : h1.IsList a items := hl.at fun o e => k1 a o e
  have neI : ∀ x o, s.heap.get? x = some o → x ≠ I := fun x o e z => Nat.lt_irrefl _ (z ▸ Heap.lt_size e)
  refine wpAny_pure ⟨plainId_quiet F.plain_sum_loop _, codeAny_sumL_loop (I := I) (ax := a) (S := S) (items := items) (A := A) hh (Nat.ne_of_lt hlt) its hSI (fun z => by
    obtain ⟨o, e, _⟩ := hl1
    exact lt1 a _ e z.symm) hsz items.size 0 _ b _ cb rfl (Nat.zero_le _) ⟨hI1.at fun o e => k2 I o e, hl1.at fun o e => k2 a o e⟩ (Heap.get?_push_size _ rfl) (k2 b _ hb1) (lt1 b _ hb1) (neI b _ hb) (fun j v hj hv => ?_) fun h' tk T c hk hT hw => ?_⟩
  · obtain ⟨l, cl, e, hl'⟩ := hsub j v hj hv
    exact ⟨l, cl, e, neI l _ hl', lt1 l _ (k1 l _ hl'), k2 l _ (k1 l _ hl')⟩
  · refine h h' tk T c (fun x o e => hk x o (neI x o e) (lt1 x o (k1 x o e)) (k2 x o (k1 x o e))) hT ?_
    rcases hw with ⟨z, e⟩ | ⟨z, e⟩
    · exact .inl ⟨z.symm, e⟩
    · exact .inr ⟨z, Nat.le_of_lt e⟩
end
end PySem
namespace HB
open PySem PySem.Spec PyProof.Rows L2
def rSumL (K : PySem.W.Frag) : List V → Hp → VK → Prop := fun vs H Q => ∃ (a b : Addr) (xs : List V) (yss : List (List V)), vs = [.ref a, .ref b] ∧ SqL K H a xs ∧ H b = some (.lst []) ∧ xs.length = yss.length ∧
  (∀ (i : Nat) (x : V) (ys : List V), xs[i]? = some x → yss[i]? = some ys → ∃ l, x = .ref l ∧ H l = some (.lst ys)) ∧ yss.flatten.length ≤ sizeLine ∧ (xs = [] → Q (.ref b) H) ∧ (xs ≠ [] → ∀ p, H p = none → Q (.ref p) (upd H p (.lst yss.flatten)))
theorem vals_nil {us : List Value} (r : Vals [] us) : us = [] := by cases r; rfl
theorem vals_get : ∀ {xs : List V} {us : List Value} {i : Nat} {u : Value}, Vals xs us → us[i]? = some u → ∃ x, xs[i]? = some x ∧ RelV x u
  | _, _, i, u, .nil, h => by simp at h
  | _, _, 0, u, .cons r t, h => by simp at h; subst h; exact ⟨_, rfl, r⟩
  | _, _, i + 1, u, .cons r t, h => by
    obtain ⟨x, h1, h2⟩ := vals_get (i := i) t (by simpa using h)
    exact ⟨x, by simpa using h1, h2⟩
theorem cr_sumL {X : Cx} (hc : X.calm = true) : CallR X (.builtin "sum") (rSumL X.K) := by
  intro pins s σ H vs us Q I r h
  obtain ⟨a, b, xs, yss, rfl, hs, hb, hl, hsub, hz, q0, q1⟩ := h
  obtain ⟨its, rv, hla, _⟩ := I.list hs
  obtain ⟨_, itb, nb, rb, _, eb⟩ := I.lstM hb
  have := vals_nil rb
  subst this
  cases r with
  | cons r rr =>
    cases rr with
    | cons r' rr =>
      cases rr
      cases r
      cases r'
      have hlen : its.length = xs.length := rv.length.symm
      have key : ∀ j, ∃ (l : Addr) (vs : List Value) (n : Nat), j < xs.length → (its[j]? = some (.ref l) ∧ Vals (yss.getD j []) vs ∧ IsL s.heap l vs.toArray n) := fun j => by
        by_cases hj : j < xs.length
        · have hx := List.getElem?_eq_getElem hj
          have hy := List.getElem?_eq_getElem (l := yss) (i := j) (by omega)
          obtain ⟨l, e1, e2⟩ := hsub j _ _ hx hy
          obtain ⟨_, vs, n, rvs, _, e3⟩ := I.lstM e2
          have hi := List.getElem?_eq_getElem (l := its) (i := j) (by omega)
          obtain ⟨x, e4, e5⟩ := vals_get rv hi
          rw [hx] at e4
          cases e4
          rw [e1] at e5
          have e5 : its[j] = Value.ref l := e5
          refine ⟨l, vs, n, fun _ => ⟨by rw [hi, e5], ?_, e3⟩⟩
          have : yss.getD j [] = yss[j] := by rw [List.getD, hy]; rfl
          rw [this]
          exact rvs
        · exact ⟨0, [], 0, fun z => absurd z hj⟩
      let fv : Nat → List Value := fun j => Classical.choose (Classical.choose_spec (key j))
      have hfv : ∀ j, j < xs.length → ∃ (l : Addr) (n : Nat), its[j]? = some (.ref l) ∧ Vals (yss.getD j []) (fv j) ∧ IsL s.heap l (fv j).toArray n := fun j hj => ⟨Classical.choose (key j), Classical.choose (Classical.choose_spec (Classical.choose_spec (key j))), Classical.choose_spec (Classical.choose_spec (Classical.choose_spec (key j))) hj⟩
      let ff : Nat → Array Value := fun j => (fv j).toArray
      have hacc : ∀ i, i ≤ xs.length → Vals (yss.take i).flatten (accL ff i).toList := fun i => by
        induction i with
        | zero => intro _; exact .nil
        | succ i ih =>
          intro hi
          obtain ⟨l, n, _, e, _⟩ := hfv i (by omega)
          have h1 := ih (by omega)
          have e2 : (yss.take (i + 1)).flatten = (yss.take i).flatten ++ yss.getD i [] := by
            have hiy : i < yss.length := by omega
            have e3 : yss.take (i + 1) = yss.take i ++ [yss.getD i []] := by
              rw [List.take_add_one, List.getElem?_eq_getElem hiy]
              simp [List.getD, hiy]
            rw [e3, List.flatten_append]
            simp
          rw [e2]
          have e3 : (accL ff (i + 1)).toList = (accL ff i).toList ++ fv i := by show (accL ff i ++ ff i).toList = _; simp [ff]
          rw [e3]
          exact h1.append e
      have hsz : ∀ i, i ≤ its.toArray.size → (accL ff i).size ≤ sizeLine := fun i hi => by
        rw [List.size_toArray] at hi
        have h1 : (yss.take i).flatten.length = (accL ff i).toList.length := (hacc i (by omega)).length
        have h2 : (accL ff i).size = (yss.take i).flatten.length := h1.symm
        rw [h2]
        refine Nat.le_trans ?_ hz
        conv => rhs; rw [← List.take_append_drop i yss, List.flatten_append, List.length_append]
        omega
      have hall := hacc xs.length (Nat.le_refl _)
      rw [List.take_of_length_le (by omega)] at hall
      refine call_sumL (its := ff) (I.ok.hd hc) hla.isList eb (fun j v hj hv => ?_) hsz fun h' tk T c hk hT hw => ?_
      · rw [List.size_toArray] at hj
        obtain ⟨l, n, e1, _, e3⟩ := hfv j (by omega)
        have hv' : its[j]? = some v := by simpa using hv
        rw [e1] at hv'
        cases hv'
        exact ⟨l, n, rfl, e3⟩
      · rw [List.size_toArray, hlen] at hT
        rw [List.size_toArray, hlen] at hw
        rcases hw with ⟨z, rfl⟩ | ⟨z, hp⟩
        · have : xs = [] := List.eq_nil_of_length_eq_zero z
          exact ⟨.ref T, H, I.kept hk, rfl, q0 this⟩
        · refine ⟨.ref T, upd H T (.lst yss.flatten), I.laid hk hp ⟨hz, (accL ff xs.length).toList, c, hall, ?_⟩, rfl, q1 (fun e => by rw [e] at z; simp at z) T (I.hok.fresh hp)⟩
          exact hT
/-- the items of a list of lists -/
def lists : List Dt → Option (List (List Dt))
  | [] => some []
  | .lst es :: ds => (lists ds).map fun r => es :: r
  | _ => none
def gSumL (st : Sto) (xs : List Dt) : Option (Dt × Sto) := match xs with
  | [.lst ds, .lst []] => (lists ds).bind fun r => if r.flatten.length ≤ sizeLine then some (.lst r.flatten, st) else none
  | _ => none
theorem dens_lists {L : List Addr} {B : Addr → Prop} {H : Hp} : ∀ {ds : List Dt} {vs : List V} {ess : List (List Dt)}, Dens L B H ds vs → lists ds = some ess → ∃ yss : List (List V), vs.length = yss.length ∧ (∀ (i : Nat) (x : V) (ys : List V), vs[i]? = some x → yss[i]? = some ys → ∃ l, x = .ref l ∧ H l = some (.lst ys)) ∧ Dens L B H ess.flatten yss.flatten
  | [], vs, ess, h, e => by
    cases e
    unfold Dens at h
    subst h
    exact ⟨[], rfl, fun i x ys h => by simp at h, .nil⟩
  | d :: ds, vs, ess, h, e => by
    cases d with
    | lst es =>
      obtain ⟨r, e1, e2⟩ := Option.map_eq_some_iff.mp e
      subst e2
      obtain ⟨v, vr, rfl, p, t⟩ := h.uncons
      obtain ⟨yss, h1, h2, h3⟩ := dens_lists t e1
      unfold Den at p
      obtain ⟨a, ys, rfl, nb, ea, t'⟩ := p
      refine ⟨ys :: yss, by simp [h1], fun i x zs hx hz => ?_, ?_⟩
      · cases i with
        | zero => simp at hx hz; subst hx; subst hz; exact ⟨a, rfl, ea⟩
        | succ i => simp at hx hz; exact h2 i x zs hx hz
      · rw [List.flatten_cons, List.flatten_cons]
        exact t'.append h3
    | _ => cases e
section
variable {T : List (Addr × Str)} {K : PySem.W.Frag}
theorem vo_sumL : VON T (rSumL K) gSumL := by
  intro Z L st H xs dxs d st' Q w hx h q
  unfold gSumL at h
  split at h
  · rename_i ds
    obtain ⟨r, e1, e2⟩ := bind_some' h
    split at e2
    · rename_i hz
      cases e2
      obtain ⟨v, u, rfl, p1, p2⟩ := dens2 hx
      have p2' := p2
      unfold Den at p1 p2
      obtain ⟨a, vs, rfl, na, ea, t⟩ := p1
      obtain ⟨b, us, rfl, nb, eb, t2⟩ := p2
      unfold Dens at t2
      subst t2
      obtain ⟨yss, h1, h2, h3⟩ := dens_lists t e1
      refine ⟨a, b, vs, yss, rfl, SqL.of ea, eb, h1, h2, by rw [← h3.len]; exact hz, fun e => ?_, fun _ p np => q _ _ L (.new w np) (.newL w np h3)⟩
      subst e
      have hd : ds = [] := List.eq_nil_of_length_eq_zero (by rw [t.len]; rfl)
      subst hd
      cases e1
      exact q _ H L (.refl w) p2'
    · cases e2
  · cases h
end
end HB

set_option Elab.async false
set_option linter.all false
set_option maxRecDepth 100000
set_option maxHeartbeats 1000000
/-! HC, part q: list(d.values()), max(list of ints). -/
namespace HB
open PySem PySem.Spec PyProof.Rows L2
/-- list(e.values()) -/
def rVaR : V → Hp → VK → Prop := fun x H Q => ∃ (d : Addr) (kvs : List (Key × V)), x = .ref d ∧ Rd H d (.dK kvs) ∧
  ∀ p, H p = none → Q (.ref p) (upd H p (.lst (kvs.map (·.2))))
def tVaR (te : TE) : TE := fun σ H Q => te σ H fun x H1 => rVaR x H1 Q
theorem pe_vaR {X : Cx} {e : Expr} {te : TE} {p ap cp pos : Pos} (hc : X.calm = true) (he : PE X e te) (hg : Gl X "list") (hm : X.mg "list" = none) (hb : attributeBase e "values" X.env (eval e X.env) = eval e X.env := by rfl) (hl : (ap.endLine == cp.line) = true := by rfl)
    (hs : starEach [.Call (.Attribute e "values" ap) [] [] cp] X.env = (false, eval (.Call (.Attribute e "values" ap) [] [] cp) X.env) :: starEach [] X.env := by rfl) :
    PE X (.Call (.Name "list" p) [.Call (.Attribute e "values" ap) [] [] cp] [] pos) (tVaR te) := by
  constructor
  intro pins s σ H Q I hq
  refine wpAny_Call_Name_kw (ld_blt I hg hm boot_list (PyProof.Rows.callWith_type1 ?_ hs rfl))
  rw [hs]
  refine Calls.spliced_cons (wpAny_Call_method (T := "dict") (id := "dict.values") hb rfl hl F.plainAttrs_dict F.slot_dict_values F.type_dict_values (thn (he.run pins s σ H _ I hq) ?_))
  rintro u s1 ⟨x, H1, I1, rx, d, kvs, rfl, hd, q⟩
  obtain rfl : u = Value.ref d := rx
  obtain ⟨hz, hs0, vs, kv, hdo⟩ := hd.ok I1.hok
  obtain ⟨ep, hat⟩ := hdo.dictAt
  have lk := kv.length
  have I2 : Inv X pins σ H1 { s1 with heap := s1.heap.push { cls := .type "dict_values", data := .fields #[.ref d] } } := I1.kept (t' := s1.toks) fun _ _ q => Heap.get?_push_of_some _ q
  refine ⟨hdo.typeIs, hdo.mapOf.noDict, ?_⟩
  show wpAny _ _ (callWith cp (.builtin "dict.values") _ [] []) _ X.xe s1
  refine method_meetsIn F.slot_dict_values F.entry_dict_values rfl (PySem.evalArgs_none ⟨rfl, hdo.typeIs, F.args_dict_values_1 _, _, meets_dict_values (mixKind X.prog X.w) d hs0, ⟨vs, hdo⟩, Calls.spliced_nil ?_⟩)
  refine PySem.W.kdl_call (PySem.W.kdl_values (knd := mixKind X.prog X.w) (kvs := vs) (ep := ep) (d := d)) (I1.ok.hd hc) ⟨⟨_, Heap.get?_push_size _ rfl, rfl, rfl⟩, hat.push _⟩ (by omega) fun h' tk ac c' kp hS ha => ?_
  refine ⟨.ref _, upd H1 _ (.lst (kvs.map (·.2))), I2.laid kp (Nat.le_refl _) (show ObjOk X.prog X.w _ _ _ (.lst (kvs.map (·.2))) from ⟨by rw [List.length_map]; exact hz, ac.toList, c', ?_, by rw [Array.toArray_toList]; exact hS⟩), rfl, q _ (I2.hok.fresh (Nat.le_refl _))⟩
  have el : ac.toList.length = ac.size := by simp
  refine vals_of_at (by rw [List.length_map, el, ha.1, lk]) fun j x y h1 h2 => ?_
  obtain ⟨k, hk'⟩ := ha.2 j y (by rw [← Array.getElem?_toList]; exact h2)
  obtain ⟨x', e1, e2⟩ := KV.at' kv hk'
  rw [List.getElem?_map, e1] at h1
  cases h1
  exact e2
def eVals (f : SE) : SE := fun r st => (f r st).bind fun x => (asD x.2 x.1).map fun p => (.lst p.2, x.2)
section
variable {T : List (Addr × Str)}
theorem zip_snd {α β : Type} : ∀ (ks : List α) (vs : List β), ks.length = vs.length → (ks.zip vs).map (·.2) = vs
  | [], [], _ => rfl
  | k :: ks, v :: vs, h => by rw [List.zip_cons_cons, List.map_cons, zip_snd ks vs (by simpa using h)]
  | [], _ :: _, h => by simp at h
  | _ :: _, [], h => by simp at h
theorem sim_vals {te : TE} {f : SE} (hf : SimE T te f) : SimE T (tVaR te) (eVals f) := by
  intro Z L st H s r d st' Q w e h q
  obtain ⟨⟨dx, st1⟩, h1, h2⟩ := bind_some' h
  obtain ⟨⟨ks, ds⟩, h3, h4⟩ := Option.map_eq_some_iff.mp h2
  cases h4
  refine hf Z L st H s r dx _ _ w e h1 fun x H1 L1 f1 p1 => ?_
  obtain ⟨a, vs, rfl, ra, hl, t⟩ := asD_ok f1.wd p1 h3
  refine ⟨a, _, rfl, ra, fun p np => ?_⟩
  rw [zip_snd ks vs hl]
  exact q _ _ L1 (f1.trans (.new f1.wd np)) (.newL f1.wd np t)
theorem jVals {X : Cx} {e : Expr} {fa : SE} {pos p ap cp : Pos} (hc : X.calm = true) (hg : Gl X "list") (hm : X.mg "list" = none) (he : PE X e (rE T fa)) (hb : attributeBase e "values" X.env (eval e X.env) = eval e X.env := by rfl) (hl : (ap.endLine == cp.line) = true := by rfl)
    (hs : starEach [.Call (.Attribute e "values" ap) [] [] cp] X.env = (false, eval (.Call (.Attribute e "values" ap) [] [] cp) X.env) :: starEach [] X.env := by rfl) : PE X (.Call (.Name "list" p) [.Call (.Attribute e "values" ap) [] [] cp] [] pos) (rE T (eVals fa)) := toE (pe_vaR hc he hg hm hb hl hs) (sim_vals sE)
end
/-! ### max(list of ints) -/
def intsD : List Dt → Option (List Int)
  | [] => some []
  | .int i :: ds => (intsD ds).map fun r => i :: r
  | _ => none
def topI : List Int → Int
  | [] => 0
  | [i] => i
  | i :: r => mx i (topI r)
def gMaxL (st : Sto) (xs : List Dt) : Option (Dt × Sto) := match xs with
  | [.lst (d :: ds)] => (intsD (d :: ds)).map fun r => (.int (topI r), st)
  | _ => none
theorem dens_intsD {L : List Addr} {B : Addr → Prop} {H : Hp} : ∀ {ds : List Dt} {vs : List V} {r : List Int}, Dens L B H ds vs → intsD ds = some r → vs = r.map V.int
  | [], vs, r, h, e => by
    cases e
    unfold Dens at h
    exact h
  | d :: ds, vs, r, h, e => by
    cases d with
    | int i =>
      obtain ⟨r', e1, e2⟩ := Option.map_eq_some_iff.mp e
      subst e2
      obtain ⟨v, vr, rfl, p, t⟩ := h.uncons
      rw [den_int p, dens_intsD t e1]; rfl
    | _ => cases e
theorem topI_ge : ∀ (r : List Int) (y : Int), y ∈ r → y ≤ topI r
  | [], y, h => by cases h
  | [i], y, h => by simp at h; subst h; exact Int.le_refl _
  | i :: j :: r, y, h => by
    have ih := topI_ge (j :: r)
    show y ≤ mx i (topI (j :: r))
    unfold mx
    rcases List.mem_cons.mp h with rfl | h
    · split <;> omega
    · have := ih y h; split <;> omega
theorem topI_mem : ∀ (r : List Int), r ≠ [] → topI r ∈ r
  | [], h => absurd rfl h
  | [i], _ => by simp [topI]
  | i :: j :: r, _ => by
    have ih := topI_mem (j :: r) (by simp)
    show mx i (topI (j :: r)) ∈ _
    unfold mx
    split
    · exact List.mem_cons_of_mem _ ih
    · simp
section
variable {T : List (Addr × Str)} {K : PySem.W.Frag}
theorem vo_maxL : VON T (rMax K) gMaxL := by
  intro Z L st H xs dxs d st' Q w hx h q
  unfold gMaxL at h
  split at h
  · rename_i d0 ds
    obtain ⟨r, e1, e2⟩ := Option.map_eq_some_iff.mp h
    cases e2
    obtain ⟨v, rfl, p1⟩ := dens1 hx
    unfold Den at p1
    obtain ⟨a, vs, rfl, na, ea, t⟩ := p1
    have ev := dens_intsD t e1
    subst ev
    have hl : 0 < r.length := by
      have := t.len
      simp at this
      omega
    refine ⟨a, r, rfl, SqL.of ea, hl, fun m hm hy => ?_⟩
    have hr : r ≠ [] := by intro z; subst z; simp at hl
    have : m = topI r := Int.le_antisymm (topI_ge r m hm) (hy _ (topI_mem r hr))
    subst this
    exact q _ H L (.refl w) Den.int
  · cases h
end
end HB

set_option Elab.async false
set_option linter.all false
set_option maxRecDepth 100000
set_option maxHeartbeats 1000000
/-! HC, part r: [.. for x in a live list ..]: the list is looked at anew at every turn. -/
namespace HB
open PySem PySem.Spec PyProof.Rows L2
def lcNx (j : Nat) (k : SG) (c : ST) (f : SE) (r : Evr) : Nat → Nat → Sto → Option (List Dt × Sto)
  | 0, _, _ => none
  | n + 1, i, st => match st[j]? with
    | some (some (.lst ds)) => (match ds[i]? with
      | none => some ([], st)
      | some x => (k x r).bind fun r1 => (c r1 st).bind fun b => if b.1 = true then (f r1 b.2).bind fun y => (lcNx j k c f r n (i + 1) y.2).bind fun z => some (y.1 :: z.1, z.2) else lcNx j k c f r n (i + 1) b.2)
    | _ => none
def lcL (fi : SE) (own : List Nat) (k : SG) (c : ST) (f : SE) (n : Nat) : SA := fun r st => (fi r st).bind fun x => match x.1 with
  | .ref j => (lcNx j k c f (wipeD r own) n 0 x.2).bind fun z => if z.1.length ≤ sizeLine then some z else none
  | _ => none
section
variable {T : List (Addr × Str)} {K : PySem.W.Frag}
theorem sim_lcL {is own : List Nat} {tl : TE} {fi : SE} {g : TG} {k : SG} {tt : TT} {c : ST} {te : TE} {f : SE} {n : Nat} (hfi : SimE T tl fi) (hg : SimG T is g k) (hc : SimT T tt c) (hf : SimE T te f) (hs : ∀ i ∈ is, i ∈ own) : SimE T (tLc (iList K tl) g tt te own) (toV (lcL fi own k c f n)) := by
  intro Z L st H s r d st' Q w e h q
  obtain ⟨⟨zs, st9⟩, a1, h9⟩ := bind_some' h
  obtain ⟨rfl, rfl⟩ : d = .lst zs ∧ st9 = st' := by cases h9; exact ⟨rfl, rfl⟩
  obtain ⟨⟨dx, st1⟩, a2, h⟩ := bind_some' a1
  dsimp only at h
  split at h
  case h_2 => cases h
  case h_1 ka =>
  obtain ⟨⟨ys, st8⟩, a3, h⟩ := bind_some' h
  split at h
  case isFalse => cases h
  case isTrue hz =>
  obtain ⟨rfl, rfl⟩ : ys = zs ∧ st8 = st9 := by cases h; exact ⟨rfl, rfl⟩
  refine hfi Z L st H s r _ st1 _ w e a2 fun x H1 L1 f1 p1 => ?_
  unfold Den at p1
  obtain ⟨a, la, rfl⟩ := p1
  have live0 : ∃ ds, st1[ka]? = some (some (.lst ds)) := by
    cases n with
    | zero => cases a3
    | succ n =>
      unfold lcNx at a3
      split at a3
      · rename_i ds hd; exact ⟨ds, hd⟩
      · cases a3
  obtain ⟨ds0, hd0⟩ := live0
  obtain ⟨_, oa0, ea0, qa0⟩ := f1.wd.own ka a _ la hd0
  obtain ⟨vs0, rfl, t0⟩ := qa0
  refine ⟨a, rfl, ⟨vs0, SqL.of ea0⟩, fun D nD => ?_⟩
  have nD0 : H D = none := by
    cases qq : H D with
    | none => rfl
    | some o => exact absurd nD (f1.trk D (by rw [qq]; simp))
  have m1 : Afz T Z L1 st1 H1 (zAnd Z D) L1 st1 (upd H1 D (.lst [])) := Afz.mine f1.wd nD
  have key : ∀ L2 st2 H2, Afz T Z L1 st1 H1 (zAnd Z D) L2 st2 H2 → ∀ ds, st2[ka]? = some (some (.lst ds)) → ∃ vs, SqL K H2 a vs ∧ Dens L2 (Bad (zAnd Z D) L2 st2) H2 ds vs := fun L2 st2 H2 f2 ds hd => by
    have la2 : L2[ka]? = some a := f2.ix la
    obtain ⟨_, oa, ea, qa⟩ := f2.wd.own ka a _ la2 hd
    obtain ⟨vs, rfl, t⟩ := qa
    exact ⟨vs, SqL.of ea, t⟩
  have fin : ∀ vs H' L', Afz T Z L st H (zAnd Z D) L' st8 H' → H' D = some (.lst vs) → Dens L' (Bad (zAnd Z D) L' st8) H' ys vs → Q (.ref D) H' := fun vs H' L' ff hD hv => by
    refine q _ H' L' ff.back ?_
    unfold Den
    refine ⟨D, vs, rfl, fun z => ?_, hD, hv.mono bad_zAnd⟩
    rcases z with z | ⟨j, d, j1, j2⟩
    · exact w.zt D z nD0
    · exact (ff.wd.own j D d j1 j2).1 (.inr rfl)
  refine ⟨fun i m H2 => ∃ L2 st2 acc rest vs, Afz T Z L1 st1 H1 (zAnd Z D) L2 st2 H2 ∧ H2 D = some (.lst vs) ∧ Dens L2 (Bad (zAnd Z D) L2 st2) H2 acc vs ∧ lcNx ka k c f (wipeD r own) m i st2 = some (rest, st8) ∧ acc ++ rest = ys,
    ⟨n, L1, st1, [], ys, [], m1, upd_same, .nil, a3, rfl⟩, ?_⟩
  rintro i m H2 ⟨L2, st2, acc, rest, vs, f2, hD, hacc, h2, ez⟩
  cases m with
  | zero => cases h2
  | succ m =>
  unfold lcNx at h2
  split at h2
  case h_2 => cases h2
  case h_1 ds hd =>
  obtain ⟨us, sq, tus⟩ := key L2 st2 H2 f2 ds hd
  cases hdi : ds[i]? with
  | none =>
    left
    rw [hdi] at h2
    cases h2
    rw [List.append_nil] at ez
    subst ez
    refine ⟨⟨us, sq, ?_⟩, fin vs H2 L2 (f1.trans f2) hD hacc⟩
    rw [← tus.len]
    exact List.getElem?_eq_none_iff.mp hdi
  | some dxi =>
    right
    rw [hdi] at h2
    dsimp only at h2
    obtain ⟨v, hv, pv⟩ := tus.get hdi
    obtain ⟨r3, b1, b2⟩ := bind_some' h2
    obtain ⟨⟨b, st3⟩, b3, b4⟩ := bind_some' b2
    refine ⟨⟨us, v, sq, hv⟩, fun H5 => ∃ L5 st5 acc5 rest5 vs5, Afz T Z L1 st1 H1 (zAnd Z D) L5 st5 H5 ∧ H5 D = some (.lst vs5) ∧ Dens L5 (Bad (zAnd Z D) L5 st5) H5 acc5 vs5 ∧ lcNx ka k c f (wipeD r own) m (i + 1) st5 = some (rest5, st8) ∧ acc5 ++ rest5 = ys,
      fun H5 x => ⟨m, by omega, x⟩, fun x H3 y => ?_⟩
    obtain ⟨rfl, y⟩ := y
    have hx := y us sq
    rw [hv] at hx
    cases hx
    have e3 := ((e.keep f1).keep f2).wipe own
    refine hg (zAnd Z D) L2 st2 H3 _ _ v _ r3 _ f2.wd e3 pv b1 fun s4 e4 wp => ⟨?_, ?_⟩
    · rw [wp own hs, wipe_wipe]
    refine hc (zAnd Z D) L2 st2 H3 s4 r3 b st3 _ f2.wd e4 b3 fun H4 L4 f4 => ?_
    have keepD : ∀ {L' : List Addr} {st8' : Sto} {H' : Hp}, Afz T (zAnd Z D) L2 st2 H3 (zAnd Z D) L' st8' H' → H' D = some (.lst vs) := fun ff => ff.kp D _ hD (fun z => by
      obtain ⟨j, d, j1, j2⟩ := z
      exact (f2.wd.own j D d j1 j2).1 (.inr rfl)) (fun ps z => by cases z)
    cases b with
    | false =>
      rw [if_neg (by simp)] at b4
      exact iteF ⟨L4, st3, acc, rest, vs, f2.trans f4, keepD f4, hacc.keep f4, b4, ez⟩
    | true =>
      rw [if_pos rfl] at b4
      obtain ⟨⟨dy, st5⟩, c1, c2⟩ := bind_some' b4
      obtain ⟨⟨rest5, st6⟩, c3, c4⟩ := bind_some' c2
      cases c4
      refine iteT (hf (zAnd Z D) L4 st3 H4 s4 r3 dy st5 _ f4.wd (e4.keep f4) c1 fun y H5 L5 f5 p5 => ?_)
      have fall := f4.trans f5
      have hacc5 := (hacc.keep f4).keep f5
      have hlen : vs.length < sizeLine := by
        rw [← hacc.len]
        have : (acc ++ dy :: rest5).length ≤ sizeLine := by rw [ez]; exact hz
        rw [List.length_append, List.length_cons] at this
        omega
      have zD : zAnd Z D D := .inr rfl
      have hD5 := keepD fall
      have tD5 : ∀ qs, H5 D ≠ some (.tup qs) := fun qs z => by rw [hD5] at z; cases z
      have wd6 : Wd T (zAnd Z D) L5 st5 (upd H5 D (.lst (vs ++ [y]))) := f5.wd.chg zD fun u eu => by rw [hD5] at eu; cases eu; exact .inl ⟨_, rfl⟩
      have fa := f2.trans fall
      refine ⟨vs, hD5, hlen, L5, st5, acc ++ [dy], rest5, vs ++ [y], ⟨wd6, fa.pre, fun b u eb nl nt => ?_, fa.nw, fun b n z => ?_, fun b us eb => ?_, fa.fr, fa.zs⟩, upd_same, (hacc5.append (.cons p5 .nil)).chg (.inl zD) tD5, c3, by rw [← ez]; simp⟩
      · rw [upd_ne (ne_of_none eb nD)]; exact fa.kp b u eb nl nt
      · by_cases hb : b = D
        · rw [hb, upd_same] at z; cases z
        · rw [upd_ne hb] at z; exact fa.trk b n z
      · rw [upd_ne (ne_of_none eb nD)]; exact fa.tp b us eb
variable {X : Cx} {pos : Pos} {ga : ST} {fa fi : SE}
theorem jLcL (n : Nat) {elt tg iter : Expr} {ifs : List Expr} {scope : Scope} {own : List (Str × Nat)} {g : TG} {k : SG} {is : List Nat} (hc : X.calm = true) (hN : X.N.Nodup) (hk : SimG T is g k) (hi : PE X iter (rE T fi)) (ok : BlkOk X.N X.env.scope scope own)
    (hg : ∀ s H C cl fp, PG (blkX X scope s H C cl fp) tg g) (ht : ∀ s H C cl fp, PTs (blkX X scope s H C cl fp) ifs (rT T ga)) (he : ∀ s H C cl fp, PE (blkX X scope s H C cl fp) elt (rE T fa)) (hz : ∀ i ∈ is, i ∈ own.map (·.2)) (hs : ∀ x, foldedSetIterable iter X.env x = pure x := by intro _; rfl) :
    PE X (.ListComp elt [⟨tg, iter, ifs, 0⟩] scope pos) (rE T (toV (lcL fi (own.map (·.2)) k ga fa n))) := toE (pe_lc hc hN (pi_list hi) ok hg ht he hs) (sim_lcL sE hk sT sE hz)
end
end HB

set_option Elab.async false
set_option linter.all false
set_option maxRecDepth 100000
set_option maxHeartbeats 1000000
/-! the skips family: texts as lists of signs, evaluation lemmas. -/
namespace HB
open PySem PySem.Spec PyProof.Rows L2
/-- the text of these signs; one sign -/
def tx (l : List Nat) : Str := ⟨l.toArray⟩
abbrev sg (c : Nat) : Str := ⟨#[c]⟩
@[simp] theorem tx_cps (l : List Nat) : (tx l).cps.toList = l := by simp [tx]
@[simp] theorem tx_len (l : List Nat) : (tx l).length = l.length := by simp [tx, Str.length]
@[simp] theorem tx_inj {l m : List Nat} : tx l = tx m ↔ l = m := ⟨fun h => by rw [← tx_cps l, h, tx_cps], fun h => by rw [h]⟩
theorem sg_inj {c d : Nat} : sg c = sg d ↔ c = d := ⟨fun h => by injection h with h; injection h with h; injection h with h, fun h => by rw [h]⟩
theorem sg_tx (c : Nat) : sg c = tx [c] := rfl
section
variable {st : Sto} {r : Evr}
@[simp] theorem atI_nat {α : Type} {l : List α} {k : Nat} : atI l (k : Int) = l[k]? := by
  unfold atI ixN
  by_cases h : k < l.length
  · have h1 : ¬ ((k : Int) < 0) := by omega
    simp [h1, h]
  · have h1 : ¬ ((k : Int) < 0) := by omega
    rw [List.getElem?_eq_none (by omega)]
    simp [h1]
    try omega
theorem ixL {ds : List Dt} {i : Int} (k : Nat) {d : Dt} (hi : i = (k : Int)) (h : ds[k]? = some d) : gIx st (.lst ds) (.int i) = some (d, st) := zIx (by rw [hi, atI_nat]; exact h)
theorem ixT {l : List Nat} {i : Int} (k : Nat) (hz : l.length ≤ sizeLine) (hi : i = (k : Int)) (hk : k < l.length) : gIx st (.str (tx l)) (.int i) = some (.str (sg (l.getD k 0)), st) := by
  refine v_ixS (by rw [tx_len]; exact hz) ?_
  rw [tx_cps, hi, atI_nat, List.getElem?_eq_getElem hk]
  simp [List.getD, hk]
@[simp] theorem zItK {ks : List Key} {ds : List Dt} : itK st (.dic ks ds) = some (ks.map keyDt) := rfl
@[simp] theorem zItI {ks : List Key} {ds : List Dt} : itI st (.dic ks ds) = some ((ks.zip ds).map fun p => .tup [keyDt p.1, p.2]) := rfl
@[simp] theorem zEnT {l : List Nat} : enT [.str (tx l)] = some (l.zipIdx.map fun p => .tup [.int (p.2 : Nat), .str (sg p.1)]) := by
  show some (enumT (tx l)) = _
  unfold enumT; rw [tx_cps]
@[simp] theorem zItT {l : List Nat} : itS st (.str (tx l)) = some (l.map fun c => .str (sg c)) := by rw [zItS, tx_cps]
theorem zLenT {l : List Nat} (h : l.length ≤ sizeLine) : gLen st [.str (tx l)] = some (.int l.length, st) := by rw [zLenS (by rw [tx_len]; exact h), tx_len]
@[simp] theorem zInT {neg : Bool} {c : Nat} {l : List Nat} : gInZ neg st (.str (sg c)) (.str (tx l)) = some (.bl (if neg then !decide (c ∈ l) else decide (c ∈ l)), st) := by
  unfold gInZ
  simp
theorem flats_int : ∀ l : List Nat, flats (l.map fun p : Nat => Dt.int p) = some (l.map fun p : Nat => V.int p)
  | [] => rfl
  | x :: l => by rw [List.map_cons]; show (flats _).map _ = _; rw [flats_int l]; rfl
theorem inV_int (x : Nat) : ∀ l : List Nat, inV (.int x) (l.map fun p : Nat => V.int p) = decide (x ∈ l)
  | [] => by simp [inV]
  | y :: l => by
    have ih := inV_int x l
    unfold inV at ih ⊢
    rw [List.map_cons, List.any_cons, ih]
    by_cases h : x = y
    · simp [h, eqV]
    · have : ¬ ((y : Int) = (x : Int)) := by omega
      have h2 : ¬ ((x : Int) = (y : Int)) := by omega
      simp [h, this, h2, eqV]
theorem zInI {neg : Bool} {x : Nat} {l : List Nat} : gInZ neg st (.int x) (.lst (l.map fun p : Nat => .int p)) = some (.bl (if neg then !decide (x ∈ l) else decide (x ∈ l)), st) := by
  have e : inD st (.int (x : Int)) (.lst (l.map fun p : Nat => .int p)) = some (decide (x ∈ l)) := by
    unfold inD
    simp only [zAsL]
    rw [flats_int]
    show some (inV (V.int x) _) = _
    rw [inV_int]
  show gIn neg st _ _ = _
  unfold gIn
  rw [e]
  rfl
theorem zInDk {neg : Bool} {ks : List Key} {ds : List Dt} {c : Nat} : gInZ neg st (.str (sg c)) (.dic ks ds) = some (.bl (if neg then !(pGet (Sum.inr (sg c)) ks ds).isSome else (pGet (Sum.inr (sg c)) ks ds).isSome), st) := by
  show gIn neg st _ _ = _
  exact zInD rfl
theorem zMulZ {i j : Int} (h : cMul i j = true) : gMulZ st (.int i) (.int j) = some (.int (i * j), st) := zMulI h
theorem zMulT {l : List Nat} {k : Nat} (h : k ≤ 1000) (hl : l.length ≤ 1000) : gMulZ st (.str (tx l)) (.int k) = some (.str (tx (List.replicate k l).flatten), st) := by
  show (if _ then _ else _) = _
  rw [if_pos]
  · unfold repS tx; simp
  · refine ⟨by omega, by omega, ?_⟩
    rw [tx_len, Int.toNat_natCast]
    have := Nat.mul_le_mul hl h
    omega
theorem cutL_from {α : Type} (l : List α) (k : Nat) : cutL l (some (k : Int)) none = l.drop k := by
  unfold cutL
  rw [HT.sIx_nat, HT.sIx_none]
  by_cases h : k ≤ l.length
  · rw [Nat.min_eq_left h, List.take_of_length_le (by simp)]
  · rw [Nat.min_eq_right (by omega), List.drop_of_length_le (Nat.le_refl _), List.drop_of_length_le (by omega)]; simp
theorem cutL_to {α : Type} (l : List α) (k : Nat) : cutL l none (some (k : Int)) = l.take k := by
  unfold cutL
  rw [HT.sIx_nat, HT.sIx_none]
  simp
theorem cutL_at {α : Type} (l : List α) (i k : Nat) (h : i ≤ l.length) : cutL l (some (i : Int)) (some (k : Int)) = (l.drop i).take (min k l.length - i) := by
  unfold cutL
  rw [HT.sIx_nat, HT.sIx_nat, Nat.min_eq_left h]
theorem cutS_tx (l : List Nat) (lo hi : Option Int) : cutS (tx l) lo hi = tx (cutL l lo hi) := by
  have e : ({ cps := l.toArray } : Str).length = l.length := tx_len l
  unfold cutS cutL tx
  simp [e]
theorem v_lc {fi : SA} {own : List Nat} {kt : SG} {c : ST} {f : SE} {r : Evr} {st st1 st2 : Sto} {xs zs : List Dt} (hi : fi r st = some (xs, st1)) (hg : lcGo kt c f (wipeD r own) xs st1 = some (zs, st2)) (hl : zs.length ≤ sizeLine) : lc fi own kt c f r st = some (zs, st2) := by
  rw [zLc, hi, Option.bind_some, hg, Option.bind_some, if_pos hl]
theorem s_asg {kt : SG} {fa : SE} {r r' : Evr} {st st1 : Sto} {d : Dt} (h : fa r st = some (d, st1)) (hk : kt d r = some r') : sAsg kt fa r st = some (.nx r' st1) := by
  rw [zAsg, h, Option.bind_some, hk]; rfl
theorem v_toT {fs : SA} {r : Evr} {st st1 : Sto} {ds : List Dt} (h : fs r st = some (ds, st1)) (hl : ds.length ≤ 16777216) : toT fs r st = some (.tup ds, st1) := by
  have := line_ge
  rw [zToT, h, Option.bind_some, if_pos (show ds.length ≤ sizeLine by omega)]
theorem v_smallN {fs : SA} {r : Evr} {st st1 : Sto} {ds : List Dt} (h : fs r st = some (ds, st1)) (hl : ds.length ≤ 16777216) : small fs r st = some (ds, st1) := v_small h (by have := line_ge; omega)
theorem rg_eq (i j : Int) : rg2 [.int i, .int j] = if -(2 ^ 62) ≤ i ∧ i < 2 ^ 62 ∧ -(2 ^ 62) ≤ j ∧ j < 2 ^ 62 then some (rngL i (j - i).toNat) else none := by unfold rg2; rfl
theorem rg_one {n : Nat} (h : n ≤ 1000000) : rg2 [.int 1, .int ((n : Int) + 1)] = some ((List.range n).map fun i : Nat => .int (1 + (i : Nat))) := by
  rw [rg_eq, if_pos (by omega)]
  have : ((n : Int) + 1 - 1).toNat = n := by omega
  rw [this]
  rfl
theorem nodup_filter {α : Type} {l : List α} (p : α → Bool) (h : l.Nodup) : (l.filter p).Nodup := List.Pairwise.filter p h
theorem neI {st : Sto} {a b : Int} (h : a = b) : gNeB st (.int a) (.int b) = some (.bl false, st) := by rw [zNeI, decide_eq_true h]; rfl
theorem for_any {α σ : Type} {kt : SG} {g : SS} (D : α → Dt) (E : σ → Evr) (S : σ → Sto) (I : σ → Prop) : ∀ (xs : List α) (s : σ), I s → (∀ s a, a ∈ xs → I s → ∃ r1 s', kt (D a) (E s) = some r1 ∧ g r1 (S s) = some (.nx (E s') (S s')) ∧ I s') → ∃ s', sForGo kt g (xs.map D) (E s) (S s) = some (.nx (E s') (S s')) ∧ I s'
  | [], s, h, _ => ⟨s, rfl, h⟩
  | a :: xs, s, h, hs => by
    obtain ⟨r1, s1, h1, h2, h3⟩ := hs s a (by simp) h
    obtain ⟨s', k1, k2⟩ := for_any D E S I xs s1 h3 fun s b hb => hs s b (by simp [hb])
    refine ⟨s', ?_, k2⟩
    rw [List.map_cons]
    exact for_cons h1 h2 k1
theorem for_ex {α σ : Type} {kt : SG} {g : SS} (D : α → Dt) (E : σ → Evr) (S : σ → Sto) (f : σ → α → σ) (I : σ → Prop) (xs : List α) (s : σ) (h : I s) (hs : ∀ s a, a ∈ xs → I s → ∃ r1, kt (D a) (E s) = some r1 ∧ g r1 (S s) = some (.nx (E (f s a)) (S (f s a))) ∧ I (f s a)) : ∃ s', sForGo kt g (xs.map D) (E s) (S s) = some (.nx (E s') (S s')) ∧ I s' := ⟨_, for_st D E S f I xs s h hs⟩
theorem zSlT {l : List Nat} {lo hi : Option Int} (h : l.length ≤ sizeLine) : gSl st (.str (tx l)) lo hi = some (.str (tx (cutL l lo hi))) := by
  rw [zSlS (by rw [tx_len]; exact h), cutS_tx]
end
end HB

set_option Elab.async false
set_option linter.all false
set_option maxRecDepth 100000
set_option maxHeartbeats 1000000
/-! equality of ints, lists of ints. -/
namespace HB
open PySem PySem.Spec PyProof.Rows L2
theorem eqPl_I {x y : Int} : eqPl (.int x) (.int y) = some (decide (x = y)) := by
  have sh : ∀ z : Int, SeqAt.shaped (.int z) = true := fun z => by
    unfold SeqAt.shaped PyData.canLay0 PyData.depth
    rfl
  show (if (SeqAt.shaped (.int x) && SeqAt.shaped (.int y)) = true then some (PyData.eqv (.int x) (.int y)) else none) = _
  rw [if_pos (by rw [sh x, sh y]; rfl)]
  unfold PyData.eqv
  by_cases h : x = y
  · subst h; simp
  · simp [h]
theorem okQ_I {x : Int} {n : Nat} : okQ (n + 1) (.int x) := by
  show eqPl (.int x) (.int x) = _
  rw [eqPl_I]; simp
variable {st : Sto}
theorem eqB_LI {l m : List Nat} : eqB st (.lst (l.map fun p : Nat => Dt.int p)) (.lst (m.map fun p : Nat => Dt.int p)) = some (decide (l = m)) := by
  have n1 : noRef (.lst (l.map fun p : Nat => Dt.int p)) = true := by rw [nrL]; exact noRefs_map fun _ _ => rfl
  have n2 : noRef (.lst (m.map fun p : Nat => Dt.int p)) = true := by rw [nrL]; exact noRefs_map fun _ _ => rfl
  unfold eqB
  rw [deref_no n1, deref_no n2]
  show (if alikeD (.lst (l.map fun p : Nat => Dt.int p)) (.lst (m.map fun p : Nat => Dt.int p)) = true then (if noRef (.lst (l.map fun p : Nat => Dt.int p)) = true ∧ noRef (.lst (m.map fun p : Nat => Dt.int p)) = true then eqQ 8 (.lst (l.map fun p : Nat => Dt.int p)) (.lst (m.map fun p : Nat => Dt.int p)) else none) else eqD st (.lst (l.map fun p : Nat => Dt.int p)) (.lst (m.map fun p : Nat => Dt.int p))) = _
  rw [if_pos (show alikeD (.lst (l.map fun p : Nat => Dt.int p)) (.lst (m.map fun p : Nat => Dt.int p)) = true from rfl), if_pos ⟨n1, n2⟩]
  refine eqQ_list l m fun a ha b hb => ?_
  show eqPl _ _ = _
  rw [eqPl_I]
  congr 1
  by_cases h : a = b
  · simp [h]
  · have : ¬ (a : Int) = b := by omega
    simp [h, this]
theorem zNeLI {l m : List Nat} : gNeB st (.lst (l.map fun p : Nat => Dt.int p)) (.lst (m.map fun p : Nat => Dt.int p)) = some (.bl (!decide (l = m)), st) := by unfold gNeB; rw [eqB_LI]; rfl
theorem zEqLI {l m : List Nat} : gEqB st (.lst (l.map fun p : Nat => Dt.int p)) (.lst (m.map fun p : Nat => Dt.int p)) = some (.bl (decide (l = m)), st) := by unfold gEqB; rw [eqB_LI]; rfl
theorem zNeLI0 {l : List Nat} : gNeB st (.lst (l.map fun p : Nat => Dt.int p)) (.lst []) = some (.bl (!decide (l = [])), st) := zNeLI (m := [])
theorem zEqLI0 {l : List Nat} : gEqB st (.lst (l.map fun p : Nat => Dt.int p)) (.lst []) = some (.bl (decide (l = [])), st) := zEqLI (m := [])
/-- a dict of places and signs -/
def sD (ps : List (Nat × Nat)) : Dt := .dic (ps.map fun p => Sum.inl (p.1 : Int)) (ps.map fun p => .str (sg p.2))
@[simp] theorem nr_sD {ps : List (Nat × Nat)} : noRef (sD ps) = true := by unfold sD; rw [nrD]; exact noRefs_map fun _ _ => rfl
theorem pGet_sD {p : Nat} : ∀ {ps : List (Nat × Nat)}, p ∈ ps.map (·.1) → ∃ c, pGet (Sum.inl (p : Int)) (ps.map fun p => (Sum.inl (p.1 : Int) : Key)) (ps.map fun p => Dt.str (sg p.2)) = some (.str (sg c))
  | [], h => by simp at h
  | q :: ps, h => by
    rw [List.map_cons, List.map_cons]
    unfold pGet
    by_cases hq : q.1 = p
    · rw [if_pos (by rw [hq])]; exact ⟨_, rfl⟩
    · have : ¬ ((Sum.inl (q.1 : Int) : Key) = Sum.inl (p : Int)) := fun z => hq (by injection z with z; omega)
      rw [if_neg this]
      refine pGet_sD ?_
      simp only [List.map_cons, List.mem_cons] at h
      rcases h with h | h
      · exact absurd h.symm hq
      · exact h
theorem pPut_sD {p c : Nat} {ps : List (Nat × Nat)} (h : p ∉ ps.map (·.1)) : pPut (Sum.inl (p : Int)) (Dt.str (sg c)) (ps.map fun p => (Sum.inl (p.1 : Int) : Key)) (ps.map fun p => Dt.str (sg p.2)) = ((ps ++ [(p, c)]).map fun p => (Sum.inl (p.1 : Int) : Key), (ps ++ [(p, c)]).map fun p => Dt.str (sg p.2)) := by
  unfold pPut
  rw [if_neg]
  · simp
  · rw [List.any_eq_true]
    rintro ⟨x, hx, e⟩
    obtain ⟨q, hq, rfl⟩ := List.mem_map.mp hx
    have e' := of_decide_eq_true e
    injection e' with e'
    exact h (List.mem_map.mpr ⟨q, hq, by omega⟩)
end HB

set_option Elab.async false
set_option linter.all false
set_option maxRecDepth 100000
set_option maxHeartbeats 1000000
namespace HB
open PySem PySem.Spec PyProof.Rows L2
theorem disp_one {s : Str} {f : SE} {r : Evr} {st st1 : Sto} {d : Dt} (h : f r st = some (d, st1)) : dToV (eDisp [(eC (.str s), f)]) r st = some (.dic [Sum.inr s] [d], st1) := by
  unfold dToV eDisp
  simp [ePairs, h, keyD, pMrg, pPut]
end HB

set_option Elab.async false
set_option linter.all false
set_option maxRecDepth 100000
set_option maxHeartbeats 1000000
namespace HB
open PySem PySem.Spec PyProof.Rows L2
theorem rb_I {n : Nat} (h : n < 10 ^ 9) : RB 0 72 (.int n) := by
  refine ⟨rfl, ?_, Nat.le_refl 0, ?_⟩
  · show decide (((n : Int)).natAbs.log2 < 1920) = true
    rw [decide_eq_true_eq]
    have e : ((n : Int)).natAbs = n := by omega
    rw [e]
    by_cases h0 : n = 0
    · subst h0; decide
    · exact (Nat.log2_lt h0).mpr (Nat.lt_trans h (by decide +kernel))
  · show (Str.ofString (toString (n : Int))).length ≤ 72
    exact Nat.le_trans (toString_length_le (k := 9) (by omega) (by omega) (by omega)) (by omega)
theorem rb_IL {l : List Nat} (h : ∀ n ∈ l, n < 10 ^ 9) (hl : l.length ≤ 1000) : RB 1 100000 (.lst (l.map fun n : Nat => .int n)) := (rb_L (m := 1000) (fun d hd => by
  obtain ⟨n, hn, rfl⟩ := List.mem_map.mp hd
  exact rb_I (h n hn)) (by rw [List.length_map]; exact hl)).mono (by omega) (by omega)
theorem pairs_map {f : Str → Dt} : ∀ ks : List Str, pairsD (ks.map fun s => .tup [.str s, f s]) = some (ks.map Sum.inr, ks.map f)
  | [] => rfl
  | k :: ks => by
    rw [List.map_cons]
    show (pairD (.tup [.str k, f k])).bind _ = _
    show ((pairsD (ks.map fun s => .tup [.str s, f s])).map _) = _
    rw [pairs_map ks]
    rfl
theorem mrg_map {f : Str → Dt} : ∀ (xs l : List Str), (l ++ xs).Nodup → pMrg (l.map (Sum.inr : Str → Key)) (l.map f) ((xs.map (Sum.inr : Str → Key)).zip (xs.map f)) = ((l ++ xs).map Sum.inr, (l ++ xs).map f)
  | [], l, _ => by simp [pMrg]
  | x :: xs, l, h => by
    have hn : x ∉ l := fun z => (List.nodup_append.mp h).2.2 x z x (by simp) rfl
    have ih := mrg_map (f := f) xs (l ++ [x]) (by simpa using h)
    rw [List.map_cons, List.map_cons, List.zip_cons_cons]
    show pMrg (pPut (Sum.inr x) (f x) (l.map Sum.inr) (l.map f)).1 (pPut (Sum.inr x) (f x) (l.map Sum.inr) (l.map f)).2 _ = _
    rw [put_new x _ l hn]
    simpa using ih
theorem dictP_map {f : Str → Dt} {ks : List Str} {st : Sto} (nd : ks.Nodup) : gDictP st [.lst (ks.map fun s => .tup [.str s, f s])] = some (.dic (ks.map Sum.inr) (ks.map f), st) := by
  show ((pairsD (ks.map fun s => .tup [.str s, f s])).map fun p => (Dt.dic (pMrg [] [] (p.1.zip p.2)).1 (pMrg [] [] (p.1.zip p.2)).2, st)) = _
  rw [pairs_map]
  have := mrg_map (f := f) ks [] (by simpa using nd)
  simp at this
  simp [this]
theorem dict_gD {st : Sto} {ks : List Str} {f : Str → Dt} (nd : ks.Nodup) : gDictA st [.lst (ks.map fun s => .tup [.str s, f s])] = some (.dic (ks.map Sum.inr) (ks.map f), st) := dictP_map nd
theorem items_map (ks : List Str) (f : Str → Dt) : itemsL (ks.map Sum.inr) (ks.map f) = ks.map fun s => .tup [.str s, f s] := by
  unfold itemsL
  induction ks with
  | nil => rfl
  | cons a l ih => rw [List.map_cons, List.map_cons, List.map_cons, List.zip_cons_cons, List.map_cons, ih]; rfl
theorem gFk_rev3 {F : List Dt → Sto → Option (Dt × Sto)} {st : Sto} {a b c : Dt} : gFk 3 [2, 1, 0] F st [c, b, a] = F [a, b, c] st := by
  unfold gFk; rw [if_pos ⟨rfl, rfl⟩]; rfl
theorem gFk_rev5 {F : List Dt → Sto → Option (Dt × Sto)} {st : Sto} {a b c d e : Dt} : gFk 5 [4, 3, 2, 1, 0] F st [e, d, c, b, a] = F [a, b, c, d, e] st := by
  unfold gFk; rw [if_pos ⟨rfl, rfl⟩]; rfl
end HB

set_option Elab.async false
set_option linter.all false
set_option maxRecDepth 100000
set_option maxHeartbeats 4000000
/-! printed by pr3.py: the defs of the row, their plain functions, their derivations. -/
namespace K81
open PySem PySem.Spec PyProof.Rows L2 HB
def top (i : Nat) : Stmt := PySem.Challenge.pw_halfback_k81_whole_safe_skips.main.body.getD i (.Pass ⟨0, 0, 0, 0⟩)
abbrev FnP (K : PySem.W.Frag) (x : Str) (st : Stmt) (f : Addr) (fd : FuncData) : Prop := FunD K x x (defArgs st) (defBody st) (defScope st) [] [] f fd
abbrev s_is_whole : Stmt := top 7
def N_is_whole : List Str := ["thing"]
theorem sc_is_whole : FnScope N_is_whole ["thing"] (defScope s_is_whole) := ⟨rfl, rfl, rfl, by decide +kernel, rfl, by decide +kernel, by decide +kernel⟩
abbrev s_is_letter : Stmt := top 8
def N_is_letter : List Str := ["sign"]
theorem sc_is_letter : FnScope N_is_letter ["sign"] (defScope s_is_letter) := ⟨rfl, rfl, rfl, by decide +kernel, rfl, by decide +kernel, by decide +kernel⟩
abbrev s_check_words : Stmt := top 9
def N_check_words : List Str := ["words", "index", "word", "sign"]
theorem sc_check_words : FnScope N_check_words ["words"] (defScope s_check_words) := ⟨rfl, rfl, rfl, by decide +kernel, rfl, by decide +kernel, by decide +kernel⟩
abbrev s_check_letters : Stmt := top 10
def N_check_letters : List Str := ["letters", "words", "place", "sign", "word"]
theorem sc_check_letters : FnScope N_check_letters ["letters", "words"] (defScope s_check_letters) := ⟨rfl, rfl, rfl, by decide +kernel, rfl, by decide +kernel, by decide +kernel⟩
abbrev s_check_order : Stmt := top 12
def N_check_order : List Str := ["order", "word", "index", "place"]
theorem sc_check_order : FnScope N_check_order ["order", "word"] (defScope s_check_order) := ⟨rfl, rfl, rfl, by decide +kernel, rfl, by decide +kernel, by decide +kernel⟩
abbrev s_check_window : Stmt := top 13
def N_check_window : List Str := ["word", "order", "letters"]
theorem sc_check_window : FnScope N_check_window ["word", "order", "letters"] (defScope s_check_window) := ⟨rfl, rfl, rfl, by decide +kernel, rfl, by decide +kernel, by decide +kernel⟩
abbrev s_fits : Stmt := top 14
def N_fits : List Str := ["word", "seen", "far", "place", "letter"]
theorem sc_fits : FnScope N_fits ["word", "seen", "far"] (defScope s_fits) := ⟨rfl, rfl, rfl, by decide +kernel, rfl, by decide +kernel, by decide +kernel⟩
abbrev s_safe_skip : Stmt := top 15
def N_safe_skip : List Str := ["word", "seen", "far"]
theorem sc_safe_skip : FnScope N_safe_skip ["word", "seen"] (defScope s_safe_skip) := ⟨rfl, rfl, rfl, by decide +kernel, rfl, by decide +kernel, by decide +kernel⟩
abbrev s_safe_in : Stmt := top 16
def N_safe_in : List Str := ["word", "order", "letters", "seen", "told", "place", "others", "letter"]
theorem sc_safe_in : FnScope N_safe_in ["word", "order", "letters"] (defScope s_safe_in) := ⟨rfl, rfl, rfl, by decide +kernel, rfl, by decide +kernel, by decide +kernel⟩
abbrev s_entries_of : Stmt := top 17
def N_entries_of : List Str := ["table", "told", "look", "row", "letter"]
theorem sc_entries_of : FnScope N_entries_of ["table"] (defScope s_entries_of) := ⟨rfl, rfl, rfl, by decide +kernel, rfl, by decide +kernel, by decide +kernel⟩
abbrev s_safe_skips : Stmt := top 18
def N_safe_skips : List Str := ["word", "order", "letters"]
theorem sc_safe_skips : FnScope N_safe_skips ["word", "order", "letters"] (defScope s_safe_skips) := ⟨rfl, rfl, rfl, by decide +kernel, rfl, by decide +kernel, by decide +kernel⟩
abbrev s_count_right_skips : Stmt := top 19
def N_count_right_skips : List Str := ["word", "order", "letters", "told", "look", "letter", "skip"]
theorem sc_count_right_skips : FnScope N_count_right_skips ["word", "order", "letters"] (defScope s_count_right_skips) := ⟨rfl, rfl, rfl, by decide +kernel, rfl, by decide +kernel, by decide +kernel⟩
abbrev s__law_draws : Stmt := top 21
def N__law_draws : List Str := ["_law_cell"]
theorem sc__law_draws : FnScope N__law_draws ["_law_cell"] (defScope s__law_draws) := ⟨rfl, rfl, rfl, by decide +kernel, rfl, by decide +kernel, by decide +kernel⟩
abbrev s__law_next : Stmt := top 22
def N__law_next : List Str := ["_law_draws_here", "_law_k", "_law_number"]
theorem sc__law_next : FnScope N__law_next ["_law_draws_here"] (defScope s__law_next) := ⟨rfl, rfl, rfl, by decide +kernel, rfl, by decide +kernel, by decide +kernel⟩
abbrev s__law_shuffled : Stmt := top 23
def N__law_shuffled : List Str := ["_law_draws_here", "_law_things", "_law_left", "_law_told"]
theorem sc__law_shuffled : FnScope N__law_shuffled ["_law_draws_here", "_law_things"] (defScope s__law_shuffled) := ⟨rfl, rfl, rfl, by decide +kernel, rfl, by decide +kernel, by decide +kernel⟩
abbrev s__law_window : Stmt := top 24
def N__law_window : List Str := ["_law_draws_here", "_law_most", "_law_signs", "_law_long", "_law_noun", "_law_around", "_law_sort", "_law_line", "_law_at"]
theorem sc__law_window : FnScope N__law_window ["_law_draws_here", "_law_most"] (defScope s__law_window) := ⟨rfl, rfl, rfl, by decide +kernel, rfl, by decide +kernel, by decide +kernel⟩
abbrev s__law_least : Stmt := top 25
def N__law_least : List Str := ["_law_noun", "_law_seen", "_law_far", "_law_place"]
theorem sc__law_least : FnScope N__law_least ["_law_noun", "_law_seen"] (defScope s__law_least) := ⟨rfl, rfl, rfl, by decide +kernel, rfl, by decide +kernel, by decide +kernel⟩
abbrev s__law_safe : Stmt := top 26
def N__law_safe : List Str := ["_law_noun", "_law_line", "_law_around", "_law_told", "_law_seen", "_law_place", "_law_row", "_law_sign", "_law_beside"]
theorem sc__law_safe : FnScope N__law_safe ["_law_noun", "_law_line", "_law_around"] (defScope s__law_safe) := ⟨rfl, rfl, rfl, by decide +kernel, rfl, by decide +kernel, by decide +kernel⟩
abbrev s__law_texts : Stmt := top 28
def N__law_texts : List Str := ["_law_around", "_law_many", "_law_told", "_law_k", "_law_ahead", "_law_sign"]
theorem sc__law_texts : FnScope N__law_texts ["_law_around", "_law_many"] (defScope s__law_texts) := ⟨rfl, rfl, rfl, by decide +kernel, rfl, by decide +kernel, by decide +kernel⟩
abbrev s__law_first : Stmt := top 29
def N__law_first : List Str := ["_law_noun", "_law_around", "_law_seen", "_law_begin", "_law_signs", "_law_far", "_law_place"]
theorem sc__law_first : FnScope N__law_first ["_law_noun", "_law_around", "_law_seen"] (defScope s__law_first) := ⟨rfl, rfl, rfl, by decide +kernel, rfl, by decide +kernel, by decide +kernel⟩
abbrev s__law_small_right : Stmt := top 30
def N__law_small_right : List Str := ["_law_noun", "_law_line", "_law_around", "_law_told", "_law_seen", "_law_look", "_law_place", "_law_sign", "_law_beside"]
theorem sc__law_small_right : FnScope N__law_small_right ["_law_noun", "_law_line", "_law_around"] (defScope s__law_small_right) := ⟨rfl, rfl, rfl, by decide +kernel, rfl, by decide +kernel, by decide +kernel⟩
abbrev s__law_right : Stmt := top 31
def N__law_right : List Str := ["_law_draws_here", "_law_noun", "_law_line", "_law_around", "_law_kept", "_law_due", "_law_told", "_law_number", "_law_row", "_law_at", "_law_other", "_law_sign"]
theorem sc__law_right : FnScope N__law_right ["_law_draws_here", "_law_noun", "_law_line", "_law_around"] (defScope s__law_right) := ⟨rfl, rfl, rfl, by decide +kernel, rfl, by decide +kernel, by decide +kernel⟩
abbrev s_law : Stmt := top 32
def N_law : List Str := ["_law_script", "_law_draws_here", "_law_due", "_law_noun", "_law_line", "_law_around", "_law_cell"]
theorem sc_law : FnScope N_law ["_law_script"] (defScope s_law) := ⟨rfl, rfl, rfl, by decide +kernel, rfl, by decide +kernel, by decide +kernel⟩
def g_is_whole : SS :=
  (sRet (eAndV (eN (gIs "int") (aCons (eVar 0) aNil)) (eNotV (eN (gIs "bool") (aCons (eVar 0) aNil)))))
def F_is_whole : List Dt → Sto → Option (Dt × Sto) := bodyF g_is_whole 1
theorem ok_is_whole {T : List (Addr × Str)} {P : Program} {w : World} {K : PySem.W.Frag} {mg : Str → Option Value} {base : Heap} {f : Addr} {fd : FuncData} (F : FnP K "is_whole" s_is_whole f fd) (n_bool : mg "bool" = none) (n_int : mg "int" = none) (n_isinstance : mg "isinstance" = none) :
    GFn P w K mg base 1 f fd ["thing"] (SpF T 1 F_is_whole) := by
  refine gfnJ (k := 0) (N := N_is_whole) (ps := ["thing"]) F sc_is_whole fun A outer s H hr hg => ?_
  have sc := sc_is_whole
  have hu := hr.units
  have hu1 := hu_of hr
  exact (jsOne (jsRet (jAnd (jIsi (by rfl) n_isinstance (by rfl) n_int boot_int (jv 0)) (jOne (jNot (jIsi (by rfl) n_isinstance (by rfl) n_bool boot_bool (jv 0)))))))
def g_is_letter : SS :=
  (sRet (eChain gLe gLe (eC (.str "!")) (eVar 0) (eC (.str "~"))))
def F_is_letter : List Dt → Sto → Option (Dt × Sto) := bodyF g_is_letter 1
theorem ok_is_letter {T : List (Addr × Str)} {P : Program} {w : World} {K : PySem.W.Frag} {mg : Str → Option Value} {base : Heap} {f : Addr} {fd : FuncData} (F : FnP K "is_letter" s_is_letter f fd)  :
    GFn P w K mg base 1 f fd ["sign"] (SpF T 1 F_is_letter) := by
  refine gfnJ (k := 0) (N := N_is_letter) (ps := ["sign"]) F sc_is_letter fun A outer s H hr hg => ?_
  have sc := sc_is_letter
  have hu := hr.units
  have hu1 := hu_of hr
  exact (jsOne (jsRet (jChain op_LeA vo_Le op_LeA vo_Le jStr (jv 0) jStr)))
def e1_check_words : SE :=
  (eN (gF 1 (liftV (fV F_is_letter))) (aCons (eVar 3) aNil))
def b2_check_words : SS :=
  (sSeq (sIf (cOr (cNot (cB (eN (gIs "str") (aCons (eVar 2) aNil)))) (cNot (cB (eChain gLe gLe (eC (.int 1)) (eN gLen (aCons (eVar 2) aNil)) (eC (.int 7))))))
  sNo
  sNx)
  (sIf (cOr (cNot (cB (eN gAll (aCons (toV (lc (iE itS (eVar 2)) [3] (kName 3) cYes e1_check_words)) aNil)))) (cOr (cB (eOp2 gNeB (eN gLen (aCons (eVar 2) aNil)) (eN gLen (aCons (eOp2 gIx (eVar 0) (eC (.int 0))) aNil)))) (cB (eOp2 (gInZ false) (eVar 2) (eSl (eVar 0) oNo (oE (eVar 1)))))))
  sNo
  sNx))
def g_check_words : SS :=
  (sSeq (sIf (cOr (cNot (cB (eN (gIs "list") (aCons (eVar 0) aNil)))) (cNot (cB (eChain gLe gLe (eC (.int 1)) (eN gLen (aCons (eVar 0) aNil)) (eC (.int 5))))))
  sNo
  sNx)
  (sFor (iR en (aCons (eVar 0) aNil)) (kTup (ksCons (kName 1) (ksCons (kName 2) ksNil)))
  b2_check_words))
def F_check_words : List Dt → Sto → Option (Dt × Sto) := bodyF g_check_words 4
theorem ok_check_words {T : List (Addr × Str)} {P : Program} {w : World} {K : PySem.W.Frag} {mg : Str → Option Value} {base : Heap} {f : Addr} {fd : FuncData} (F : FnP K "check_words" s_check_words f fd) (cV_is_letter : GP P w K mg base 1 "is_letter" ["sign"] (SpF T 1 (liftV (fV F_is_letter)))) (n_all : mg "all" = none) (n_enumerate : mg "enumerate" = none) (n_isinstance : mg "isinstance" = none) (n_len : mg "len" = none) (n_list : mg "list" = none) (n_str : mg "str" = none) {t_MOST_LETTERS : Tok} (i_MOST_LETTERS : mg "MOST_LETTERS" = some (.int 7 t_MOST_LETTERS)) {t_MOST_WORDS : Tok} (i_MOST_WORDS : mg "MOST_WORDS" = some (.int 5 t_MOST_WORDS)) :
    GFn P w K mg base 2 f fd ["words"] (SpF T 1 F_check_words) := by
  refine gfnJ (k := 1) (N := N_check_words) (ps := ["words"]) F sc_check_words fun A outer s H hr hg => ?_
  have sc := sc_check_words
  have hu := hr.units
  have hu1 := hu_of hr
  exact (jsCons (jsIf (PW.pt (jwOr (jtNot (jtVal (jIsi (by rfl) n_isinstance (by rfl) n_list boot_list (jv 0)))) (jwOr1 (jtNot (jtChain op_LeA vo_Le op_LeA vo_Le jInt (jB call_lenA vo_len (by rfl) n_len boot_len (jCons (jv 0) jNil)) (jGI (by rfl) i_MOST_WORDS))))))
    jsNo
    jsNil)
    (jsOne (jsFor PassesOwn.never rfl sim_g2 (jiEn (by rfl) n_enumerate (jCons (jv 0) jNil)) (jg2 rfl (jg 1 sc.nd) (jg 2 sc.nd))
    (jsCons (jsIf (PW.pt (jwOr (jtNot (jtVal (jIsi (by rfl) n_isinstance (by rfl) n_str boot_str (jv 2)))) (jwOr1 (jtNot (jtChain op_LeA vo_Le op_LeA vo_Le jInt (jB call_lenA vo_len (by rfl) n_len boot_len (jCons (jv 2) jNil)) (jGI (by rfl) i_MOST_LETTERS))))))
    jsNo
    jsNil)
    (jsOne (jsIf (PW.pt (jwOr (jtNot (jtVal (jB (cr_all rfl) vo_all (by rfl) n_all boot_all (jCons (jLcV (own := [("sign", 3)]) rfl sc.nd sim_gname (jiS (jv 2)) (blkOk_by (by rfl)) (fun _ _ _ _ _ => (jg 3 sc.nd)) (fun _ _ _ _ _ => jtNil) (fun _ _ _ _ _ => (jCallP (k := 1) (x := "is_letter") (ps := ["sign"]) (F := (liftV (fV F_is_letter))) (by exact cV_is_letter) (by exact hr.mono (by decide)) (by exact hg) (by rfl) (jCons (jv 3) jNil))) (by decide)) jNil)))) (jwOr (jtCmp (op_NeZ (by exact hr)) vo_NeZ (jB call_lenA vo_len (by rfl) n_len boot_len (jCons (jv 2) jNil)) (jB call_lenA vo_len (by rfl) n_len boot_len (jCons (jIx (by exact hu) (jv 0) jInt) jNil))) (jwOr1 (jtCmp (op_InZ (by exact hu1)) vo_InZ (jv 2) (jSl (jv 0) joNone (joSome (jv 1))))))))
    jsNo
    jsNil))))))
def b1_check_letters : SS :=
  (sIf (cOr (cNot (cB (eN (gF 1 (liftV (fV F_is_letter))) (aCons (eVar 3) aNil)))) (cB (eOp2 (gInZ false) (eVar 3) (eSl (eVar 0) oNo (oE (eVar 2))))))
  sNo
  sNx)
def e2_check_letters : SE :=
  (eOp2 (gInZ false) (eVar 3) (eVar 0))
def g_check_letters : SS :=
  (sSeq (sIf (cNot (cB (eN (gIs "str") (aCons (eVar 0) aNil))))
  sNo
  sNx)
  (sSeq (sFor (iR enT (aCons (eVar 0) aNil)) (kTup (ksCons (kName 2) (ksCons (kName 3) ksNil)))
  b1_check_letters)
  (sIf (cNot (cB (eN gAll (aCons (toV (lc2 (iE itL (eVar 1)) [4, 3] (kName 4) cYes (eVar 4) [3] (kName 3) cYes e2_check_letters)) aNil))))
  sNo
  sNx)))
def F_check_letters : List Dt → Sto → Option (Dt × Sto) := bodyF g_check_letters 5
theorem ok_check_letters {T : List (Addr × Str)} {P : Program} {w : World} {K : PySem.W.Frag} {mg : Str → Option Value} {base : Heap} {f : Addr} {fd : FuncData} (F : FnP K "check_letters" s_check_letters f fd) (cV_is_letter : GP P w K mg base 1 "is_letter" ["sign"] (SpF T 1 (liftV (fV F_is_letter)))) (n_all : mg "all" = none) (n_enumerate : mg "enumerate" = none) (n_isinstance : mg "isinstance" = none) (n_str : mg "str" = none) :
    GFn P w K mg base 2 f fd ["letters", "words"] (SpF T 2 F_check_letters) := by
  refine gfnJ (k := 1) (N := N_check_letters) (ps := ["letters", "words"]) F sc_check_letters fun A outer s H hr hg => ?_
  have sc := sc_check_letters
  have hu := hr.units
  have hu1 := hu_of hr
  exact (jsCons (jsIf (jtNot (jtVal (jIsi (by rfl) n_isinstance (by rfl) n_str boot_str (jv 0))))
    jsNo
    jsNil)
    (jsCons (jsFor PassesOwn.never rfl sim_g2 (jiEnT (by rfl) n_enumerate (jCons (jv 0) jNil)) (jg2 rfl (jg 2 sc.nd) (jg 3 sc.nd))
    (jsOne (jsIf (PW.pt (jwOr (jtNot (jtVal (jCallP (k := 1) (x := "is_letter") (ps := ["sign"]) (F := (liftV (fV F_is_letter))) (by exact cV_is_letter) (by exact hr.mono (by decide)) (by exact hg) (by rfl) (jCons (jv 3) jNil)))) (jwOr1 (jtCmp (op_InZ (by exact hu1)) vo_InZ (jv 3) (jSl (jv 0) joNone (joSome (jv 2)))))))
    jsNo
    jsNil)))
    (jsOne (jsIf (jtNot (jtVal (jB (cr_all rfl) vo_all (by rfl) n_all boot_all (jCons (jLc2V (own := [("word", 4), ("sign", 3)]) (vs1 := [3]) rfl sc.nd sim_gname sim_gname (jiL (jv 1)) (blkOk_by (by rfl)) (by decide) (fun _ _ _ _ _ => (jg 4 sc.nd)) (fun _ _ _ _ _ => jtNil) (fun _ _ _ _ _ => (jv 4)) (fun _ _ _ _ _ => (jg 3 sc.nd)) (fun _ _ _ _ _ => jtNil) (fun _ _ _ _ _ => (jCmp (op_InZ (by exact hu1)) vo_InZ (jv 3) (jv 0))) (by decide) (by decide)) jNil))))
    jsNo
    jsNil))))
def b1_check_order : SS :=
  (sIf (cOr (cNot (cB (eN (gF 1 (liftV (fV F_is_whole))) (aCons (eVar 3) aNil)))) (cOr (cNot (cB (eChain gLe gLe (eC (.int 1)) (eVar 3) (eN gLen (aCons (eVar 1) aNil))))) (cB (eOp2 (gInZ false) (eVar 3) (eSl (eVar 0) oNo (oE (eVar 2)))))))
  sNo
  sNx)
def g_check_order : SS :=
  (sSeq (sIf (cOr (cNot (cB (eN (gIs "list") (aCons (eVar 0) aNil)))) (cB (eOp2 gNeB (eN gLen (aCons (eVar 0) aNil)) (eN gLen (aCons (eVar 1) aNil)))))
  sNo
  sNx)
  (sFor (iR en (aCons (eVar 0) aNil)) (kTup (ksCons (kName 2) (ksCons (kName 3) ksNil)))
  b1_check_order))
def F_check_order : List Dt → Sto → Option (Dt × Sto) := bodyF g_check_order 4
theorem ok_check_order {T : List (Addr × Str)} {P : Program} {w : World} {K : PySem.W.Frag} {mg : Str → Option Value} {base : Heap} {f : Addr} {fd : FuncData} (F : FnP K "check_order" s_check_order f fd) (cV_is_whole : GP P w K mg base 1 "is_whole" ["thing"] (SpF T 1 (liftV (fV F_is_whole)))) (n_enumerate : mg "enumerate" = none) (n_isinstance : mg "isinstance" = none) (n_len : mg "len" = none) (n_list : mg "list" = none) :
    GFn P w K mg base 2 f fd ["order", "word"] (SpF T 2 F_check_order) := by
  refine gfnJ (k := 1) (N := N_check_order) (ps := ["order", "word"]) F sc_check_order fun A outer s H hr hg => ?_
  have sc := sc_check_order
  have hu := hr.units
  have hu1 := hu_of hr
  exact (jsCons (jsIf (PW.pt (jwOr (jtNot (jtVal (jIsi (by rfl) n_isinstance (by rfl) n_list boot_list (jv 0)))) (jwOr1 (jtCmp (op_NeZ (by exact hr)) vo_NeZ (jB call_lenA vo_len (by rfl) n_len boot_len (jCons (jv 0) jNil)) (jB call_lenA vo_len (by rfl) n_len boot_len (jCons (jv 1) jNil))))))
    jsNo
    jsNil)
    (jsOne (jsFor PassesOwn.never rfl sim_g2 (jiEn (by rfl) n_enumerate (jCons (jv 0) jNil)) (jg2 rfl (jg 2 sc.nd) (jg 3 sc.nd))
    (jsOne (jsIf (PW.pt (jwOr (jtNot (jtVal (jCallP (k := 1) (x := "is_whole") (ps := ["thing"]) (F := (liftV (fV F_is_whole))) (by exact cV_is_whole) (by exact hr.mono (by decide)) (by exact hg) (by rfl) (jCons (jv 3) jNil)))) (jwOr (jtNot (jtChain op_LeA vo_Le op_LeA vo_Le jInt (jv 3) (jB call_lenA vo_len (by rfl) n_len boot_len (jCons (jv 1) jNil)))) (jwOr1 (jtCmp (op_InZ (by exact hu1)) vo_InZ (jv 3) (jSl (jv 0) joNone (joSome (jv 2))))))))
    jsNo
    jsNil)))))
def g_check_window : SS :=
  (sSeq (sEx (eN (gF 1 (liftV (fV F_check_words))) (aCons (toV (small (aCons (eVar 0) aNil))) aNil)))
  (sSeq (sEx (eN (gF 2 (liftV (fV F_check_order))) (aCons (eVar 1) (aCons (eVar 0) aNil))))
  (sEx (eN (gF 2 (liftV (fV F_check_letters))) (aCons (eVar 2) (aCons (toV (small (aCons (eVar 0) aNil))) aNil))))))
def F_check_window : List Dt → Sto → Option (Dt × Sto) := bodyF g_check_window 3
theorem ok_check_window {T : List (Addr × Str)} {P : Program} {w : World} {K : PySem.W.Frag} {mg : Str → Option Value} {base : Heap} {f : Addr} {fd : FuncData} (F : FnP K "check_window" s_check_window f fd) (cV_check_words : GP P w K mg base 2 "check_words" ["words"] (SpF T 1 (liftV (fV F_check_words)))) (cV_check_order : GP P w K mg base 2 "check_order" ["order", "word"] (SpF T 2 (liftV (fV F_check_order)))) (cV_check_letters : GP P w K mg base 2 "check_letters" ["letters", "words"] (SpF T 2 (liftV (fV F_check_letters)))) :
    GFn P w K mg base 3 f fd ["word", "order", "letters"] (SpF T 3 F_check_window) := by
  refine gfnJ (k := 2) (N := N_check_window) (ps := ["word", "order", "letters"]) F sc_check_window fun A outer s H hr hg => ?_
  have sc := sc_check_window
  have hu := hr.units
  have hu1 := hu_of hr
  exact (jsCons (jsEx (jCallP (k := 2) (x := "check_words") (ps := ["words"]) (F := (liftV (fV F_check_words))) (by exact cV_check_words) (by exact hr.mono (by decide)) (by exact hg) (by rfl) (jCons (jLstV (jCons (jv 0) jNil)) jNil)))
    (jsCons (jsEx (jCallP (k := 2) (x := "check_order") (ps := ["order", "word"]) (F := (liftV (fV F_check_order))) (by exact cV_check_order) (by exact hr.mono (by decide)) (by exact hg) (by rfl) (jCons (jv 1) (jCons (jv 0) jNil))))
    (jsOne (jsEx (jCallP (k := 2) (x := "check_letters") (ps := ["letters", "words"]) (F := (liftV (fV F_check_letters))) (by exact cV_check_letters) (by exact hr.mono (by decide)) (by exact hg) (by rfl) (jCons (jv 2) (jCons (jLstV (jCons (jv 0) jNil)) jNil)))))))
def e1_fits : SE :=
  (eOrV (eOp2 gLe (eVar 3) (eVar 2)) (eOp2 gEqB (eOp2 gIx (eVar 0) (eOp2 gMin (eOp2 gMin (eVar 3) (eVar 2)) (eC (.int 1)))) (eVar 4)))
def g_fits : SS :=
  (sRet (eN gAll (aCons (toV (lc (iE itI (eVar 1)) [3, 4] (kTup (ksCons (kName 3) (ksCons (kName 4) ksNil))) cYes e1_fits)) aNil)))
def F_fits : List Dt → Sto → Option (Dt × Sto) := bodyF g_fits 5
theorem ok_fits {T : List (Addr × Str)} {P : Program} {w : World} {K : PySem.W.Frag} {mg : Str → Option Value} {base : Heap} {f : Addr} {fd : FuncData} (F : FnP K "fits" s_fits f fd) (n_all : mg "all" = none) :
    GFn P w K mg base 1 f fd ["word", "seen", "far"] (SpF T 3 F_fits) := by
  refine gfnJ (k := 0) (N := N_fits) (ps := ["word", "seen", "far"]) F sc_fits fun A outer s H hr hg => ?_
  have sc := sc_fits
  have hu := hr.units
  have hu1 := hu_of hr
  exact (jsOne (jsRet (jB (cr_all rfl) vo_all (by rfl) n_all boot_all (jCons (jLcD (own := [("place", 3), ("letter", 4)]) rfl sc.nd sim_g2 (jdI 1) (blkOk_by (by rfl)) (fun _ _ _ _ _ => (jg2 rfl (jg 3 sc.nd) (jg 4 sc.nd))) (fun _ _ _ _ _ => jtNil) (fun _ _ _ _ _ => (jOr (jCmp op_LeA vo_Le (jv 3) (jv 2)) (jOne (jCmp (op_EqZ (by exact hr)) vo_EqZ (jIx (by exact hu) (jv 0) (jMin (jMin (jv 3) (jv 2)) jInt)) (jv 4))))) (by decide)) jNil))))
def e1_safe_skip : SE :=
  (eVar 2)
def c1_safe_skip : ST :=
  (cB (eN (gF 3 (liftV (fV F_fits))) (aCons (eVar 0) (aCons (eVar 1) (aCons (eVar 2) aNil)))))
def g_safe_skip : SS :=
  (sRet (eOp2 gIx (toV (lc (iR rg2 (aCons (eC (.int 1)) (aCons (eOp2 gAdd (eN gLen (aCons (eVar 0) aNil)) (eC (.int 1))) aNil))) [2] (kName 2) c1_safe_skip e1_safe_skip)) (eC (.int 0))))
def F_safe_skip : List Dt → Sto → Option (Dt × Sto) := bodyF g_safe_skip 3
theorem ok_safe_skip {T : List (Addr × Str)} {P : Program} {w : World} {K : PySem.W.Frag} {mg : Str → Option Value} {base : Heap} {f : Addr} {fd : FuncData} (F : FnP K "safe_skip" s_safe_skip f fd) (cV_fits : GP P w K mg base 1 "fits" ["word", "seen", "far"] (SpF T 3 (liftV (fV F_fits)))) (n_len : mg "len" = none) (n_range : mg "range" = none) :
    GFn P w K mg base 2 f fd ["word", "seen"] (SpF T 2 F_safe_skip) := by
  refine gfnJ (k := 1) (N := N_safe_skip) (ps := ["word", "seen"]) F sc_safe_skip fun A outer s H hr hg => ?_
  have sc := sc_safe_skip
  have hu := hr.units
  have hu1 := hu_of hr
  exact (jsOne (jsRet (jIx (by exact hu) (jLcV (own := [("far", 2)]) rfl sc.nd sim_gname (jiR2 (by rfl) n_range (jCons jInt (jCons (jAdd (jB call_lenA vo_len (by rfl) n_len boot_len (jCons (jv 0) jNil)) jInt) jNil))) (blkOk_by (by rfl)) (fun _ _ _ _ _ => (jg 2 sc.nd)) (fun _ _ _ _ _ => (jtOne (jtVal (jCallP (k := 1) (x := "fits") (ps := ["word", "seen", "far"]) (F := (liftV (fV F_fits))) (by exact cV_fits) (by exact hr.mono (by decide)) (by exact hg) (by rfl) (jCons (jv 0) (jCons (jv 1) (jCons (jv 2) jNil))))))) (fun _ _ _ _ _ => (jv 2)) (by decide)) jInt)))
def e1_safe_in : SE :=
  (eVar 7)
def c1_safe_in : ST :=
  (cB (eOp2 gNeB (eVar 7) (eOp2 gIx (eVar 0) (eOp2 gMin (eVar 5) (eC (.int 1))))))
def v2_safe_in : SE :=
  (eN (gF 2 (liftV (fV F_safe_skip))) (aCons (eVar 0) (aCons (dToV (eStar (eVar 3) (eVar 5) (eVar 7))) aNil)))
def b3_safe_in : SS :=
  (sSeq (sSet 6 (toV (lc (iE itL (eN gSortZ (aCons (eVar 2) aNil))) [7] (kName 7) c1_safe_in e1_safe_in)))
  (sSeq (sEx (eM isL gApp (eVar 4) (aCons (dToR (dc (iE itL (eVar 6)) [7] (kName 7) cYes (eVar 7) v2_safe_in)) aNil)))
  (sDP (eVar 3) (eVar 5) (eOp2 gIx (eVar 0) (eOp2 gMin (eVar 5) (eC (.int 1)))))))
def g_safe_in : SS :=
  (sSeq (sAsg (kTup (ksCons (kName 3) (ksCons (kName 4) ksNil))) (toT (aCons eDR (aCons (toR (small aNil)) aNil))))
  (sSeq (sFor (iE itL (eVar 1)) (kName 5)
  b3_safe_in)
  (sRet (eOp2 gAddR (toV (small (aCons (eN (gF 2 (liftV (fV F_safe_skip))) (aCons (eVar 0) (aCons (eFrz (eVar 3)) aNil))) aNil))) (eVar 4)))))
def F_safe_in : List Dt → Sto → Option (Dt × Sto) := bodyF g_safe_in 8
theorem ok_safe_in {T : List (Addr × Str)} {P : Program} {w : World} {K : PySem.W.Frag} {mg : Str → Option Value} {base : Heap} {f : Addr} {fd : FuncData} (F : FnP K "safe_in" s_safe_in f fd) (cV_safe_skip : GP P w K mg base 2 "safe_skip" ["word", "seen"] (SpF T 2 (liftV (fV F_safe_skip)))) (n_sorted : mg "sorted" = none) :
    GFn P w K mg base 3 f fd ["word", "order", "letters"] (SpF T 3 F_safe_in) := by
  refine gfnJ (k := 2) (N := N_safe_in) (ps := ["word", "order", "letters"]) F sc_safe_in fun A outer s H hr hg => ?_
  have sc := sc_safe_in
  have hu := hr.units
  have hu1 := hu_of hr
  exact (jsCons (jsAsg sim_g2 (jTup (jCons jDR (jCons (jLstR jNil) jNil))) (jg2 rfl (jg 3 sc.nd) (jg 4 sc.nd)))
    (jsCons (jsFor PassesOwn.never rfl sim_gname (jiL (jv 1)) (jg 5 sc.nd)
    (jsCons (jsSetLc (i := 6) (own := [("letter", 7)]) rfl sc.nd sim_gname (sw_true rfl rfl rfl rfl) (jiL (jB (cr_sortZ rfl (by exact hu)) vo_sortZ (by rfl) n_sorted boot_sorted (jCons (jv 2) jNil))) (blkOk_by (by rfl)) (fun _ _ _ _ _ => (jg 7 sc.nd)) (fun _ _ _ _ _ => (jtOne (jtCmp (op_NeZ (by exact hr)) vo_NeZ (jv 7) (jIx (by exact hu) (jv 0) (jMin (jv 5) jInt))))) (fun _ _ _ _ _ => (jv 7)) (by decide))
    (jsCons (jsEx (jApp (jv 4) (jCons (jDcR (own := [("letter", 7)]) rfl sc.nd sim_gname (jiL (jv 6)) (blkOk_by (by rfl)) (fun _ _ _ _ _ => (jg 7 sc.nd)) (fun _ _ _ _ _ => jtNil) (fun _ _ _ _ _ => (jv 7)) (fun _ _ _ _ _ => (jCallP (k := 2) (x := "safe_skip") (ps := ["word", "seen"]) (F := (liftV (fV F_safe_skip))) (by exact cV_safe_skip) (by exact hr.mono (by decide)) (by exact hg) (by rfl) (jCons (jv 0) (jCons (jStarV (jv 3) (jv 5) (jv 7)) jNil)))) (by decide)) jNil)))
    (jsOne (jsDP (by exact hu) (jv 3) (jv 5) (jIx (by exact hu) (jv 0) (jMin (jv 5) jInt)))))))
    (jsOne (jsRet (jAddR (jLstV (jCons (jCallP (k := 2) (x := "safe_skip") (ps := ["word", "seen"]) (F := (liftV (fV F_safe_skip))) (by exact cV_safe_skip) (by exact hr.mono (by decide)) (by exact hg) (by rfl) (jCons (jv 0) (jCons (jFrz (jv 3)) jNil))) jNil)) (jv 4))))))
def e1_entries_of : SE :=
  (toT (aCons (eOp2 gAdd (eVar 2) (eC (.int 1))) (aCons (eVar 4) (aCons (eOp2 gIx (eVar 3) (eVar 4)) aNil))))
def b2_entries_of : SS :=
  (sAug 1 gAugA (toV (lc (iE itL (eN gSortZ (aCons (eVar 3) aNil))) [4] (kName 4) cYes e1_entries_of)))
def g_entries_of : SS :=
  (sSeq (sSet 1 (toR (small (aCons (toT (aCons (eC (.int 0)) (aCons (eC .non) (aCons (eOp2 gIx (eVar 0) (eC (.int 0))) aNil)))) aNil))))
  (sSeq (sFor (iR en (aCons (eSl (eVar 0) (oE (eC (.int 1))) oNo) aNil)) (kTup (ksCons (kName 2) (ksCons (kName 3) ksNil)))
  b2_entries_of)
  (sRet (eVar 1))))
def F_entries_of : List Dt → Sto → Option (Dt × Sto) := bodyF g_entries_of 5
theorem ok_entries_of {T : List (Addr × Str)} {P : Program} {w : World} {K : PySem.W.Frag} {mg : Str → Option Value} {base : Heap} {f : Addr} {fd : FuncData} (F : FnP K "entries_of" s_entries_of f fd) (n_enumerate : mg "enumerate" = none) (n_sorted : mg "sorted" = none) :
    GFn P w K mg base 1 f fd ["table"] (SpF T 1 F_entries_of) := by
  refine gfnJ (k := 0) (N := N_entries_of) (ps := ["table"]) F sc_entries_of fun A outer s H hr hg => ?_
  have sc := sc_entries_of
  have hu := hr.units
  have hu1 := hu_of hr
  exact (jsCons (jsSet (i := 1) sc.nd (jLstR (jCons (jTup (jCons jInt (jCons jNon (jCons (jIx (by exact hu) (jv 0) jInt) jNil)))) jNil)))
    (jsCons (jsFor PassesOwn.never rfl sim_g2 (jiEn (by rfl) n_enumerate (jCons (jSl (jv 0) (joSome jInt) joNone) jNil)) (jg2 rfl (jg 2 sc.nd) (jg 3 sc.nd))
    (jsOne (jsAugZ (i := 1) sc.nd (jLcV (own := [("letter", 4)]) rfl sc.nd sim_gname (jiL (jB (cr_sortZ rfl (by exact hu)) vo_sortZ (by rfl) n_sorted boot_sorted (jCons (jv 3) jNil))) (blkOk_by (by rfl)) (fun _ _ _ _ _ => (jg 4 sc.nd)) (fun _ _ _ _ _ => jtNil) (fun _ _ _ _ _ => (jTup (jCons (jAdd (jv 2) jInt) (jCons (jv 4) (jCons (jIx (by exact hu) (jv 3) (jv 4)) jNil))))) (by decide)))))
    (jsOne (jsRet (jv 1)))))
def g_safe_skips : SS :=
  (sSeq (sEx (eN (gF 3 (liftV (fV F_check_window))) (aCons (eVar 0) (aCons (eVar 1) (aCons (eVar 2) aNil)))))
  (sRet (eN (gF 3 F_safe_in) (aCons (eVar 0) (aCons (eVar 1) (aCons (eVar 2) aNil))))))
def F_safe_skips : List Dt → Sto → Option (Dt × Sto) := bodyF g_safe_skips 3
theorem ok_safe_skips {T : List (Addr × Str)} {P : Program} {w : World} {K : PySem.W.Frag} {mg : Str → Option Value} {base : Heap} {f : Addr} {fd : FuncData} (F : FnP K "safe_skips" s_safe_skips f fd) (cV_check_window : GP P w K mg base 3 "check_window" ["word", "order", "letters"] (SpF T 3 (liftV (fV F_check_window)))) (craw_safe_in : GP P w K mg base 3 "safe_in" ["word", "order", "letters"] (SpF T 3 F_safe_in)) :
    GFn P w K mg base 4 f fd ["word", "order", "letters"] (SpF T 3 F_safe_skips) := by
  refine gfnJ (k := 3) (N := N_safe_skips) (ps := ["word", "order", "letters"]) F sc_safe_skips fun A outer s H hr hg => ?_
  have sc := sc_safe_skips
  have hu := hr.units
  have hu1 := hu_of hr
  exact (jsCons (jsEx (jCallP (k := 3) (x := "check_window") (ps := ["word", "order", "letters"]) (F := (liftV (fV F_check_window))) (by exact cV_check_window) (by exact hr.mono (by decide)) (by exact hg) (by rfl) (jCons (jv 0) (jCons (jv 1) (jCons (jv 2) jNil)))))
    (jsOne (jsRet (jCallP (k := 3) (x := "safe_in") (ps := ["word", "order", "letters"]) (F := F_safe_in) (by exact craw_safe_in) (by exact hr.mono (by decide)) (by exact hg) (by rfl) (jCons (jv 0) (jCons (jv 1) (jCons (jv 2) jNil)))))))
def b1_count_right_skips : SS :=
  (sAug 3 (gI cMul fun i j => i * j) (eVar 6))
def g_count_right_skips : SS :=
  (sSeq (sEx (eN (gF 3 (liftV (fV F_check_window))) (aCons (eVar 0) (aCons (eVar 1) (aCons (eVar 2) aNil)))))
  (sSeq (sSet 3 (eC (.int 1)))
  (sSeq (sFor (iE itL (eN (gF 1 (liftV (fV F_entries_of))) (aCons (eN (gF 3 (liftV (fW F_safe_in))) (aCons (eVar 0) (aCons (eVar 1) (aCons (eVar 2) aNil)))) aNil))) (kTup (ksCons (kName 4) (ksCons (kName 5) (ksCons (kName 6) ksNil))))
  b1_count_right_skips)
  (sRet (eVar 3)))))
def F_count_right_skips : List Dt → Sto → Option (Dt × Sto) := bodyF g_count_right_skips 7
theorem ok_count_right_skips {T : List (Addr × Str)} {P : Program} {w : World} {K : PySem.W.Frag} {mg : Str → Option Value} {base : Heap} {f : Addr} {fd : FuncData} (F : FnP K "count_right_skips" s_count_right_skips f fd) (cV_check_window : GP P w K mg base 3 "check_window" ["word", "order", "letters"] (SpF T 3 (liftV (fV F_check_window)))) (cV_entries_of : GP P w K mg base 1 "entries_of" ["table"] (SpF T 1 (liftV (fV F_entries_of)))) (cW_safe_in : GP P w K mg base 3 "safe_in" ["word", "order", "letters"] (SpF T 3 (liftV (fW F_safe_in)))) :
    GFn P w K mg base 4 f fd ["word", "order", "letters"] (SpF T 3 F_count_right_skips) := by
  refine gfnJ (k := 3) (N := N_count_right_skips) (ps := ["word", "order", "letters"]) F sc_count_right_skips fun A outer s H hr hg => ?_
  have sc := sc_count_right_skips
  have hu := hr.units
  have hu1 := hu_of hr
  exact (jsCons (jsEx (jCallP (k := 3) (x := "check_window") (ps := ["word", "order", "letters"]) (F := (liftV (fV F_check_window))) (by exact cV_check_window) (by exact hr.mono (by decide)) (by exact hg) (by rfl) (jCons (jv 0) (jCons (jv 1) (jCons (jv 2) jNil)))))
    (jsCons (jsSet (i := 3) sc.nd jInt)
    (jsCons (jsFor PassesOwn.never rfl sim_g3 (jiL (jCallP (k := 1) (x := "entries_of") (ps := ["table"]) (F := (liftV (fV F_entries_of))) (by exact cV_entries_of) (by exact hr.mono (by decide)) (by exact hg) (by rfl) (jCons (jCallP (k := 3) (x := "safe_in") (ps := ["word", "order", "letters"]) (F := (liftV (fW F_safe_in))) (by exact cW_safe_in) (by exact hr.mono (by decide)) (by exact hg) (by rfl) (jCons (jv 0) (jCons (jv 1) (jCons (jv 2) jNil)))) jNil))) (jg3 rfl (jg 4 sc.nd) (jg 5 sc.nd) (jg 6 sc.nd))
    (jsOne (jsAugM (i := 3) sc.nd (jv 6))))
    (jsOne (jsRet (jv 3))))))
def g__law_draws : SS :=
  (sRet (toR (small (aCons (eOp2 gMod (eN gInt (aCons (eVar 0) aNil)) (eOp2 gPow (eOp2 gPow (eOp2 gPow (eC (.int 10)) (eC (.int 60))) (eC (.int 60))) (eC (.int 4)))) (aCons (eC (.int 0)) (aCons (eOp2 gGe (eVar 0) (eOp2 gPow (eC (.int 10)) (eC (.int 18)))) aNil))))))
def F__law_draws : List Dt → Sto → Option (Dt × Sto) := bodyF g__law_draws 1
theorem ok__law_draws {T : List (Addr × Str)} {P : Program} {w : World} {K : PySem.W.Frag} {mg : Str → Option Value} {base : Heap} {f : Addr} {fd : FuncData} (F : FnP K "_law_draws" s__law_draws f fd) (n_int : mg "int" = none) :
    GFn P w K mg base 1 f fd ["_law_cell"] (SpF T 1 F__law_draws) := by
  refine gfnJ (k := 0) (N := N__law_draws) (ps := ["_law_cell"]) F sc__law_draws fun A outer s H hr hg => ?_
  have sc := sc__law_draws
  have hu := hr.units
  have hu1 := hu_of hr
  exact (jsOne (jsRet (jLstR (jCons (jMod (jTy call_int1 vo_int (by rfl) n_int boot_int (jCons (jv 0) jNil)) (jPow (jPow (jPow jInt jInt) jInt) jInt)) (jCons jInt (jCons (jCmp op_ge vGe (jv 0) (jPow jInt jInt)) jNil))))))
def g__law_next : SS :=
  (sSeq (sLP (eVar 0) (eC (.int 1)) (eOp2 gAdd (eOp2 gIx (eVar 0) (eC (.int 1))) (eC (.int 1))))
  (sSeq (sSet 1 (eOp2 gIx (eVar 0) (eC (.int 1))))
  (sSeq (sIf (cB (eOp2 gIx (eVar 0) (eC (.int 2))))
  (sSeq (sSet 2 (eOp2 gMod (eN gInt (aCons (eOp2 gIx (eVar 0) (eC (.int 0))) aNil)) (eOp2 gPow (eC (.int 10)) (eC (.int 6)))))
  (sSeq (sLP (eVar 0) (eC (.int 0)) (eOp2 gDiv (eOp2 gIx (eVar 0) (eC (.int 0))) (eOp2 gPow (eC (.int 10)) (eC (.int 6)))))
  (sRet (eVar 2))))
  sNx)
  (sSeq (sSet 2 (eOp2 gMod (eN gInt (aCons (eOp2 gMulZ (eOp2 gAdd (eOp2 gAdd (eOp2 gMod (eN gInt (aCons (eOp2 gIx (eVar 0) (eC (.int 0))) aNil)) (eC (.int 1000003))) (eOp2 gMulZ (eOp2 gMulZ (eVar 1) (eVar 1)) (eC (.int 7919)))) (eVar 1)) (eC (.int 48271))) aNil)) (eC (.int 2147483629))))
  (sSeq (sSet 2 (eOp2 gMod (eN gInt (aCons (eOp2 gMulZ (eVar 2) (eVar 2)) aNil)) (eC (.int 2147483587))))
  (sRet (eOp2 gDiv (eOp2 gMod (eN gInt (aCons (eOp2 gMulZ (eVar 2) (eOp2 gAdd (eVar 2) (eC (.int 2)))) aNil)) (eC (.int 2147483579))) (eC (.int 7)))))))))
def F__law_next : List Dt → Sto → Option (Dt × Sto) := bodyF g__law_next 3
theorem ok__law_next {T : List (Addr × Str)} {P : Program} {w : World} {K : PySem.W.Frag} {mg : Str → Option Value} {base : Heap} {f : Addr} {fd : FuncData} (F : FnP K "_law_next" s__law_next f fd) (n_int : mg "int" = none) :
    GFn P w K mg base 1 f fd ["_law_draws_here"] (SpF T 1 F__law_next) := by
  refine gfnJ (k := 0) (N := N__law_next) (ps := ["_law_draws_here"]) F sc__law_next fun A outer s H hr hg => ?_
  have sc := sc__law_next
  have hu := hr.units
  have hu1 := hu_of hr
  exact (jsCons (jsLP (jv 0) jInt (jAdd (jIx (by exact hu) (jv 0) jInt) jInt))
    (jsCons (jsSet (i := 1) sc.nd (jIx (by exact hu) (jv 0) jInt))
    (jsCons (jsIf (jtVal (jIx (by exact hu) (jv 0) jInt))
    (jsCons (jsSet (i := 2) sc.nd (jMod (jTy call_int1 vo_int (by rfl) n_int boot_int (jCons (jIx (by exact hu) (jv 0) jInt) jNil)) (jPow jInt jInt)))
    (jsCons (jsLP (jv 0) jInt (jDiv (jIx (by exact hu) (jv 0) jInt) (jPow jInt jInt)))
    (jsOne (jsRet (jv 2)))))
    jsNil)
    (jsCons (jsSet (i := 2) sc.nd (jMod (jTy call_int1 vo_int (by rfl) n_int boot_int (jCons (jMulZ (jAdd (jAdd (jMod (jTy call_int1 vo_int (by rfl) n_int boot_int (jCons (jIx (by exact hu) (jv 0) jInt) jNil)) jInt) (jMulZ (jMulZ (jv 1) (jv 1)) jInt)) (jv 1)) jInt) jNil)) jInt))
    (jsCons (jsSet (i := 2) sc.nd (jMod (jTy call_int1 vo_int (by rfl) n_int boot_int (jCons (jMulZ (jv 2) (jv 2)) jNil)) jInt))
    (jsOne (jsRet (jDiv (jMod (jTy call_int1 vo_int (by rfl) n_int boot_int (jCons (jMulZ (jv 2) (jAdd (jv 2) jInt)) jNil)) jInt) jInt))))))))
def b1__law_shuffled : SS :=
  (sEx (eM isL gApp (eVar 3) (aCons (eM isL gPop (eVar 2) (aCons (eOp2 gMod (eN gInt (aCons (eN (gF 1 (liftE (fE F__law_next))) (aCons (eVar 0) aNil)) aNil)) (eN gLen (aCons (eVar 2) aNil))) aNil)) aNil)))
def w1__law_shuffled : ST :=
  (cB (eOp2 gNeB (eVar 2) (toV (small aNil))))
def g__law_shuffled : SS :=
  (sSeq (sSet 2 (eN gListBR (aCons (eVar 1) aNil)))
  (sSeq (sSet 3 (toR (small aNil)))
  (sSeq (sWh w1__law_shuffled b1__law_shuffled 1000)
  (sRet (eVar 3)))))
def F__law_shuffled : List Dt → Sto → Option (Dt × Sto) := bodyF g__law_shuffled 4
theorem ok__law_shuffled {T : List (Addr × Str)} {P : Program} {w : World} {K : PySem.W.Frag} {mg : Str → Option Value} {base : Heap} {f : Addr} {fd : FuncData} (F : FnP K "_law_shuffled" s__law_shuffled f fd) (cE__law_next : GP P w K mg base 1 "_law_next" ["_law_draws_here"] (SpF T 1 (liftE (fE F__law_next)))) (n_int : mg "int" = none) (n_len : mg "len" = none) (n_list : mg "list" = none) :
    GFn P w K mg base 2 f fd ["_law_draws_here", "_law_things"] (SpF T 2 F__law_shuffled) := by
  refine gfnJ (k := 1) (N := N__law_shuffled) (ps := ["_law_draws_here", "_law_things"]) F sc__law_shuffled fun A outer s H hr hg => ?_
  have sc := sc__law_shuffled
  have hu := hr.units
  have hu1 := hu_of hr
  exact (jsCons (jsSet (i := 2) sc.nd (jTy (call_listB rfl) vo_listBR (by rfl) n_list boot_list (jCons (jv 1) jNil)))
    (jsCons (jsSet (i := 3) sc.nd (jLstR jNil))
    (jsCons (jsWh 1000 (jtCmp (op_NeZ (by exact hr)) vo_NeZ (jv 2) (jLstV jNil))
    (jsOne (jsEx (jApp (jv 3) (jCons (jPop (jv 2) (jCons (jMod (jTy call_int1 vo_int (by rfl) n_int boot_int (jCons (jCallP (k := 1) (x := "_law_next") (ps := ["_law_draws_here"]) (F := (liftE (fE F__law_next))) (by exact cE__law_next) (by exact hr.mono (by decide)) (by exact hg) (by rfl) (jCons (jv 0) jNil)) jNil)) (jB call_lenA vo_len (by rfl) n_len boot_len (jCons (jv 2) jNil))) jNil)) jNil)))))
    (jsOne (jsRet (jv 3))))))
def e1__law_window : SE :=
  (eOp2 gIx (eVar 2) (eOp2 gMod (eN gInt (aCons (eN (gF 1 (liftE (fE F__law_next))) (aCons (eVar 0) aNil)) aNil)) (eN gLen (aCons (eVar 2) aNil))))
def g__law_window : SS :=
  (sSeq (sSet 2 (eOp2 gIx (toV (small (aCons (eC (.str "ab")) (aCons (eC (.str "aB")) (aCons (eC (.str "abc")) (aCons (eC (.str "!~z")) (aCons (eC (.str "a")) aNil))))))) (eOp2 gMod (eN gInt (aCons (eN (gF 1 (liftE (fE F__law_next))) (aCons (eVar 0) aNil)) aNil)) (eC (.int 5)))))
  (sSeq (sSet 3 (eOp2 gAdd (eC (.int 1)) (eOp2 gMod (eN gInt (aCons (eN (gF 1 (liftE (fE F__law_next))) (aCons (eVar 0) aNil)) aNil)) (eVar 1))))
  (sSeq (sSet 4 (eM1 gJoin (eC (.str "")) (toV (lc (iR rg1 (aCons (eVar 3) aNil)) [8] (kName 8) cYes e1__law_window))))
  (sSeq (sSet 5 (eM1 gJoin (eC (.str "")) (eN (gF 2 (liftE (fE F__law_shuffled))) (aCons (eVar 0) (aCons (eOp2 gAdd (eVar 2) (eOp2 gIx (toV (small (aCons (eC (.str "")) (aCons (eC (.str "?Z")) (aCons (eC (.str "*.")) (aCons (eC (.str "_-")) aNil)))))) (eOp2 gMod (eN gInt (aCons (eN (gF 1 (liftE (fE F__law_next))) (aCons (eVar 0) aNil)) aNil)) (eC (.int 4))))) aNil)))))
  (sSeq (sSet 6 (eOp2 gMod (eN gInt (aCons (eN (gF 1 (liftE (fE F__law_next))) (aCons (eVar 0) aNil)) aNil)) (eC (.int 3))))
  (sSeq (sSet 7 (eOp2 gIx (toV (small (aCons (eLR2 (eC (.int 1)) (eOp2 gAdd (eVar 3) (eC (.int 1)))) (aCons (eLDn (eVar 3) (eC (.int 0)) (eNeg (eC (.int 1)))) (aCons (eN (gF 2 (liftE (fE F__law_shuffled))) (aCons (eVar 0) (aCons (eLR2 (eC (.int 1)) (eOp2 gAdd (eVar 3) (eC (.int 1)))) aNil))) aNil))))) (eVar 6)))
  (sRet (toT (aCons (eVar 4) (aCons (eVar 7) (aCons (eVar 5) aNil)))))))))))
def F__law_window : List Dt → Sto → Option (Dt × Sto) := bodyF g__law_window 9
theorem ok__law_window {T : List (Addr × Str)} {P : Program} {w : World} {K : PySem.W.Frag} {mg : Str → Option Value} {base : Heap} {f : Addr} {fd : FuncData} (F : FnP K "_law_window" s__law_window f fd) (cE__law_next : GP P w K mg base 1 "_law_next" ["_law_draws_here"] (SpF T 1 (liftE (fE F__law_next)))) (cE__law_shuffled : GP P w K mg base 2 "_law_shuffled" ["_law_draws_here", "_law_things"] (SpF T 2 (liftE (fE F__law_shuffled)))) (n_int : mg "int" = none) (n_len : mg "len" = none) (n_list : mg "list" = none) (n_range : mg "range" = none) :
    GFn P w K mg base 3 f fd ["_law_draws_here", "_law_most"] (SpF T 2 F__law_window) := by
  refine gfnJ (k := 2) (N := N__law_window) (ps := ["_law_draws_here", "_law_most"]) F sc__law_window fun A outer s H hr hg => ?_
  have sc := sc__law_window
  have hu := hr.units
  have hu1 := hu_of hr
  exact (jsCons (jsSet (i := 2) sc.nd (jIx (by exact hu) (jLstV (jCons jStr (jCons jStr (jCons jStr (jCons jStr (jCons jStr jNil)))))) (jMod (jTy call_int1 vo_int (by rfl) n_int boot_int (jCons (jCallP (k := 1) (x := "_law_next") (ps := ["_law_draws_here"]) (F := (liftE (fE F__law_next))) (by exact cE__law_next) (by exact hr.mono (by decide)) (by exact hg) (by rfl) (jCons (jv 0) jNil)) jNil)) jInt)))
    (jsCons (jsSet (i := 3) sc.nd (jAdd jInt (jMod (jTy call_int1 vo_int (by rfl) n_int boot_int (jCons (jCallP (k := 1) (x := "_law_next") (ps := ["_law_draws_here"]) (F := (liftE (fE F__law_next))) (by exact cE__law_next) (by exact hr.mono (by decide)) (by exact hg) (by rfl) (jCons (jv 0) jNil)) jNil)) (jv 1))))
    (jsCons (jsSet (i := 4) sc.nd (jJoin jStr (jLcV (own := [("_law_at", 8)]) rfl sc.nd sim_gname (jiR1 (by rfl) n_range (jCons (jv 3) jNil)) (blkOk_by (by rfl)) (fun _ _ _ _ _ => (jg 8 sc.nd)) (fun _ _ _ _ _ => jtNil) (fun _ _ _ _ _ => (jIx (by exact hu) (jv 2) (jMod (jTy call_int1 vo_int (by rfl) n_int boot_int (jCons (jCallP (k := 1) (x := "_law_next") (ps := ["_law_draws_here"]) (F := (liftE (fE F__law_next))) (by exact cE__law_next) (by exact hr.mono (by decide)) (by exact hg) (by rfl) (jCons (jv 0) jNil)) jNil)) (jB call_lenA vo_len (by rfl) n_len boot_len (jCons (jv 2) jNil))))) (by decide))))
    (jsCons (jsSet (i := 5) sc.nd (jJoin jStr (jCallP (k := 2) (x := "_law_shuffled") (ps := ["_law_draws_here", "_law_things"]) (F := (liftE (fE F__law_shuffled))) (by exact cE__law_shuffled) (by exact hr.mono (by decide)) (by exact hg) (by rfl) (jCons (jv 0) (jCons (jAdd (jv 2) (jIx (by exact hu) (jLstV (jCons jStr (jCons jStr (jCons jStr (jCons jStr jNil))))) (jMod (jTy call_int1 vo_int (by rfl) n_int boot_int (jCons (jCallP (k := 1) (x := "_law_next") (ps := ["_law_draws_here"]) (F := (liftE (fE F__law_next))) (by exact cE__law_next) (by exact hr.mono (by decide)) (by exact hg) (by rfl) (jCons (jv 0) jNil)) jNil)) jInt))) jNil)))))
    (jsCons (jsSet (i := 6) sc.nd (jMod (jTy call_int1 vo_int (by rfl) n_int boot_int (jCons (jCallP (k := 1) (x := "_law_next") (ps := ["_law_draws_here"]) (F := (liftE (fE F__law_next))) (by exact cE__law_next) (by exact hr.mono (by decide)) (by exact hg) (by rfl) (jCons (jv 0) jNil)) jNil)) jInt))
    (jsCons (jsSet (i := 7) sc.nd (jIx (by exact hu) (jLstV (jCons (jLR2 rfl (by rfl) n_list (by rfl) n_range jInt (jAdd (jv 3) jInt)) (jCons (jLDn rfl (by rfl) n_list (by rfl) n_range (jv 3) jInt (jNeg jInt)) (jCons (jCallP (k := 2) (x := "_law_shuffled") (ps := ["_law_draws_here", "_law_things"]) (F := (liftE (fE F__law_shuffled))) (by exact cE__law_shuffled) (by exact hr.mono (by decide)) (by exact hg) (by rfl) (jCons (jv 0) (jCons (jLR2 rfl (by rfl) n_list (by rfl) n_range jInt (jAdd (jv 3) jInt)) jNil))) jNil)))) (jv 6)))
    (jsOne (jsRet (jTup (jCons (jv 4) (jCons (jv 7) (jCons (jv 5) jNil))))))))))))
def e1__law_least : SE :=
  (eVar 3)
def c1__law_least : ST :=
  (cAnd (cB (eOp2 gGt (eVar 3) (eVar 2))) (cB (eOp2 gNeB (eOp2 gIx (eVar 0) (eOp2 gMin (eOp2 gMin (eVar 3) (eVar 2)) (eC (.int 1)))) (eOp2 gIx (eVar 1) (eVar 3)))))
def b2__law_least : SS :=
  (sIf (cB (eOp2 gEqB (toV (lc (iE itK (eVar 1)) [3] (kName 3) c1__law_least e1__law_least)) (toV (small aNil))))
  (sRet (eVar 2))
  sNx)
def g__law_least : SS :=
  (sSeq (sFor (iR rg2 (aCons (eC (.int 1)) (aCons (eOp2 gAdd (eN gLen (aCons (eVar 0) aNil)) (eC (.int 1))) aNil))) (kName 2)
  b2__law_least)
  (sRet (eC .non)))
def F__law_least : List Dt → Sto → Option (Dt × Sto) := bodyF g__law_least 4
theorem ok__law_least {T : List (Addr × Str)} {P : Program} {w : World} {K : PySem.W.Frag} {mg : Str → Option Value} {base : Heap} {f : Addr} {fd : FuncData} (F : FnP K "_law_least" s__law_least f fd) (n_len : mg "len" = none) (n_range : mg "range" = none) :
    GFn P w K mg base 1 f fd ["_law_noun", "_law_seen"] (SpF T 2 F__law_least) := by
  refine gfnJ (k := 0) (N := N__law_least) (ps := ["_law_noun", "_law_seen"]) F sc__law_least fun A outer s H hr hg => ?_
  have sc := sc__law_least
  have hu := hr.units
  have hu1 := hu_of hr
  exact (jsCons (jsFor PassesOwn.never rfl sim_gname (jiR2 (by rfl) n_range (jCons jInt (jCons (jAdd (jB call_lenA vo_len (by rfl) n_len boot_len (jCons (jv 0) jNil)) jInt) jNil))) (jg 2 sc.nd)
    (jsOne (jsIf (jtCmp (op_EqZ (by exact hr)) vo_EqZ (jLcD (own := [("_law_place", 3)]) rfl sc.nd sim_gname (jdK 1) (blkOk_by (by rfl)) (fun _ _ _ _ _ => (jg 3 sc.nd)) (fun _ _ _ _ _ => (jtOne (PW.pt (jwAnd (jtCmp op_gt vGt (jv 3) (jv 2)) (jwAnd1 (jtCmp (op_NeZ (by exact hr)) vo_NeZ (jIx (by exact hu) (jv 0) (jMin (jMin (jv 3) (jv 2)) jInt)) (jIx (by exact hu) (jv 1) (jv 3)))))))) (fun _ _ _ _ _ => (jv 3)) (by decide)) (jLstV jNil))
    (jsOne (jsRet (jv 2)))
    jsNil)))
    (jsOne (jsRet jNon)))
def b1__law_safe : SS :=
  (sIf (cB (eOp2 gNeB (eVar 7) (eOp2 gIx (eVar 0) (eOp2 gMin (eVar 5) (eC (.int 1))))))
  (sSeq (sSet 8 (eN gDictAR (aCons (eVar 4) aNil)))
  (sSeq (sDP (eVar 8) (eVar 5) (eVar 7))
  (sDP (eVar 6) (eVar 7) (eN (gF 2 (liftV (fV F__law_least))) (aCons (eVar 0) (aCons (eFrz (eVar 8)) aNil))))))
  sNx)
def b2__law_safe : SS :=
  (sSeq (sSet 6 eDR)
  (sSeq (sFor (iE itS (eVar 2)) (kName 7)
  b1__law_safe)
  (sSeq (sEx (eM isL gApp (eVar 3) (aCons (eFrz (eVar 6)) aNil)))
  (sDP (eVar 4) (eVar 5) (eOp2 gIx (eVar 0) (eOp2 gMin (eVar 5) (eC (.int 1))))))))
def g__law_safe : SS :=
  (sSeq (sSet 3 (toR (small aNil)))
  (sSeq (sSet 4 eDR)
  (sSeq (sFor (iE itL (eVar 1)) (kName 5)
  b2__law_safe)
  (sRet (eOp2 gAdd (toV (small (aCons (eN (gF 2 (liftV (fV F__law_least))) (aCons (eVar 0) (aCons (eFrz (eVar 4)) aNil))) aNil))) (eVar 3))))))
def F__law_safe : List Dt → Sto → Option (Dt × Sto) := bodyF g__law_safe 9
theorem ok__law_safe {T : List (Addr × Str)} {P : Program} {w : World} {K : PySem.W.Frag} {mg : Str → Option Value} {base : Heap} {f : Addr} {fd : FuncData} (F : FnP K "_law_safe" s__law_safe f fd) (cV__law_least : GP P w K mg base 1 "_law_least" ["_law_noun", "_law_seen"] (SpF T 2 (liftV (fV F__law_least)))) (n_dict : mg "dict" = none) :
    GFn P w K mg base 2 f fd ["_law_noun", "_law_line", "_law_around"] (SpF T 3 F__law_safe) := by
  refine gfnJ (k := 1) (N := N__law_safe) (ps := ["_law_noun", "_law_line", "_law_around"]) F sc__law_safe fun A outer s H hr hg => ?_
  have sc := sc__law_safe
  have hu := hr.units
  have hu1 := hu_of hr
  exact (jsCons (jsSet (i := 3) sc.nd (jLstR jNil))
    (jsCons (jsSet (i := 4) sc.nd jDR)
    (jsCons (jsFor PassesOwn.never rfl sim_gname (jiL (jv 1)) (jg 5 sc.nd)
    (jsCons (jsSet (i := 6) sc.nd jDR)
    (jsCons (jsFor PassesOwn.never rfl sim_gname (jiS (jv 2)) (jg 7 sc.nd)
    (jsOne (jsIf (jtCmp (op_NeZ (by exact hr)) vo_NeZ (jv 7) (jIx (by exact hu) (jv 0) (jMin (jv 5) jInt)))
    (jsCons (jsSet (i := 8) sc.nd (jTy (call_dictA rfl) vo_dictAR (by rfl) n_dict boot_dict (jCons (jv 4) jNil)))
    (jsCons (jsDP (by exact hu) (jv 8) (jv 5) (jv 7))
    (jsOne (jsDP (by exact hu) (jv 6) (jv 7) (jCallP (k := 1) (x := "_law_least") (ps := ["_law_noun", "_law_seen"]) (F := (liftV (fV F__law_least))) (by exact cV__law_least) (by exact hr.mono (by decide)) (by exact hg) (by rfl) (jCons (jv 0) (jCons (jFrz (jv 8)) jNil)))))))
    jsNil)))
    (jsCons (jsEx (jApp (jv 3) (jCons (jFrz (jv 6)) jNil)))
    (jsOne (jsDP (by exact hu) (jv 4) (jv 5) (jIx (by exact hu) (jv 0) (jMin (jv 5) jInt))))))))
    (jsOne (jsRet (jAdd (jLstV (jCons (jCallP (k := 1) (x := "_law_least") (ps := ["_law_noun", "_law_seen"]) (F := (liftV (fV F__law_least))) (by exact cV__law_least) (by exact hr.mono (by decide)) (by exact hg) (by rfl) (jCons (jv 0) (jCons (jFrz (jv 4)) jNil))) jNil)) (jv 3)))))))
def e1__law_texts : SE :=
  (eOp2 gAdd (eVar 4) (eVar 5))
def e2__law_texts : SE :=
  (toV (lc (iE itS (eVar 0)) [5] (kName 5) cYes e1__law_texts))
def b3__law_texts : SS :=
  (sSet 2 (eN gSumL (aCons (toV (lc (iE itL (eVar 2)) [4] (kName 4) cYes e2__law_texts)) (aCons (toV (small aNil)) aNil))))
def g__law_texts : SS :=
  (sSeq (sSet 2 (toV (small (aCons (eC (.str "")) aNil))))
  (sSeq (sFor (iR rg1 (aCons (eVar 1) aNil)) (kName 3)
  b3__law_texts)
  (sRet (eVar 2))))
def F__law_texts : List Dt → Sto → Option (Dt × Sto) := bodyF g__law_texts 6
theorem ok__law_texts {T : List (Addr × Str)} {P : Program} {w : World} {K : PySem.W.Frag} {mg : Str → Option Value} {base : Heap} {f : Addr} {fd : FuncData} (F : FnP K "_law_texts" s__law_texts f fd) (n_range : mg "range" = none) (n_sum : mg "sum" = none) :
    GFn P w K mg base 1 f fd ["_law_around", "_law_many"] (SpF T 2 F__law_texts) := by
  refine gfnJ (k := 0) (N := N__law_texts) (ps := ["_law_around", "_law_many"]) F sc__law_texts fun A outer s H hr hg => ?_
  have sc := sc__law_texts
  have hu := hr.units
  have hu1 := hu_of hr
  exact (jsCons (jsSet (i := 2) sc.nd (jLstV (jCons jStr jNil)))
    (jsCons (jsFor PassesOwn.never rfl sim_gname (jiR1 (by rfl) n_range (jCons (jv 1) jNil)) (jg 3 sc.nd)
    (jsOne (jsSet (i := 2) sc.nd (jB (cr_sumL rfl) vo_sumL (by rfl) n_sum boot_sum (jCons (jLcV (own := [("_law_ahead", 4)]) rfl sc.nd sim_gname (jiL (jv 2)) (blkOk_by (by rfl)) (fun _ _ _ _ _ => (jg 4 sc.nd)) (fun _ _ _ _ _ => jtNil) (fun _ _ _ _ _ => (jLcV (own := [("_law_sign", 5)]) rfl sc.nd sim_gname (jiS (jv 0)) (blkOk_by (by rfl)) (fun _ _ _ _ _ => (jg 5 sc.nd)) (fun _ _ _ _ _ => jtNil) (fun _ _ _ _ _ => (jAdd (jv 4) (jv 5))) (by decide))) (by decide)) (jCons (jLstV jNil) jNil))))))
    (jsOne (jsRet (jv 2)))))
def e1__law_first : SE :=
  (eVar 6)
def c1__law_first : ST :=
  (cB (eOp2 gNeB (eOp2 gIx (eVar 4) (eOp2 gMin (eVar 6) (eC (.int 1)))) (eOp2 gIx (eVar 2) (eVar 6))))
def b2__law_first : SS :=
  (sIf (cB (eOp2 gEqB (toV (lc (iE itK (eVar 2)) [6] (kName 6) c1__law_first e1__law_first)) (toV (small aNil))))
  (sEx (eM isL gApp (eVar 3) (aCons (eVar 4) aNil)))
  sNx)
def e3__law_first : SE :=
  (eVar 4)
def c3__law_first : ST :=
  (cB (eOp2 gEqB (eSl (eVar 4) (oE (eVar 5)) oNo) (eSl (eVar 0) oNo (oE (eOp2 gMin (eN gLen (aCons (eVar 0) aNil)) (eVar 5))))))
def b4__law_first : SS :=
  (sIf (cB (eOp2 gNeB (toV (lcL (eVar 3) [4] (kName 4) c3__law_first e3__law_first 1000)) (toV (small aNil))))
  (sRet (eVar 5))
  sNx)
def g__law_first : SS :=
  (sSeq (sSet 3 (toR (small aNil)))
  (sSeq (sFor (iE itL (eN (gF 2 (liftV (fV F__law_texts))) (aCons (eVar 1) (aCons (eN gLen (aCons (eVar 0) aNil)) aNil)))) (kName 4)
  b2__law_first)
  (sSeq (sFor (iR rg2 (aCons (eC (.int 1)) (aCons (eOp2 gAdd (eN gLen (aCons (eVar 0) aNil)) (eC (.int 1))) aNil))) (kName 5)
  b4__law_first)
  (sRet (eC .non)))))
def F__law_first : List Dt → Sto → Option (Dt × Sto) := bodyF g__law_first 7
theorem ok__law_first {T : List (Addr × Str)} {P : Program} {w : World} {K : PySem.W.Frag} {mg : Str → Option Value} {base : Heap} {f : Addr} {fd : FuncData} (F : FnP K "_law_first" s__law_first f fd) (cV__law_texts : GP P w K mg base 1 "_law_texts" ["_law_around", "_law_many"] (SpF T 2 (liftV (fV F__law_texts)))) (n_len : mg "len" = none) (n_range : mg "range" = none) :
    GFn P w K mg base 2 f fd ["_law_noun", "_law_around", "_law_seen"] (SpF T 3 F__law_first) := by
  refine gfnJ (k := 1) (N := N__law_first) (ps := ["_law_noun", "_law_around", "_law_seen"]) F sc__law_first fun A outer s H hr hg => ?_
  have sc := sc__law_first
  have hu := hr.units
  have hu1 := hu_of hr
  exact (jsCons (jsSet (i := 3) sc.nd (jLstR jNil))
    (jsCons (jsFor PassesOwn.never rfl sim_gname (jiL (jCallP (k := 1) (x := "_law_texts") (ps := ["_law_around", "_law_many"]) (F := (liftV (fV F__law_texts))) (by exact cV__law_texts) (by exact hr.mono (by decide)) (by exact hg) (by rfl) (jCons (jv 1) (jCons (jB call_lenA vo_len (by rfl) n_len boot_len (jCons (jv 0) jNil)) jNil)))) (jg 4 sc.nd)
    (jsOne (jsIf (jtCmp (op_EqZ (by exact hr)) vo_EqZ (jLcD (own := [("_law_place", 6)]) rfl sc.nd sim_gname (jdK 2) (blkOk_by (by rfl)) (fun _ _ _ _ _ => (jg 6 sc.nd)) (fun _ _ _ _ _ => (jtOne (jtCmp (op_NeZ (by exact hr)) vo_NeZ (jIx (by exact hu) (jv 4) (jMin (jv 6) jInt)) (jIx (by exact hu) (jv 2) (jv 6))))) (fun _ _ _ _ _ => (jv 6)) (by decide)) (jLstV jNil))
    (jsOne (jsEx (jApp (jv 3) (jCons (jv 4) jNil))))
    jsNil)))
    (jsCons (jsFor PassesOwn.never rfl sim_gname (jiR2 (by rfl) n_range (jCons jInt (jCons (jAdd (jB call_lenA vo_len (by rfl) n_len boot_len (jCons (jv 0) jNil)) jInt) jNil))) (jg 5 sc.nd)
    (jsOne (jsIf (jtCmp (op_NeZ (by exact hr)) vo_NeZ (jLcL 1000 (own := [("_law_signs", 4)]) rfl sc.nd sim_gname (jv 3) (blkOk_by (by rfl)) (fun _ _ _ _ _ => (jg 4 sc.nd)) (fun _ _ _ _ _ => (jtOne (jtCmp (op_EqZ (by exact hr)) vo_EqZ (jSl (jv 4) (joSome (jv 5)) joNone) (jSl (jv 0) joNone (joSome (jMin (jB call_lenA vo_len (by rfl) n_len boot_len (jCons (jv 0) jNil)) (jv 5))))))) (fun _ _ _ _ _ => (jv 4)) (by decide)) (jLstV jNil))
    (jsOne (jsRet (jv 5)))
    jsNil)))
    (jsOne (jsRet jNon)))))
def b1__law_small_right : SS :=
  (sIf (cB (eOp2 gNeB (eVar 7) (eOp2 gIx (eVar 0) (eOp2 gMin (eVar 6) (eC (.int 1))))))
  (sSeq (sSet 8 (eN gDictAR (aCons (eVar 4) aNil)))
  (sSeq (sDP (eVar 8) (eVar 6) (eVar 7))
  (sIf (cB (eOp2 gNeB (eOp2 gIx (eOp2 gIx (eVar 3) (eOp2 gAdd (eVar 5) (eC (.int 1)))) (eVar 7)) (eN (gF 3 (liftV (fV F__law_first))) (aCons (eVar 0) (aCons (eVar 2) (aCons (eFrz (eVar 8)) aNil))))))
  (sRet (eC (.bl false)))
  sNx)))
  sNx)
def b2__law_small_right : SS :=
  (sSeq (sFor (iE itS (eVar 2)) (kName 7)
  b1__law_small_right)
  (sDP (eVar 4) (eVar 6) (eOp2 gIx (eVar 0) (eOp2 gMin (eVar 6) (eC (.int 1))))))
def g__law_small_right : SS :=
  (sSeq (sSet 3 (eN (gF 3 (liftV (fW F_safe_skips))) (aCons (eVar 0) (aCons (eVar 1) (aCons (eVar 2) aNil)))))
  (sSeq (sSet 4 eDR)
  (sSeq (sFor (iR en (aCons (eVar 1) aNil)) (kTup (ksCons (kName 5) (ksCons (kName 6) ksNil)))
  b2__law_small_right)
  (sRet (eOp2 gEqB (eOp2 gIx (eVar 3) (eC (.int 0))) (eN (gF 3 (liftV (fV F__law_first))) (aCons (eVar 0) (aCons (eVar 2) (aCons (eFrz (eVar 4)) aNil)))))))))
def F__law_small_right : List Dt → Sto → Option (Dt × Sto) := bodyF g__law_small_right 9
theorem ok__law_small_right {T : List (Addr × Str)} {P : Program} {w : World} {K : PySem.W.Frag} {mg : Str → Option Value} {base : Heap} {f : Addr} {fd : FuncData} (F : FnP K "_law_small_right" s__law_small_right f fd) (cW_safe_skips : GP P w K mg base 4 "safe_skips" ["word", "order", "letters"] (SpF T 3 (liftV (fW F_safe_skips)))) (cV__law_first : GP P w K mg base 2 "_law_first" ["_law_noun", "_law_around", "_law_seen"] (SpF T 3 (liftV (fV F__law_first)))) (n_dict : mg "dict" = none) (n_enumerate : mg "enumerate" = none) :
    GFn P w K mg base 5 f fd ["_law_noun", "_law_line", "_law_around"] (SpF T 3 F__law_small_right) := by
  refine gfnJ (k := 4) (N := N__law_small_right) (ps := ["_law_noun", "_law_line", "_law_around"]) F sc__law_small_right fun A outer s H hr hg => ?_
  have sc := sc__law_small_right
  have hu := hr.units
  have hu1 := hu_of hr
  exact (jsCons (jsSet (i := 3) sc.nd (jCallP (k := 4) (x := "safe_skips") (ps := ["word", "order", "letters"]) (F := (liftV (fW F_safe_skips))) (by exact cW_safe_skips) (by exact hr.mono (by decide)) (by exact hg) (by rfl) (jCons (jv 0) (jCons (jv 1) (jCons (jv 2) jNil)))))
    (jsCons (jsSet (i := 4) sc.nd jDR)
    (jsCons (jsFor PassesOwn.never rfl sim_g2 (jiEn (by rfl) n_enumerate (jCons (jv 1) jNil)) (jg2 rfl (jg 5 sc.nd) (jg 6 sc.nd))
    (jsCons (jsFor PassesOwn.never rfl sim_gname (jiS (jv 2)) (jg 7 sc.nd)
    (jsOne (jsIf (jtCmp (op_NeZ (by exact hr)) vo_NeZ (jv 7) (jIx (by exact hu) (jv 0) (jMin (jv 6) jInt)))
    (jsCons (jsSet (i := 8) sc.nd (jTy (call_dictA rfl) vo_dictAR (by rfl) n_dict boot_dict (jCons (jv 4) jNil)))
    (jsCons (jsDP (by exact hu) (jv 8) (jv 6) (jv 7))
    (jsOne (jsIf (jtCmp (op_NeZ (by exact hr)) vo_NeZ (jIx (by exact hu) (jIx (by exact hu) (jv 3) (jAdd (jv 5) jInt)) (jv 7)) (jCallP (k := 2) (x := "_law_first") (ps := ["_law_noun", "_law_around", "_law_seen"]) (F := (liftV (fV F__law_first))) (by exact cV__law_first) (by exact hr.mono (by decide)) (by exact hg) (by rfl) (jCons (jv 0) (jCons (jv 2) (jCons (jFrz (jv 8)) jNil)))))
    (jsOne (jsRet jBl))
    jsNil))))
    jsNil)))
    (jsOne (jsDP (by exact hu) (jv 4) (jv 6) (jIx (by exact hu) (jv 0) (jMin (jv 6) jInt))))))
    (jsOne (jsRet (jCmp (op_EqZ (by exact hr)) vo_EqZ (jIx (by exact hu) (jv 3) jInt) (jCallP (k := 2) (x := "_law_first") (ps := ["_law_noun", "_law_around", "_law_seen"]) (F := (liftV (fV F__law_first))) (by exact cV__law_first) (by exact hr.mono (by decide)) (by exact hg) (by rfl) (jCons (jv 0) (jCons (jv 2) (jCons (jFrz (jv 4)) jNil))))))))))
def b1__law_right : SS :=
  (sSet 7 (eOp2 gMulZ (eVar 7) (eOp2 gIx (eVar 8) (eVar 11))))
def b2__law_right : SS :=
  (sFor (iE itK (eVar 8)) (kName 11)
  b1__law_right)
def e3__law_right : SE :=
  (eN gListB (aCons (eVar 8) aNil))
def e4__law_right : SE :=
  (eN gSortZ (aCons (eVar 8) aNil))
def e5__law_right : SE :=
  (eVals (eVar 8))
def g__law_right : SS :=
  (sSeq (sSet 4 (eN gRep (aCons (eVar 2) aNil)))
  (sSeq (sSet 5 (eN (gF 3 (liftV (fV F__law_safe))) (aCons (eVar 1) (aCons (eVar 2) (aCons (eVar 3) aNil)))))
  (sSeq (sSet 6 (toV (small (aCons (eN (gF 3 F_safe_skips) (aCons (eVar 1) (aCons (eVar 2) (aCons (eVar 3) aNil)))) (aCons (eN (gFk 3 [2, 1, 0] (liftV (fW F_safe_skips))) (aCons (eVar 3) (aCons (eVar 2) (aCons (eVar 1) aNil)))) aNil)))))
  (sSeq (sIf (cOr (cB (eOp2 gNeC (eVar 6) (toV (small (aCons (eVar 5) (aCons (eVar 5) aNil)))))) (cB (eOp2 gNeC (eN gRep (aCons (eVar 2) aNil)) (eVar 4))))
  (sRet (eC (.bl false)))
  sNx)
  (sSeq (sSet 7 (eOp2 gIx (eVar 5) (eC (.int 0))))
  (sSeq (sFor (iE itL (eSl (eVar 5) (oE (eC (.int 1))) oNo)) (kName 8)
  b2__law_right)
  (sSeq (sIf (cB (eOp2 gNeB (eN gRep (aCons (eOp2 gMulZ (toV (small (aCons (eN (gF 3 (liftV (fV F_count_right_skips))) (aCons (eVar 1) (aCons (eVar 2) (aCons (eVar 3) aNil)))) aNil))) (eC (.int 2))) aNil)) (eN gRep (aCons (toV (small (aCons (eVar 7) (aCons (eVar 7) aNil)))) aNil))))
  (sRet (eC (.bl false)))
  sNx)
  (sSeq (sIf (cB (eOp2 gNeB (eN (gFk 3 [2, 1, 0] (liftV (fV F_count_right_skips))) (aCons (eVar 3) (aCons (eVar 2) (aCons (eVar 1) aNil)))) (eVar 7)))
  (sRet (eC (.bl false)))
  sNx)
  (sSeq (sIf (cB (eOp2 gNeB (toV (lc (iE itL (eSl (eOp2 gIx (eVar 6) (eC (.int 0))) (oE (eC (.int 1))) oNo)) [8] (kName 8) cYes e3__law_right)) (toV (lc (iE itL (eSl (eVar 5) (oE (eC (.int 1))) oNo)) [8] (kName 8) cYes e4__law_right))))
  (sRet (eC (.bl false)))
  sNx)
  (sSeq (sDP (eOp2 gIx (eOp2 gIx (eVar 6) (eC (.int 0))) (eC (.int 1))) (eC (.str "x")) (eC .non))
  (sSeq (sIf (cB (eOp2 gNeC (eSl (eOp2 gIx (eVar 6) (eC (.int 0))) (oE (eC (.int 2))) oNo) (eSl (eVar 5) (oE (eC (.int 2))) oNo)))
  (sRet (eC (.bl false)))
  sNx)
  (sSeq (sEx (eM isL gApp (eOp2 gIx (eVar 6) (eC (.int 0))) (aCons (eC .non) aNil)))
  (sSeq (sIf (cB (eOp2 gNeB (eN (gF 3 (liftV (fW F_safe_skips))) (aCons (eVar 1) (aCons (eVar 2) (aCons (eVar 3) aNil)))) (eVar 5)))
  (sRet (eC (.bl false)))
  sNx)
  (sSeq (sIf (cB (eOp2 gGt (eN gMaxL (aCons (eOp2 gAdd (toV (small (aCons (eOp2 gIx (eVar 5) (eC (.int 0))) aNil))) (eN gSumL (aCons (toV (lc (iE itL (eSl (eVar 5) (oE (eC (.int 1))) oNo)) [8] (kName 8) cYes e5__law_right)) (aCons (toV (small aNil)) aNil)))) aNil)) (eN gLen (aCons (eVar 1) aNil))))
  (sRet (eC (.bl false)))
  sNx)
  (sSeq (sSet 9 (eOp2 gMod (eN gInt (aCons (eN (gF 1 (liftE (fE F__law_next))) (aCons (eVar 0) aNil)) aNil)) (eN gLen (aCons (eVar 2) aNil))))
  (sSeq (sSet 10 (eOp2 gAdd (eN (gF 2 (liftE (fE F__law_shuffled))) (aCons (eVar 0) (aCons (eSl (eVar 2) oNo (oE (eVar 9))) aNil))) (eSl (eVar 2) (oE (eVar 9)) oNo)))
  (sSeq (sSet 6 (eN (gF 3 (liftV (fW F_safe_skips))) (aCons (eVar 1) (aCons (eVar 10) (aCons (eVar 3) aNil)))))
  (sRet (eAndV (eOp2 gEqB (eSl (eVar 6) (oE (eOp2 gAdd (eVar 9) (eC (.int 1)))) oNo) (eSl (eVar 5) (oE (eOp2 gAdd (eVar 9) (eC (.int 1)))) oNo)) (eOp2 gEqB (eOp2 gIx (eVar 6) (eC (.int 0))) (eOp2 gIx (eVar 5) (eC (.int 0)))))))))))))))))))))))
def F__law_right : List Dt → Sto → Option (Dt × Sto) := bodyF g__law_right 12
theorem ok__law_right {T : List (Addr × Str)} {P : Program} {w : World} {K : PySem.W.Frag} {mg : Str → Option Value} {base : Heap} {f : Addr} {fd : FuncData} (F : FnP K "_law_right" s__law_right f fd) (cV__law_safe : GP P w K mg base 2 "_law_safe" ["_law_noun", "_law_line", "_law_around"] (SpF T 3 (liftV (fV F__law_safe)))) (craw_safe_skips : GP P w K mg base 4 "safe_skips" ["word", "order", "letters"] (SpF T 3 F_safe_skips)) (cV_count_right_skips : GP P w K mg base 4 "count_right_skips" ["word", "order", "letters"] (SpF T 3 (liftV (fV F_count_right_skips)))) (cW_safe_skips : GP P w K mg base 4 "safe_skips" ["word", "order", "letters"] (SpF T 3 (liftV (fW F_safe_skips)))) (cE__law_next : GP P w K mg base 1 "_law_next" ["_law_draws_here"] (SpF T 1 (liftE (fE F__law_next)))) (cE__law_shuffled : GP P w K mg base 2 "_law_shuffled" ["_law_draws_here", "_law_things"] (SpF T 2 (liftE (fE F__law_shuffled)))) (qW210_safe_skips : GCq P w K mg base 4 "safe_skips" ["word", "order", "letters"] [2, 1, 0] (SpF T 3 (liftV (fW F_safe_skips)))) (qV210_count_right_skips : GCq P w K mg base 4 "count_right_skips" ["word", "order", "letters"] [2, 1, 0] (SpF T 3 (liftV (fV F_count_right_skips)))) (n_int : mg "int" = none) (n_len : mg "len" = none) (n_list : mg "list" = none) (n_max : mg "max" = none) (n_repr : mg "repr" = none) (n_sorted : mg "sorted" = none) (n_sum : mg "sum" = none) :
    GFn P w K mg base 5 f fd ["_law_draws_here", "_law_noun", "_law_line", "_law_around"] (SpF T 4 F__law_right) := by
  refine gfnJ (k := 4) (N := N__law_right) (ps := ["_law_draws_here", "_law_noun", "_law_line", "_law_around"]) F sc__law_right fun A outer s H hr hg => ?_
  have sc := sc__law_right
  have hu := hr.units
  have hu1 := hu_of hr
  exact (jsCons (jsSet (i := 4) sc.nd (jB (call_rep (by exact hg) (by exact hu)) vo_rep (by rfl) n_repr boot_repr (jCons (jv 2) jNil)))
    (jsCons (jsSet (i := 5) sc.nd (jCallP (k := 2) (x := "_law_safe") (ps := ["_law_noun", "_law_line", "_law_around"]) (F := (liftV (fV F__law_safe))) (by exact cV__law_safe) (by exact hr.mono (by decide)) (by exact hg) (by rfl) (jCons (jv 1) (jCons (jv 2) (jCons (jv 3) jNil)))))
    (jsCons (jsSet (i := 6) sc.nd (jLstV (jCons (jCallP (k := 4) (x := "safe_skips") (ps := ["word", "order", "letters"]) (F := F_safe_skips) (by exact craw_safe_skips) (by exact hr.mono (by decide)) (by exact hg) (by rfl) (jCons (jv 1) (jCons (jv 2) (jCons (jv 3) jNil)))) (jCons (jCallQ (q := [2, 1, 0]) (k := 4) (x := "safe_skips") (ps := ["word", "order", "letters"]) (F := (liftV (fW F_safe_skips))) (by exact qW210_safe_skips) (by exact hr.mono (by decide)) (by exact hg) (by rfl) (jkCons (jv 3) (jkCons (jv 2) (jkCons (jv 1) jkNil))) (by decide)) jNil))))
    (jsCons (jsIf (PW.pt (jwOr (jtCmp (op_NeZ (by exact hr)) vo_NeC (jv 6) (jLstV (jCons (jv 5) (jCons (jv 5) jNil)))) (jwOr1 (jtCmp (op_NeZ (by exact hr)) vo_NeC (jB (call_rep (by exact hg) (by exact hu)) vo_rep (by rfl) n_repr boot_repr (jCons (jv 2) jNil)) (jv 4)))))
    (jsOne (jsRet jBl))
    jsNil)
    (jsCons (jsSet (i := 7) sc.nd (jIx (by exact hu) (jv 5) jInt))
    (jsCons (jsFor PassesOwn.never rfl sim_gname (jiL (jSl (jv 5) (joSome jInt) joNone)) (jg 8 sc.nd)
    (jsOne (jsForD PassesOwn.never rfl sim_gname (jdK 8) (jg 11 sc.nd)
    (jsOne (jsSet (i := 7) sc.nd (jMulZ (jv 7) (jIx (by exact hu) (jv 8) (jv 11))))))))
    (jsCons (jsIf (jtCmp (op_NeZ (by exact hr)) vo_NeZ (jB (call_rep (by exact hg) (by exact hu)) vo_rep (by rfl) n_repr boot_repr (jCons (jMulZ (jLstV (jCons (jCallP (k := 4) (x := "count_right_skips") (ps := ["word", "order", "letters"]) (F := (liftV (fV F_count_right_skips))) (by exact cV_count_right_skips) (by exact hr.mono (by decide)) (by exact hg) (by rfl) (jCons (jv 1) (jCons (jv 2) (jCons (jv 3) jNil)))) jNil)) jInt) jNil)) (jB (call_rep (by exact hg) (by exact hu)) vo_rep (by rfl) n_repr boot_repr (jCons (jLstV (jCons (jv 7) (jCons (jv 7) jNil))) jNil)))
    (jsOne (jsRet jBl))
    jsNil)
    (jsCons (jsIf (jtCmp (op_NeZ (by exact hr)) vo_NeZ (jCallQ (q := [2, 1, 0]) (k := 4) (x := "count_right_skips") (ps := ["word", "order", "letters"]) (F := (liftV (fV F_count_right_skips))) (by exact qV210_count_right_skips) (by exact hr.mono (by decide)) (by exact hg) (by rfl) (jkCons (jv 3) (jkCons (jv 2) (jkCons (jv 1) jkNil))) (by decide)) (jv 7))
    (jsOne (jsRet jBl))
    jsNil)
    (jsCons (jsIf (jtCmp (op_NeZ (by exact hr)) vo_NeZ (jLcV (own := [("_law_row", 8)]) rfl sc.nd sim_gname (jiL (jSl (jIx (by exact hu) (jv 6) jInt) (joSome jInt) joNone)) (blkOk_by (by rfl)) (fun _ _ _ _ _ => (jg 8 sc.nd)) (fun _ _ _ _ _ => jtNil) (fun _ _ _ _ _ => (jTy (call_listB rfl) vo_listB (by rfl) n_list boot_list (jCons (jv 8) jNil))) (by decide)) (jLcV (own := [("_law_row", 8)]) rfl sc.nd sim_gname (jiL (jSl (jv 5) (joSome jInt) joNone)) (blkOk_by (by rfl)) (fun _ _ _ _ _ => (jg 8 sc.nd)) (fun _ _ _ _ _ => jtNil) (fun _ _ _ _ _ => (jB (cr_sortZ rfl (by exact hu)) vo_sortZ (by rfl) n_sorted boot_sorted (jCons (jv 8) jNil))) (by decide)))
    (jsOne (jsRet jBl))
    jsNil)
    (jsCons (jsDP (by exact hu) (jIx (by exact hu) (jIx (by exact hu) (jv 6) jInt) jInt) jStr jNon)
    (jsCons (jsIf (jtCmp (op_NeZ (by exact hr)) vo_NeC (jSl (jIx (by exact hu) (jv 6) jInt) (joSome jInt) joNone) (jSl (jv 5) (joSome jInt) joNone))
    (jsOne (jsRet jBl))
    jsNil)
    (jsCons (jsEx (jApp (jIx (by exact hu) (jv 6) jInt) (jCons jNon jNil)))
    (jsCons (jsIf (jtCmp (op_NeZ (by exact hr)) vo_NeZ (jCallP (k := 4) (x := "safe_skips") (ps := ["word", "order", "letters"]) (F := (liftV (fW F_safe_skips))) (by exact cW_safe_skips) (by exact hr.mono (by decide)) (by exact hg) (by rfl) (jCons (jv 1) (jCons (jv 2) (jCons (jv 3) jNil)))) (jv 5))
    (jsOne (jsRet jBl))
    jsNil)
    (jsCons (jsIf (jtCmp op_gt vGt (jB (cr_max rfl) vo_maxL (by rfl) n_max boot_max' (jCons (jAdd (jLstV (jCons (jIx (by exact hu) (jv 5) jInt) jNil)) (jB (cr_sumL rfl) vo_sumL (by rfl) n_sum boot_sum (jCons (jLcV (own := [("_law_row", 8)]) rfl sc.nd sim_gname (jiL (jSl (jv 5) (joSome jInt) joNone)) (blkOk_by (by rfl)) (fun _ _ _ _ _ => (jg 8 sc.nd)) (fun _ _ _ _ _ => jtNil) (fun _ _ _ _ _ => (jVals rfl (by rfl) n_list (jv 8))) (by decide)) (jCons (jLstV jNil) jNil)))) jNil)) (jB call_lenA vo_len (by rfl) n_len boot_len (jCons (jv 1) jNil)))
    (jsOne (jsRet jBl))
    jsNil)
    (jsCons (jsSet (i := 9) sc.nd (jMod (jTy call_int1 vo_int (by rfl) n_int boot_int (jCons (jCallP (k := 1) (x := "_law_next") (ps := ["_law_draws_here"]) (F := (liftE (fE F__law_next))) (by exact cE__law_next) (by exact hr.mono (by decide)) (by exact hg) (by rfl) (jCons (jv 0) jNil)) jNil)) (jB call_lenA vo_len (by rfl) n_len boot_len (jCons (jv 2) jNil))))
    (jsCons (jsSet (i := 10) sc.nd (jAdd (jCallP (k := 2) (x := "_law_shuffled") (ps := ["_law_draws_here", "_law_things"]) (F := (liftE (fE F__law_shuffled))) (by exact cE__law_shuffled) (by exact hr.mono (by decide)) (by exact hg) (by rfl) (jCons (jv 0) (jCons (jSl (jv 2) joNone (joSome (jv 9))) jNil))) (jSl (jv 2) (joSome (jv 9)) joNone)))
    (jsCons (jsSet (i := 6) sc.nd (jCallP (k := 4) (x := "safe_skips") (ps := ["word", "order", "letters"]) (F := (liftV (fW F_safe_skips))) (by exact cW_safe_skips) (by exact hr.mono (by decide)) (by exact hg) (by rfl) (jCons (jv 1) (jCons (jv 10) (jCons (jv 3) jNil)))))
    (jsOne (jsRet (jAnd (jCmp (op_EqZ (by exact hr)) vo_EqZ (jSl (jv 6) (joSome (jAdd (jv 9) jInt)) joNone) (jSl (jv 5) (joSome (jAdd (jv 9) jInt)) joNone)) (jOne (jCmp (op_EqZ (by exact hr)) vo_EqZ (jIx (by exact hu) (jv 6) jInt) (jIx (by exact hu) (jv 5) jInt)))))))))))))))))))))))
def fz_law : SE := (toV (small (aCons (eC (.int 0)) aNil)))
def fd_law : SE := (eN (gF 1 (liftR (fR F__law_draws))) (aCons (eVar 6) aNil))
def gb_law : SS :=
  (sSeq (sAsg (kTup (ksCons (kName 3) (ksCons (kName 4) (ksCons (kName 5) ksNil)))) (eN (gF 2 (liftE (fE F__law_window))) (aCons (eVar 1) (aCons (eC (.int 7)) aNil))))
  (sSeq (sIf (cNot (cB (eN (gF 4 (liftE (fE F__law_right))) (aCons (eVar 1) (aCons (eVar 3) (aCons (eVar 4) (aCons (eVar 5) aNil)))))))
  (sRet (eC (.bl false)))
  sNx)
  (sSeq (sAsg (kTup (ksCons (kName 3) (ksCons (kName 4) (ksCons (kName 5) ksNil)))) (eN (gF 2 (liftE (fE F__law_window))) (aCons (eVar 1) (aCons (eC (.int 4)) aNil))))
  (sIf (cOr (cNot (cB (eN (gF 4 (liftE (fE F__law_right))) (aCons (eVar 1) (aCons (eVar 3) (aCons (eVar 4) (aCons (eVar 5) aNil))))))) (cNot (cB (eN (gF 3 (liftV (fV F__law_small_right))) (aCons (eVar 3) (aCons (eVar 4) (aCons (eVar 5) aNil)))))))
  (sRet (eC (.bl false)))
  sNx))))
def gr_law : SS :=
  (sSeq (sIf (cB (eOp2 gNeB (eN (gF 3 (liftV (fW F_safe_skips))) (aCons (eC (.str "aba")) (aCons (toV (small (aCons (eC (.int 3)) (aCons (eC (.int 2)) (aCons (eC (.int 1)) aNil))))) (aCons (eC (.str "ab")) aNil)))) (toV (small (aCons (eC (.int 2)) (aCons (dToV (eDisp [((eC (.str "b")), (eC (.int 1)))])) (aCons (dToV (eDisp [((eC (.str "a")), (eC (.int 2)))])) (aCons (dToV (eDisp [((eC (.str "b")), (eC (.int 2)))])) aNil))))))))
  (sRet (eC (.bl false)))
  sNx)
  (sSeq (sSet 2 (toV (small (aCons (eC (.int 2)) (aCons (dToV (eDisp [((eC (.str "a")), (eC (.int 1))), ((eC (.str "c")), (eC (.int 2)))])) (aCons (dToV (eDisp [((eC (.str "a")), (eC (.int 3))), ((eC (.str "c")), (eC (.int 4)))])) (aCons (dToV (eDisp [((eC (.str "b")), (eC (.int 2))), ((eC (.str "c")), (eC (.int 2)))])) (aCons (dToV (eDisp [((eC (.str "b")), (eC (.int 4))), ((eC (.str "c")), (eC (.int 4)))])) aNil))))))))
  (sSeq (sIf (cOr (cB (eOp2 gNeB (eN (gF 3 (liftV (fW F_safe_skips))) (aCons (eC (.str "abab")) (aCons (toV (small (aCons (eC (.int 2)) (aCons (eC (.int 4)) (aCons (eC (.int 1)) (aCons (eC (.int 3)) aNil)))))) (aCons (eC (.str "cab")) aNil)))) (eVar 2))) (cB (eOp2 gNeB (eN (gF 3 (liftV (fV F_count_right_skips))) (aCons (eC (.str "abab")) (aCons (toV (small (aCons (eC (.int 2)) (aCons (eC (.int 4)) (aCons (eC (.int 1)) (aCons (eC (.int 3)) aNil)))))) (aCons (eC (.str "abc")) aNil)))) (eC (.int 3072)))))
  (sRet (eC (.bl false)))
  sNx)
  (sRet (eAndV (eOp2 gEqB (eN (gF 3 (liftV (fW F_safe_skips))) (aCons (eC (.str "a")) (aCons (toV (small (aCons (eC (.int 1)) aNil))) (aCons (eC (.str "a")) aNil)))) (toV (small (aCons (eC (.int 1)) (aCons (eFrz eDR) aNil))))) (eOp2 gEqB (eN (gF 3 (liftV (fV F_count_right_skips))) (aCons (eC (.str "aba")) (aCons (toV (small (aCons (eC (.int 3)) (aCons (eC (.int 2)) (aCons (eC (.int 1)) aNil))))) (aCons (eC (.str "ab")) aNil)))) (eC (.int 8))))))))
theorem ok_law {T : List (Addr × Str)} {P : Program} {w : World} {K : PySem.W.Frag} {mg : Str → Option Value} {base : Heap} {f : Addr} {fd : FuncData} (F : FnP K "law" s_law f fd) (cR__law_draws : GP P w K mg base 1 "_law_draws" ["_law_cell"] (SpF T 1 (liftR (fR F__law_draws)))) (cE__law_window : GP P w K mg base 3 "_law_window" ["_law_draws_here", "_law_most"] (SpF T 2 (liftE (fE F__law_window)))) (cE__law_right : GP P w K mg base 5 "_law_right" ["_law_draws_here", "_law_noun", "_law_line", "_law_around"] (SpF T 4 (liftE (fE F__law_right)))) (cV__law_small_right : GP P w K mg base 5 "_law_small_right" ["_law_noun", "_law_line", "_law_around"] (SpF T 3 (liftV (fV F__law_small_right)))) (cW_safe_skips : GP P w K mg base 4 "safe_skips" ["word", "order", "letters"] (SpF T 3 (liftV (fW F_safe_skips)))) (cV_count_right_skips : GP P w K mg base 4 "count_right_skips" ["word", "order", "letters"] (SpF T 3 (liftV (fV F_count_right_skips)))) {ok : List Int → Prop}
    (hok : ∀ ns, ok ns → ∃ st', gLaw 1 6 4 fz_law fd_law gb_law gr_law ns (List.replicate 7 none) [] = some (.rt (.bl true) st')) :
    GFn P w K mg base 6 f fd ["_law_script"] (SpL T K ok) := by
  refine gfnL (k := 5) (n := 4) (t := tLaw T K 1 6 fz_law fd_law gb_law gr_law) F sc_law (fun A outer s H hr hg => ?_) law_first hok
  have sc := sc_law
  have hu := hr.units
  have hu1 := hu_of hr
  refine pss_cons (ps_for PassesOwn.never rfl (pi_list (pe_lc (own := [("_law_cell", 6)]) rfl sc.nd (pi_list (pe_op op_Add (pe_slice sl_any (pv 0) po_none (po_some pe_int)) ?_)) (blkOk_by (by rfl)) (fun _ _ _ _ _ => jg 6 sc.nd) (fun _ _ _ _ _ => pts_nil) (fun _ _ _ _ _ => ?_))) (jg 1 sc.nd) ?_) ?_
  · exact (jLstV (jCons jInt jNil))
  · exact (jCallP (k := 1) (x := "_law_draws") (ps := ["_law_cell"]) (F := (liftR (fR F__law_draws))) (by exact cR__law_draws) (by exact hr.mono (by decide)) (by exact hg) (by rfl) (jCons (jv 6) jNil))
  · exact (jsCons (jsAsg sim_g3 (jCallP (k := 3) (x := "_law_window") (ps := ["_law_draws_here", "_law_most"]) (F := (liftE (fE F__law_window))) (by exact cE__law_window) (by exact hr.mono (by decide)) (by exact hg) (by rfl) (jCons (jv 1) (jCons jInt jNil))) (jg3 rfl (jg 3 sc.nd) (jg 4 sc.nd) (jg 5 sc.nd)))
    (jsCons (jsIf (jtNot (jtVal (jCallP (k := 5) (x := "_law_right") (ps := ["_law_draws_here", "_law_noun", "_law_line", "_law_around"]) (F := (liftE (fE F__law_right))) (by exact cE__law_right) (by exact hr.mono (by decide)) (by exact hg) (by rfl) (jCons (jv 1) (jCons (jv 3) (jCons (jv 4) (jCons (jv 5) jNil)))))))
    (jsOne (jsRet jBl))
    jsNil)
    (jsCons (jsAsg sim_g3 (jCallP (k := 3) (x := "_law_window") (ps := ["_law_draws_here", "_law_most"]) (F := (liftE (fE F__law_window))) (by exact cE__law_window) (by exact hr.mono (by decide)) (by exact hg) (by rfl) (jCons (jv 1) (jCons jInt jNil))) (jg3 rfl (jg 3 sc.nd) (jg 4 sc.nd) (jg 5 sc.nd)))
    (jsOne (jsIf (PW.pt (jwOr (jtNot (jtVal (jCallP (k := 5) (x := "_law_right") (ps := ["_law_draws_here", "_law_noun", "_law_line", "_law_around"]) (F := (liftE (fE F__law_right))) (by exact cE__law_right) (by exact hr.mono (by decide)) (by exact hg) (by rfl) (jCons (jv 1) (jCons (jv 3) (jCons (jv 4) (jCons (jv 5) jNil))))))) (jwOr1 (jtNot (jtVal (jCallP (k := 5) (x := "_law_small_right") (ps := ["_law_noun", "_law_line", "_law_around"]) (F := (liftV (fV F__law_small_right))) (by exact cV__law_small_right) (by exact hr.mono (by decide)) (by exact hg) (by rfl) (jCons (jv 3) (jCons (jv 4) (jCons (jv 5) jNil)))))))))
    (jsOne (jsRet jBl))
    jsNil)))))
  · exact (jsCons (jsIf (jtCmp (op_NeZ (by exact hr)) vo_NeZ (jCallP (k := 4) (x := "safe_skips") (ps := ["word", "order", "letters"]) (F := (liftV (fW F_safe_skips))) (by exact cW_safe_skips) (by exact hr.mono (by decide)) (by exact hg) (by rfl) (jCons jStr (jCons (jLstV (jCons jInt (jCons jInt (jCons jInt jNil)))) (jCons jStr jNil)))) (jLstV (jCons jInt (jCons (jDispV (ps := [((eC (.str "b")), (eC (.int 1)))]) (jpCons jStr jInt jpNil)) (jCons (jDispV (ps := [((eC (.str "a")), (eC (.int 2)))]) (jpCons jStr jInt jpNil)) (jCons (jDispV (ps := [((eC (.str "b")), (eC (.int 2)))]) (jpCons jStr jInt jpNil)) jNil))))))
    (jsOne (jsRet jBl))
    jsNil)
    (jsCons (jsSet (i := 2) sc.nd (jLstV (jCons jInt (jCons (jDispV (ps := [((eC (.str "a")), (eC (.int 1))), ((eC (.str "c")), (eC (.int 2)))]) (jpCons jStr jInt (jpCons jStr jInt jpNil))) (jCons (jDispV (ps := [((eC (.str "a")), (eC (.int 3))), ((eC (.str "c")), (eC (.int 4)))]) (jpCons jStr jInt (jpCons jStr jInt jpNil))) (jCons (jDispV (ps := [((eC (.str "b")), (eC (.int 2))), ((eC (.str "c")), (eC (.int 2)))]) (jpCons jStr jInt (jpCons jStr jInt jpNil))) (jCons (jDispV (ps := [((eC (.str "b")), (eC (.int 4))), ((eC (.str "c")), (eC (.int 4)))]) (jpCons jStr jInt (jpCons jStr jInt jpNil))) jNil)))))))
    (jsCons (jsIf (PW.pt (jwOr (jtCmp (op_NeZ (by exact hr)) vo_NeZ (jCallP (k := 4) (x := "safe_skips") (ps := ["word", "order", "letters"]) (F := (liftV (fW F_safe_skips))) (by exact cW_safe_skips) (by exact hr.mono (by decide)) (by exact hg) (by rfl) (jCons jStr (jCons (jLstV (jCons jInt (jCons jInt (jCons jInt (jCons jInt jNil))))) (jCons jStr jNil)))) (jv 2)) (jwOr1 (jtCmp (op_NeZ (by exact hr)) vo_NeZ (jCallP (k := 4) (x := "count_right_skips") (ps := ["word", "order", "letters"]) (F := (liftV (fV F_count_right_skips))) (by exact cV_count_right_skips) (by exact hr.mono (by decide)) (by exact hg) (by rfl) (jCons jStr (jCons (jLstV (jCons jInt (jCons jInt (jCons jInt (jCons jInt jNil))))) (jCons jStr jNil)))) jInt))))
    (jsOne (jsRet jBl))
    jsNil)
    (jsOne (jsRet (jAnd (jCmp (op_EqZ (by exact hr)) vo_EqZ (jCallP (k := 4) (x := "safe_skips") (ps := ["word", "order", "letters"]) (F := (liftV (fW F_safe_skips))) (by exact cW_safe_skips) (by exact hr.mono (by decide)) (by exact hg) (by rfl) (jCons jStr (jCons (jLstV (jCons jInt jNil)) (jCons jStr jNil)))) (jLstV (jCons jInt (jCons (jFrz jDR) jNil)))) (jOne (jCmp (op_EqZ (by exact hr)) vo_EqZ (jCallP (k := 4) (x := "count_right_skips") (ps := ["word", "order", "letters"]) (F := (liftV (fV F_count_right_skips))) (by exact cV_count_right_skips) (by exact hr.mono (by decide)) (by exact hg) (by rfl) (jCons jStr (jCons (jLstV (jCons jInt (jCons jInt (jCons jInt jNil)))) (jCons jStr jNil)))) jInt))))))))
end K81

set_option Elab.async false
set_option linter.all false
set_option maxRecDepth 100000
set_option maxHeartbeats 1000000
namespace K81
open PySem PySem.Spec PyProof.Rows L2 HB
theorem run_letter (z : Str) : fV F_is_letter [.str z] = some (.bl (letB z)) := by
  have e : g_is_letter (startD 1 [.str z]) [] = some (.rt (.bl (letB z)) []) := by
    refine s_ret ?_
    unfold letB
    cases h1 : decide (z.cps.toList < ("!" : Str).cps.toList) with
    | true => exact v_chain0 rfl (v_var rfl) (by rw [v_leS, h1]; rfl)
    | false => exact v_chain rfl (v_var rfl) (by rw [v_leS, h1]; rfl) rfl rfl
  exact fV_of (b_rt e) (deref_no rfl)
theorem run_draws (c : Int) : fR F__law_draws [.int c] = some (drw0 c).dt := by
  have p1 : ∀ r st, eOp2 gPow (eC (.int 10)) (eC (.int 60)) r st = some (.int (10 ^ 60), st) := fun r st => v_op rfl rfl (v_gI (by decide +kernel))
  have p2 : ∀ r st, eOp2 gPow (eOp2 gPow (eC (.int 10)) (eC (.int 60))) (eC (.int 60)) r st = some (.int ((10 ^ 60) ^ 60), st) := fun r st => v_op (p1 r st) rfl (v_gI (by decide +kernel))
  have p3 : ∀ r st, eOp2 gPow (eOp2 gPow (eOp2 gPow (eC (.int 10)) (eC (.int 60))) (eC (.int 60))) (eC (.int 4)) r st = some (.int bigM, st) := fun r st => v_op (p2 r st) rfl (v_gI (by decide +kernel))
  have hM : 0 < bigM := by unfold bigM; decide +kernel
  have e : g__law_draws (startD 1 [.int c]) [] = some (.rt (.ref 0) [some (.lst [.int (c % bigM), .int 0, .bl (decide (10 ^ 18 ≤ c))])]) := by
    refine s_ret (v_toR0 (v_small (v_cons (v_op (v_N (v_one (v_var rfl)) rfl) (p3 _ _) (v_gI (decide_eq_true hM))) (v_cons rfl (v_one (v_op (v_var rfl) (v_op rfl rfl (v_gI (by decide +kernel))) rfl)))) (by show 3 ≤ sizeLine; decide)))
  exact fR_lst (b_rt e) rfl rfl
theorem run_next (x : Drw) (hk : x.k < 1000000) : fE F__law_next x.dt [] = some (.int (nextN x).1, (nextN x).2.dt) := by
  obtain ⟨a, k, b⟩ := x
  dsimp only at hk
  have s1 : ∀ {r : Evr} {st st1 st2 st3 : Sto} {fd fk fv : SE} {v : Dt} {i : Nat} {z : Int} {es : List Dt} {j : Nat}, fv r st = some (v, st1) → fd r st1 = some (.ref i, st2) → fk r st2 = some (.int z, st3) → st3[i]? = some (some (.lst es)) → ixN es.length z = some j → sLP fd fk fv r st = some (.nx r (st3.set i (some (.lst (es.set j v))))) := by
    intro r st st1 st2 st3 fd fk fv v i z es j h1 h2 h3 h4 h5
    unfold sLP
    rw [h1]
    show (fd r st1).bind _ = _
    rw [h2]
    show (fk r st2).bind _ = _
    rw [h3]
    show (match st3[i]? with
      | some (some (.lst ds)) => (ixN ds.length z).map fun j => Ou.nx r (st3.set i (some (.lst (ds.set j v))))
      | _ => none) = _
    rw [h4]
    show (ixN es.length z).map _ = _
    rw [h5]
    rfl
  cases b with
  | true =>
    have e : g__law_next (startD 3 [.ref 0]) [some (.lst [.int a, .int (k : Nat), .bl true])] = some (.rt (.int (a % 1000000)) [some (.lst [.int (a / 1000000), .int ((k : Nat) + 1), .bl true])]) := by
      refine s_seq (s1 (v_op (v_op (v_var rfl) rfl rfl) rfl rfl) (v_var rfl) rfl rfl rfl) ?_
      refine s_seq (s_set (v_op (v_var rfl) rfl rfl)) ?_
      refine s_seqRt (s_ifT (t_B (v_op (v_var rfl) rfl rfl)) ?_)
      refine s_seq (s_set (v_op (v_N (v_one (v_op (v_var rfl) rfl rfl)) rfl) (v_op rfl rfl (v_gI (by decide +kernel))) (v_gI (hMd _ _ (by decide +kernel))))) ?_
      refine s_seq (s1 (v_op (v_op (v_var rfl) rfl rfl) (v_op rfl rfl (v_gI (by decide +kernel))) (v_gI (hDv _ _ (by decide +kernel)))) (v_var rfl) rfl rfl rfl) ?_
      exact s_ret (v_var rfl)
    refine fE_of (c' := .lst [.int (a / 1000000), .int ((k : Nat) + 1), .bl true]) (x := .int (a % 1000000)) (b_rt0 e) rfl rfl (deref_no rfl)
  | false =>
    have hk1 : cMul ((k : Int) + 1) ((k : Int) + 1) = true := by unfold cMul; simp only [decide_eq_true_eq]; left; constructor <;> omega
    have hR : ∀ (i j : Int), (-(2 ^ 64) < j ∧ j < 2 ^ 64) → cMul i j = true := fun i j h => by unfold cMul; simp only [decide_eq_true_eq]; exact .inr h
    have n1 : ∀ z : Int, -(2 ^ 64) < z % 2147483629 ∧ z % 2147483629 < 2 ^ 64 := fun z => by
      have a1 := Int.emod_nonneg z (show (2147483629 : Int) ≠ 0 by decide)
      have a2 := Int.emod_lt_of_pos z (show (0 : Int) < 2147483629 by decide)
      omega
    have n2 : ∀ z : Int, -(2 ^ 64) < z % 2147483587 + 2 ∧ z % 2147483587 + 2 < 2 ^ 64 := fun z => by
      have a1 := Int.emod_nonneg z (show (2147483587 : Int) ≠ 0 by decide)
      have a2 := Int.emod_lt_of_pos z (show (0 : Int) < 2147483587 by decide)
      omega
    have e : g__law_next (startD 3 [.ref 0]) [some (.lst [.int a, .int (k : Nat), .bl false])] = some (.rt (.int (mixN a ((k : Nat) + 1))) [some (.lst [.int a, .int ((k : Nat) + 1), .bl false])]) := by
      refine s_seq (s1 (v_op (v_op (v_var rfl) rfl rfl) rfl rfl) (v_var rfl) rfl rfl rfl) ?_
      refine s_seq (s_set (v_op (v_var rfl) rfl rfl)) ?_
      refine s_seq (s_ifF (t_B (v_op (v_var rfl) rfl rfl)) rfl) ?_
      refine s_seq (s_set (v_op (v_N (v_one (v_op (v_op (v_op (v_op (v_N (v_one (v_op (v_var rfl) rfl rfl)) rfl) rfl (v_gI (hMd _ _ (by decide)))) (v_op (v_op (v_var rfl) (v_var rfl) (zMulZ hk1)) rfl (zMulZ (hR _ _ (by decide)))) rfl) (v_var rfl) rfl) rfl (zMulZ (hR _ _ (by decide))))) rfl) rfl (v_gI (hMd _ _ (by decide))))) ?_
      refine s_seq (s_set (v_op (v_N (v_one (v_op (v_var rfl) (v_var rfl) (zMulZ (hR _ _ (n1 _))))) rfl) rfl (v_gI (hMd _ _ (by decide))))) ?_
      exact s_ret (v_op (v_op (v_N (v_one (v_op (v_var rfl) (v_op (v_var rfl) rfl rfl) (zMulZ (hR _ _ (n2 _))))) rfl) rfl (v_gI (hMd _ _ (by decide)))) rfl (v_gI (hDv _ _ (by decide))))
    refine fE_of (c' := .lst [.int a, .int ((k : Nat) + 1), .bl false]) (x := .int (mixN a ((k : Nat) + 1))) (b_rt0 e) rfl rfl (deref_no rfl)
section
variable {ws : List Str} {n : Nat}
theorem run_check_words (hg : Good ws n) : fV F_check_words [WL ws] = some .non := by
  have h1 := hg.l1
  have h5 := hg.l5
  have hn1 := hg.n1
  have hn7 := hg.n7
  obtain ⟨w0, ws', ew⟩ : ∃ w0 ws', ws = w0 :: ws' := by
    cases ws with
    | nil => simp at h1
    | cons x y => exact ⟨x, y, rfl⟩
  have hw0 : w0 ∈ ws := by rw [ew]; simp
  have hx0 : atI (ws.map Dt.str) 0 = some (.str w0) := by rw [ew]; exact atI_zero _ _
  have hl := (for_st (kt := kTup (ksCons (kName 1) (ksCons (kName 2) ksNil))) (g := b2_check_words) (fun p : Str × Nat => Dt.tup [.int p.2, .str p.1]) (fun s : Option Dt × Option Dt => [some (WL ws), s.1, s.2, none]) (fun _ => []) (fun _ p => (some (.int p.2), some (.str p.1))) (fun _ => True) ws.zipIdx (none, none) trivial ?_).1
  · have e : enumL (ws.map Dt.str) = ws.zipIdx.map fun p : Str × Nat => Dt.tup [.int p.2, .str p.1] := by
      unfold enumL
      rw [List.zipIdx_map, List.map_map]
      rfl
    have e2 : g_check_words (startD 4 [WL ws]) [] = some (.nx [some (WL ws), (ws.zipIdx.foldl (fun (_ : Option Dt × Option Dt) (p : Str × Nat) => (some (Dt.int p.2), some (.str p.1))) (none, none)).1, (ws.zipIdx.foldl (fun (_ : Option Dt × Option Dt) (p : Str × Nat) => (some (Dt.int p.2), some (.str p.1))) (none, none)).2, none] []) := by
      have c1 : (1 : Int) ≤ ws.length := by omega
      have c2 : (ws.length : Int) ≤ 5 := by omega
      simp [g_check_words, startD, c1, c2, en]
      rw [e]
      exact hl
    exact fV_of (b_nx e2) (deref_no rfl)
  · rintro ⟨s1, s2⟩ ⟨w, i⟩ hm _
    refine ⟨_, rfl, ?_, trivial⟩
    have hi := List.mem_zipIdx_iff_getElem?.mp hm
    dsimp only at hi
    have hw : w ∈ ws := List.mem_of_getElem? hi
    have hln := hg.len w hw
    have hz := good_len hg hw
    have hlc : lcGo (kName 3) cYes e1_check_words [some (WL ws), some (.int i), some (.str w), none] (w.cps.toList.map fun c => .str ⟨#[c]⟩) [] = some (((w.cps.toList.filter fun _ => true)).map fun c => .bl (letB ⟨#[c]⟩), []) :=
      lcGo_pure _ _ _ _ fun c hc => ⟨_, rfl, rfl, fun _ => by simp [e1_check_words, run_letter]⟩
    rw [List.filter_eq_self.mpr (by simp)] at hlc
    have hall := bools_all w.cps.toList (hg.let_ w hw)
    have hz' : w.cps.size ≤ sizeLine := hz
    have nin : w ∉ ws.take i := by
      intro z
      obtain ⟨j, hj, e⟩ := List.mem_take_iff_getElem.mp z
      have hj' : j < i := by omega
      have := (List.getElem?_inj (i := i) (j := j) (by have := (List.getElem?_eq_some_iff.mp hi).1; omega) hg.nd).mp (by rw [hi, List.getElem?_eq_getElem (by omega), e])
      omega
    have hin : gInZ false [] (.str w) (.lst (cutL (ws.map Dt.str) none (some (i : Int)))) = some (.bl false, []) := v_inF (l := ws.take i) (by rw [cutL_map]; rfl) nin
    have k0 := zLenS (st := []) (good_len hg hw0)
    have k1 := zLenS (st := []) hz
    have c1 : (1 : Int) ≤ n := by omega
    have c2 : (n : Int) ≤ 7 := by omega
    simp [b2_check_words, k1, hln, c1, c2]
    rw [hlc]
    simp [hz', hall, hin]
    simp [zIx hx0, k1, k0, hln, hg.len w0 hw0, hall, hin]
end
theorem run_whole (i : Int) : fV F_is_whole [.int i] = some (.bl true) := fV_of (b_rt (d := .bl true) (st1 := []) rfl) (deref_no rfl)

/-- the window: word, order of looks, letters -/
structure Win (w al ord : List Nat) : Prop where
  n1 : 1 ≤ w.length
  n7 : w.length ≤ 7
  la : ∀ c ∈ al, letB (sg c) = true
  na : al.Nodup
  a5 : al.length ≤ 1000
  sub : ∀ c ∈ w, c ∈ al
  ol : ord.length = w.length
  on : ord.Nodup
  ob : ∀ p ∈ ord, 1 ≤ p ∧ p ≤ w.length
  cov : ∀ q, 1 ≤ q → q ≤ w.length → q ∈ ord
def OD (ord : List Nat) : Dt := .lst (ord.map fun p : Nat => .int p)
theorem nr_ints {l : List Nat} : noRefs (l.map fun p : Nat => Dt.int p) = true := noRefs_map fun _ _ => rfl
@[simp] theorem nrOD {ord : List Nat} : noRef (OD ord) = true := by unfold OD; rw [nrL]; exact nr_ints
section
variable {w al ord : List Nat}
theorem Win.good (h : Win w al ord) : Good [tx w] w.length := ⟨h.n1, h.n7, by simp, by simp, fun v hv => by
  simp at hv; subst hv; simp, fun v hv c hc => by
  simp at hv; subst hv; rw [tx_cps] at hc; exact h.la c (h.sub c hc), by simp⟩
theorem Win.wz (h : Win w al ord) : w.length ≤ sizeLine := by have := h.n7; have := line_ge; omega
theorem Win.az (h : Win w al ord) : al.length ≤ sizeLine := by have := h.a5; have := line_ge; omega
theorem not_mem_take {α : Type} {l : List α} {x : α} {i : Nat} (nd : l.Nodup) (hi : l[i]? = some x) : x ∉ l.take i := by
  intro z
  obtain ⟨j, hj, e⟩ := List.mem_take_iff_getElem.mp z
  have hj' : j < i := by omega
  have := (List.getElem?_inj (i := i) (j := j) (by have := (List.getElem?_eq_some_iff.mp hi).1; omega) nd).mp (by rw [hi, List.getElem?_eq_getElem (by omega), e])
  omega
theorem run_check_order (h : Win w al ord) : fV F_check_order [OD ord, .str (tx w)] = some .non := by
  have k1 := zLenT (st := []) h.wz
  have h1 : enumL (ord.map fun p : Nat => Dt.int p) = ord.zipIdx.map fun p : Nat × Nat => Dt.tup [.int p.2, .int p.1] := by
    unfold enumL; rw [List.zipIdx_map, List.map_map]; rfl
  have H := for_ex (kt := kTup (ksCons (kName 2) (ksCons (kName 3) ksNil))) (g := b1_check_order) (fun p : Nat × Nat => Dt.tup [.int p.2, .int p.1]) (fun s : Option Dt × Option Dt => [some (OD ord), some (.str (tx w)), s.1, s.2]) (fun _ => []) (fun _ p => (some (.int p.2), some (.int p.1))) (fun _ => True) ord.zipIdx (none, none) trivial ?_
  · obtain ⟨⟨q1, q2⟩, hl, -⟩ := H
    have e : ∃ r', g_check_order (startD 4 [OD ord, .str (tx w)]) [] = some (.nx r' []) := by
      refine ⟨[some (OD ord), some (.str (tx w)), q1, q2], ?_⟩
      have e1 : (ord.length : Int) = w.length := by rw [h.ol]
      simp [g_check_order, startD, OD, k1, e1, en, h1]
      exact hl
    obtain ⟨r', e⟩ := e
    exact fV_of (b_nx e) (deref_no rfl)
  · rintro ⟨s1, s2⟩ ⟨p, i⟩ hm _
    refine ⟨_, rfl, ?_, trivial⟩
    have hi := List.mem_zipIdx_iff_getElem?.mp hm
    dsimp only at hi
    have hp := h.ob p (List.mem_of_getElem? hi)
    have c1 : (1 : Int) ≤ p := by omega
    have c2 : (p : Int) ≤ w.length := by omega
    have hin : gInZ false [] (.int p) (.lst (cutL (ord.map fun p : Nat => Dt.int p) none (some (i : Int)))) = some (.bl false, []) := by
      rw [cutL_map, zInI, decide_eq_false (not_mem_take h.on hi)]; rfl
    simp [b1_check_order, run_whole, k1, c1, c2, OD, hin]
theorem run_check_letters (h : Win w al ord) : fV F_check_letters [.str (tx al), .lst [.str (tx w)]] = some .non := by
  have H := for_ex (kt := kTup (ksCons (kName 2) (ksCons (kName 3) ksNil))) (g := b1_check_letters) (fun p : Nat × Nat => Dt.tup [.int p.2, .str (sg p.1)]) (fun s : Option Dt × Option Dt => [some (.str (tx al)), some (.lst [.str (tx w)]), s.1, s.2, none]) (fun _ => []) (fun _ p => (some (.int p.2), some (.str (sg p.1)))) (fun _ => True) al.zipIdx (none, none) trivial ?_
  · obtain ⟨⟨q1, q2⟩, hl, -⟩ := H
    have hz := line_ge
    have e : ∃ r', g_check_letters (startD 5 [.str (tx al), .lst [.str (tx w)]]) [] = some (.nx r' []) := by
      refine ⟨[some (.str (tx al)), some (.lst [.str (tx w)]), q1, q2, none], ?_⟩
      have hlc : ∀ r1 : Option Dt, lcGo (kName 3) cYes e2_check_letters [some (.str (tx al)), some (.lst [.str (tx w)]), r1, none, some (.str (tx w))] (w.map fun c => .str (sg c)) [] = some (w.map fun c => .bl (decide (c ∈ al)), []) := fun r1 =>
        lcGo_map _ _ _ fun c hc => ⟨_, rfl, by simp [e2_check_letters]⟩
      have hall : gAll [] [.lst (w.map fun c => Dt.bl (decide (c ∈ al)))] = some (.bl true, []) := by
        rw [bools_allT]
        have : w.all (fun c => decide (c ∈ al)) = true := by rw [List.all_eq_true]; intro c hc; exact decide_eq_true (h.sub c hc)
        rw [this]
      have hw7 := h.n7
      simp [g_check_letters, startD]
      rw [hl]
      simp [lc2, lc2Go, hlc, hall, h.wz]
    obtain ⟨r', e⟩ := e
    exact fV_of (b_nx e) (deref_no rfl)
  · rintro ⟨s1, s2⟩ ⟨c, i⟩ hm _
    refine ⟨_, rfl, ?_, trivial⟩
    have hi := List.mem_zipIdx_iff_getElem?.mp hm
    dsimp only at hi
    have hc : c ∈ al := List.mem_of_getElem? hi
    have nin := not_mem_take h.na hi
    have e := run_letter (sg c)
    rw [h.la c hc] at e
    simp [b1_check_letters, e, zSlT h.az, cutL_to, nin]
theorem run_check_window (h : Win w al ord) : fV F_check_window [.str (tx w), OD ord, .str (tx al)] = some .non := by
  have hz := line_ge
  have e : g_check_window (startD 3 [.str (tx w), OD ord, .str (tx al)]) [] = some (.nx [some (.str (tx w)), some (OD ord), some (.str (tx al))] []) := by
    have h1 := run_check_words h.good
    have h2 := run_check_order h
    have h3 := run_check_letters h
    have l1 : 1 ≤ sizeLine := by omega
    unfold WL at h1
    simp at h1
    simp [g_check_window, startD, h1, h2, h3, l1]
  exact fV_of (b_nx e) (deref_no rfl)
end
end K81

set_option Elab.async false
set_option linter.all false
set_option maxRecDepth 100000
set_option maxHeartbeats 1000000
namespace K81
open PySem PySem.Spec PyProof.Rows L2 HB
abbrev Row := List Nat × (Nat → Nat)
def rowD (r : Row) : Dt := .dic (r.1.map fun c => Sum.inr (sg c)) (r.1.map fun c => .int (r.2 c))
def tabD (t0 : Nat) (rows : List Row) : Dt := .lst (.int t0 :: rows.map rowD)
@[simp] theorem nr_rowD {r : Row} : noRef (rowD r) = true := by unfold rowD; rw [nrD]; exact noRefs_map fun _ _ => rfl
@[simp] theorem nr_tabD {t0 : Nat} {rows : List Row} : noRef (tabD t0 rows) = true := by
  unfold tabD; rw [nrL, nrCons]
  simp [noRefs_map (f := rowD) (l := rows) fun _ _ => nr_rowD]
theorem pGet_sg (c : Nat) (g : Nat → Dt) : ∀ ks : List Nat, pGet (Sum.inr (sg c)) (ks.map fun c => (Sum.inr (sg c) : Key)) (ks.map g) = if c ∈ ks then some (g c) else none
  | [] => rfl
  | k :: ks => by
    rw [List.map_cons, List.map_cons]
    unfold pGet
    by_cases h : k = c
    · subst h; simp
    · have h1 : ¬ ((Sum.inr (sg k) : Key) = Sum.inr (sg c)) := fun z => h (sg_inj.mp (by injection z))
      rw [if_neg h1, pGet_sg c g ks]
      have : c ≠ k := fun z => h z.symm
      simp [this]
theorem ix_row {st : Sto} {r : Row} {c : Nat} (h : c ∈ r.1) : gIx st (rowD r) (.str (sg c)) = some (.int (r.2 c), st) := zIxD (k := Sum.inr (sg c)) rfl (by rw [pGet_sg, if_pos h])
def chr (s : Str) : Nat := s.cps.toList.headD 0
@[simp] theorem chr_sg (c : Nat) : chr (sg c) = c := rfl
/-- the letters, sorted -/
def sl (al : List Nat) : List Nat := (sortS (al.map sg)).map chr
theorem sl_sg (al : List Nat) : (sl al).map sg = sortS (al.map sg) := by
  unfold sl
  rw [List.map_map]
  have : ∀ s ∈ sortS (al.map sg), (sg ∘ chr) s = s := fun s hs => by
    have hs' := (sortS_perm _).mem_iff.mp hs
    obtain ⟨c, _, rfl⟩ := List.mem_map.mp hs'
    rfl
  conv => rhs; rw [← List.map_id (sortS (al.map sg))]
  exact List.map_congr_left this
theorem sl_perm (al : List Nat) : (sl al).Perm al := by
  have := (sortS_perm (al.map sg)).map chr
  rw [List.map_map] at this
  have e : al.map (chr ∘ sg) = al := by conv => rhs; rw [← List.map_id al]
                                        exact List.map_congr_left fun _ _ => rfl
  rw [e] at this
  exact this
theorem sort_tx {st : Sto} {al : List Nat} (h : al.length ≤ 1000) : gSortZ st [.str (tx al)] = some (.lst ((sl al).map fun c => .str (sg c)), st) := by
  show (if _ then _ else _) = _
  rw [if_pos (by rw [tx_len]; exact h)]
  have : HB.signs (tx al) = al.map sg := by unfold HB.signs; rw [tx_cps]
  rw [this, ← sl_sg, List.map_map]
  rfl
/-- the sign of the word at a place -/
def wAt (w : List Nat) (p : Nat) : Nat := w.getD (p - 1) 0
def oth (w al : List Nat) (p : Nat) : List Nat := al.filter fun c => !decide (c = wAt w p)
structure Tb (w al ord : List Nat) (t0 : Nat) (rows : List Row) : Prop where
  t1 : 1 ≤ t0
  t2 : t0 ≤ w.length
  rl : rows.length = w.length
  nd : ∀ (i : Nat) (r : Row), rows[i]? = some r → r.1.Nodup
  mem : ∀ (i : Nat) (r : Row) (p : Nat), rows[i]? = some r → ord[i]? = some p → ∀ c, c ∈ r.1 ↔ c ∈ al ∧ c ≠ wAt w p
  v1 : ∀ (i : Nat) (r : Row), rows[i]? = some r → ∀ c ∈ r.1, 1 ≤ r.2 c ∧ r.2 c ≤ w.length
section
variable {w al ord : List Nat} {t0 : Nat} {rows : List Row}
end
end K81

set_option Elab.async false
set_option linter.all false
set_option maxRecDepth 100000
set_option maxHeartbeats 1000000
namespace K81
open PySem PySem.Spec PyProof.Rows L2 HB
/-- the sign of the text that is looked at, whether it is another than the word's -/
def tAt (txt : List Nat) (b p : Nat) : Nat := txt.getD (b + p - 1) 0
def mis (w txt : List Nat) (b p : Nat) : Bool := !decide (tAt txt b p = wAt w p)
def fm (w ord txt : List Nat) (b : Nat) : Nat := ord.findIdx (mis w txt b)
def skp (w ord : List Nat) (t0 : Nat) (rows : List Row) (txt : List Nat) (b : Nat) : Nat := if fm w ord txt b < ord.length then (rows.getD (fm w ord txt b) ([], fun _ => 0)).2 (tAt txt b (ord.getD (fm w ord txt b) 0)) else t0
structure Tx (w al txt : List Nat) : Prop where
  z : txt.length ≤ 900
  sub : ∀ c ∈ txt, c ∈ al
section
variable {w al ord txt : List Nat} {t0 : Nat} {rows : List Row}
theorem Tx.tz (t : Tx w al txt) : txt.length ≤ sizeLine := by have := t.z; have := line_ge; omega
theorem getD_mem {l : List Nat} {k : Nat} (h : k < l.length) : l.getD k 0 ∈ l := by
  have : l.getD k 0 = l[k] := by simp [List.getD, h]
  rw [this]; exact List.getElem_mem h
theorem ix_txt {st : Sto} {b p : Nat} {i : Int} (t : Tx w al txt) (hi : i = (b : Int) + p - 1) (hp : 1 ≤ p) (hb : b + p ≤ txt.length) : gIx st (.str (tx txt)) (.int i) = some (.str (sg (tAt txt b p)), st) := ixT (b + p - 1) t.tz (by omega) (by omega)
theorem ix_w {st : Sto} {p : Nat} {i : Int} (h : Win w al ord) (hi : i = (p : Int) - 1) (hp : 1 ≤ p) (hb : p ≤ w.length) : gIx st (.str (tx w)) (.int i) = some (.str (sg (wAt w p)), st) := ixT (p - 1) h.wz (by omega) (by omega)
abbrev eW (w ord : List Nat) (t0 : Nat) (rows : List Row) (txt : List Nat) (b : Nat) (v5 v6 v7 : Option Dt) : Evr := [some (.str (tx w)), some (OD ord), some (tabD t0 rows), some (.str (tx txt)), some (.int b), v5, v6, v7]
end
end K81

set_option Elab.async false
set_option linter.all false
set_option maxRecDepth 100000
set_option maxHeartbeats 1000000
namespace K81
open PySem PySem.Spec PyProof.Rows L2 HB
/-- the search: where it begins, what it has told, how many looks it took -/
def srch (w ord : List Nat) (t0 : Nat) (rows : List Row) (txt : List Nat) : Nat → Nat → List Nat → Nat → List Nat × Nat
  | 0, _, told, lk => (told, lk)
  | n + 1, b, told, lk => if b + w.length ≤ txt.length then srch w ord t0 rows txt n (b + skp w ord t0 rows txt b) (told ++ if fm w ord txt b = w.length then [b + w.length] else []) (lk + min (fm w ord txt b + 1) w.length) else (told, lk)
def IL (l : List Nat) : Dt := .lst (l.map fun p : Nat => .int p)
@[simp] theorem nrIL {l : List Nat} : noRef (IL l) = true := by unfold IL; rw [nrL]; exact nr_ints
theorem s_aug {i : Nat} {g : Sto → Dt → Dt → Option (Dt × Sto)} {f : SE} {r : Evr} {st st1 st2 : Sto} {d y z : Dt} (hi : r[i]? = some (some d)) (hf : f r st = some (y, st1)) (hg : g st1 d y = some (z, st2)) : sAug i g f r st = some (.nx (r.set i (some z)) st2) := by
  unfold sAug; rw [hi]; show (f r st).bind _ = _; rw [hf]; show (g st1 d y).map _ = _; rw [hg]; rfl
theorem v_ifT {c : ST} {fa fb : SE} {r : Evr} {st st1 : Sto} {q : Dt × Sto} (hc : c r st = some (true, st1)) (h : fa r st1 = some q) : eIf c fa fb r st = some q := by rw [zIf, hc, Option.bind_some, if_pos rfl]; exact h
theorem v_ifF {c : ST} {fa fb : SE} {r : Evr} {st st1 : Sto} {q : Dt × Sto} (hc : c r st = some (false, st1)) (h : fb r st1 = some q) : eIf c fa fb r st = some q := by rw [zIf, hc, Option.bind_some, if_neg (by simp)]; exact h
theorem s_par2 {i j : Nat} {fs : SA} {r : Evr} {st st1 : Sto} {x y : Dt} (h : fs r st = some ([x, y], st1)) : sPar [i, j] fs r st = some (.nx ((r.set i (some x)).set j (some y)) st1) := by rw [zPar, h, Option.bind_some]; rfl
theorem v_app {fo : SE} {fs : SA} {r : Evr} {st st1 st2 : Sto} {k : Nat} {ds : List Dt} {y : Dt} (ho : fo r st = some (.ref k, st1)) (hk : st1[k]? = some (some (.lst ds))) (ha : fs r st1 = some ([y], st2)) (hk2 : st2[k]? = some (some (.lst ds))) (hl : ds.length < sizeLine) : eM isL gApp fo fs r st = some (.non, st2.set k (some (.lst (ds ++ [y])))) := by
  unfold eM
  rw [ho]
  show (if isL st1 (.ref k) = true then _ else none) = _
  have : isL st1 (.ref k) = true := by unfold isL asL; dsimp only; rw [hk]; rfl
  rw [if_pos this]
  show (fs r st1).bind _ = _
  rw [ha]
  show gApp st2 (.ref k) [y] = _
  unfold gApp
  dsimp only
  rw [hk2]
  dsimp only
  rw [if_pos hl]
theorem fm_le {w ord txt : List Nat} {b : Nat} (h : ord.length = w.length) : fm w ord txt b ≤ w.length := by unfold fm; rw [← h]; exact List.findIdx_le_length
section
variable {w al ord txt : List Nat} {t0 : Nat} {rows : List Row}
theorem skp_ok (h : Win w al ord) (t : Tb w al ord t0 rows) (tt : Tx w al txt) {b : Nat} (hb : b + w.length ≤ txt.length) : 1 ≤ skp w ord t0 rows txt b ∧ skp w ord t0 rows txt b ≤ w.length ∧ ∀ m r p, fm w ord txt b = m → m < w.length → rows[m]? = some r → ord[m]? = some p → tAt txt b p ∈ r.1 := by
  have key : ∀ m r p, fm w ord txt b = m → m < w.length → rows[m]? = some r → ord[m]? = some p → tAt txt b p ∈ r.1 := fun m r p hm hlt hr hp => by
    have hpo := h.ob p (List.mem_of_getElem? hp)
    refine (t.mem m r p hr hp _).mpr ⟨tt.sub _ (getD_mem (by omega)), fun z => ?_⟩
    have hl2 : ord.findIdx (mis w txt b) < ord.length := by have := h.ol; unfold fm at hm; omega
    have := List.findIdx_getElem (p := mis w txt b) (w := hl2)
    have e : ord[ord.findIdx (mis w txt b)] = p := by
      unfold fm at hm
      subst hm
      rw [List.getElem?_eq_getElem hl2] at hp
      exact Option.some.inj hp
    rw [e] at this
    unfold mis at this
    rw [decide_eq_true z] at this
    cases this
  refine ⟨?_, ?_, key⟩ <;>
  · unfold skp
    split
    · rename_i hlt
      have hol := h.ol
      obtain ⟨r, hr⟩ : ∃ r, rows[fm w ord txt b]? = some r := ⟨rows[fm w ord txt b]'(by rw [t.rl]; omega), List.getElem?_eq_getElem _⟩
      obtain ⟨p, hp⟩ : ∃ p, ord[fm w ord txt b]? = some p := ⟨ord[fm w ord txt b], List.getElem?_eq_getElem hlt⟩
      have er : rows.getD (fm w ord txt b) ([], fun _ => 0) = r := by simp [List.getD, hr]
      have ep : ord.getD (fm w ord txt b) 0 = p := by simp [List.getD, hp]
      rw [er, ep]
      have := t.v1 _ r hr _ (key _ r p rfl (by omega) hr hp)
      omega
    · have := t.t1
      have := t.t2
      omega
abbrev eS (w ord : List Nat) (t0 : Nat) (rows : List Row) (txt : List Nat) (b lk : Nat) (v7 v8 v9 : Option Dt) : Evr := [some (.str (tx w)), some (OD ord), some (tabD t0 rows), some (.str (tx txt)), some (.int b), some (.ref 0), some (.int lk), v7, v8, v9]
/-- what the search answers -/
def res (w ord : List Nat) (t0 : Nat) (rows : List Row) (txt : List Nat) : List Nat × Nat := srch w ord t0 rows txt 1000 0 [] 0
end
end K81

set_option Elab.async false
set_option linter.all false
set_option maxRecDepth 100000
set_option maxHeartbeats 1000000
namespace K81
open PySem PySem.Spec PyProof.Rows L2 HB
def fitB (w : List Nat) (far : Nat) (p : Nat × Nat) : Bool := decide (p.1 ≤ far) || decide (w.getD (p.1 - far - 1) 0 = p.2)
/-- what was seen: places of the word -/
structure Seen (w : List Nat) (ps : List (Nat × Nat)) : Prop where
  ob : ∀ p ∈ ps, 1 ≤ p.1 ∧ p.1 ≤ w.length
  z : ps.length ≤ 1000
theorem call_next {i : Nat} {r : Evr} {st : Sto} {x : Drw} (hi : r[i]? = some (some (.ref 0))) (h0 : st[0]? = some (some x.dt)) (hk : x.k < 1000000) : eN gInt (aCons (eN (gF 1 (liftE (fE F__law_next))) (aCons (eVar i) aNil)) aNil) r st = some (.int (nextN x).1, st.set 0 (some (nextN x).2.dt)) :=
  v_N (v_one (v_N (v_one (v_var hi)) (v_gF rfl (v_Ee (ds := []) (c := x.dt) rfl h0 rfl (run_next x hk))))) rfl
/-! the least number of places by which the word can stand further -/
def lsk (w : List Nat) (ps : List (Nat × Nat)) : Nat := 1 + ((List.range w.length).filter fun i => ps.all (fitB w (1 + i))).headD 0
/-- .. of what was seen, place by place -/
def srows (w al : List Nat) : List (Nat × Nat) → List Nat → List Row
  | _, [] => []
  | seen, p :: ps => (oth w al p, fun c => lsk w (seen ++ [(p, c)])) :: srows w al (seen ++ [(p, wAt w p)]) ps
def sn (w ord : List Nat) : List (Nat × Nat) := ord.map fun p => (p, wAt w p)
section
variable {w al ord txt : List Nat} {t0 : Nat} {rows : List Row} {ps : List (Nat × Nat)}
theorem fit_n (h : ∀ p ∈ ps, p.1 ≤ w.length) : ps.all (fitB w w.length) = true := by
  rw [List.all_eq_true]
  intro p hp
  unfold fitB
  rw [decide_eq_true (h p hp)]
  rfl
theorem lsk_mem (n1 : 1 ≤ w.length) (h : ∀ p ∈ ps, p.1 ≤ w.length) : ∃ k fr', ((List.range w.length).filter fun i => ps.all (fitB w (1 + i))) = k :: fr' := by
  cases hq : (List.range w.length).filter fun i => ps.all (fitB w (1 + i)) with
  | nil =>
    have := List.filter_eq_nil_iff.mp hq (w.length - 1) (List.mem_range.mpr (by omega))
    have e : 1 + (w.length - 1) = w.length := by omega
    rw [e, fit_n h] at this
    exact absurd rfl this
  | cons k l => exact ⟨k, l, rfl⟩
theorem lsk_ok (n1 : 1 ≤ w.length) (h : ∀ p ∈ ps, p.1 ≤ w.length) : 1 ≤ lsk w ps ∧ lsk w ps ≤ w.length ∧ ps.all (fitB w (lsk w ps)) = true := by
  obtain ⟨k, fr, e⟩ := lsk_mem n1 h
  have hm : k ∈ (List.range w.length).filter fun i => ps.all (fitB w (1 + i)) := by rw [e]; simp
  obtain ⟨h1, h2⟩ := List.mem_filter.mp hm
  have := List.mem_range.mp h1
  have el : lsk w ps = 1 + k := by unfold lsk; rw [e]; rfl
  rw [el]
  exact ⟨by omega, by omega, h2⟩
theorem head_le {p : Nat → Bool} {n i k : Nat} {l : List Nat} (e : (List.range n).filter p = k :: l) (hi : i < n) (hp : p i = true) : k ≤ i := by
  have hs : ((List.range n).filter p).Pairwise (· < ·) := List.Pairwise.filter _ List.pairwise_lt_range
  have hm : i ∈ (List.range n).filter p := List.mem_filter.mpr ⟨List.mem_range.mpr hi, hp⟩
  rw [e] at hs hm
  rcases List.mem_cons.mp hm with z | z
  · omega
  · have := (List.pairwise_cons.mp hs).1 i z
    omega
theorem lsk_le (n1 : 1 ≤ w.length) (h : ∀ p ∈ ps, p.1 ≤ w.length) {far : Nat} (h1 : 1 ≤ far) (h2 : far ≤ w.length) (hf : ps.all (fitB w far) = true) : lsk w ps ≤ far := by
  obtain ⟨k, fr, e⟩ := lsk_mem n1 h
  have el : lsk w ps = 1 + k := by unfold lsk; rw [e]; rfl
  have := head_le (i := far - 1) e (by omega) (by
    have e' : 1 + (far - 1) = far := by omega
    rw [e']; exact hf)
  omega
theorem srows_len : ∀ (ps : List Nat) (seen : List (Nat × Nat)), (srows w al seen ps).length = ps.length
  | [], _ => rfl
  | p :: ps, seen => by unfold srows; rw [List.length_cons, List.length_cons, srows_len ps]
theorem srows_get : ∀ (ps : List Nat) (seen : List (Nat × Nat)) (i : Nat) (p : Nat), ps[i]? = some p → (srows w al seen ps)[i]? = some (oth w al p, fun c => lsk w (seen ++ sn w (ps.take i) ++ [(p, c)]))
  | [], _, i, p, h => by simp at h
  | q :: ps, seen, 0, p, h => by
    simp at h
    subst h
    unfold srows sn
    simp
  | q :: ps, seen, i + 1, p, h => by
    simp at h
    unfold srows
    rw [List.getElem?_cons_succ, srows_get ps _ i p h]
    unfold sn
    simp
/-- what was seen in a window -/
def see (w ord txt : List Nat) (b : Nat) : List (Nat × Nat) := (ord.take (fm w ord txt b + 1)).map fun p => (p, tAt txt b p)
theorem see_head (b : Nat) : (ord.take (fm w ord txt b)).map (fun p => (p, tAt txt b p)) = sn w (ord.take (fm w ord txt b)) := by
  unfold sn
  refine List.map_congr_left fun p hp => ?_
  obtain ⟨i, hi, e⟩ := List.mem_take_iff_getElem.mp hp
  have hlt : i < fm w ord txt b := by omega
  have := List.not_of_lt_findIdx (p := mis w txt b) (xs := ord) (i := i) hlt
  rw [e] at this
  unfold mis at this
  simp at this
  rw [this]
theorem skp_safe (hol : ord.length = w.length) (b : Nat) : skp w ord (lsk w (sn w ord)) (srows w al [] ord) txt b = lsk w (see w ord txt b) := by
  unfold skp see
  by_cases hf : fm w ord txt b < ord.length
  · rw [if_pos hf]
    have hp : ord[fm w ord txt b]? = some ord[fm w ord txt b] := List.getElem?_eq_getElem hf
    have hg := srows_get (w := w) (al := al) ord [] (fm w ord txt b) _ hp
    have e1 : (srows w al [] ord).getD (fm w ord txt b) ([], fun _ => 0) = (oth w al ord[fm w ord txt b], fun c => lsk w ([] ++ sn w (ord.take (fm w ord txt b)) ++ [(ord[fm w ord txt b], c)])) := by
      rw [List.getD, hg]; rfl
    have e2 : ord.getD (fm w ord txt b) 0 = ord[fm w ord txt b] := by rw [List.getD, hp]; rfl
    rw [e1, e2]
    dsimp only
    rw [List.take_add_one, hp, List.map_append, see_head]
    simp
  · rw [if_neg hf]
    have hle : fm w ord txt b ≤ ord.length := by unfold fm; exact List.findIdx_le_length
    have e : fm w ord txt b = ord.length := by omega
    have e2 := see_head (w := w) (ord := ord) (txt := txt) b
    rw [e, List.take_of_length_le (by omega)] at e2
    rw [e, List.take_of_length_le (by omega), e2]
/-! walks by skips -/
def wk (f : Nat → Nat) (L N : Nat) : Nat → Nat → List Nat
  | 0, _ => []
  | n + 1, b => if b + L ≤ N then b :: wk f L N n (b + f b) else []
theorem wk_no {f : Nat → Nat} {L N : Nat} : ∀ (n b : Nat), N < b + L → wk f L N n b = []
  | 0, _, _ => rfl
  | n + 1, b, h => by unfold wk; rw [if_neg (by omega)]
theorem wk_sub {f g : Nat → Nat} {L N : Nat} (hg : ∀ b, b + L ≤ N → 1 ≤ g b) (hc : ∀ b d, d < f b → b + d + L ≤ N → d + g (b + d) ≤ f b) (hf : ∀ b, b + L ≤ N → 1 ≤ f b) : ∀ (m n a c : Nat), a ≤ c → (∀ e, a ≤ e → e < c → e + L ≤ N → e + g e ≤ c) → N < a + m → (wk f L N n c).Sublist (wk g L N m a)
  | 0, n, a, c, hac, _, hm => by rw [wk_no n c (by omega)]; exact List.nil_sublist _
  | m + 1, n, a, c, hac, he, hm => by
    by_cases hv : a + L ≤ N
    · have ew : wk g L N (m + 1) a = a :: wk g L N m (a + g a) := by
        show (if a + L ≤ N then a :: wk g L N m (a + g a) else []) = _
        rw [if_pos hv]
      rw [ew]
      have h1 := hg a hv
      by_cases hlt : a < c
      · have := he a (Nat.le_refl _) hlt hv
        exact (wk_sub hg hc hf m n (a + g a) c this (fun e h1 h2 h3 => he e (by omega) h2 h3) (by omega)).cons a
      · have hac' : a = c := by omega
        subst hac'
        cases n with
        | zero => exact List.nil_sublist _
        | succ n =>
          have ef : wk f L N (n + 1) a = a :: wk f L N n (a + f a) := by
            show (if a + L ≤ N then a :: wk f L N n (a + f a) else []) = _
            rw [if_pos hv]
          rw [ef]
          have hfa := hf a hv
          have h0 := hc a 0 (by omega) (by omega)
          refine (wk_sub hg hc hf m n (a + g a) (a + f a) (by simpa using h0) (fun e h1 h2 h3 => ?_) (by omega)).cons_cons a
          have := hc a (e - a) (by omega) (by omega)
          have e1 : a + (e - a) = e := by omega
          rw [e1] at this
          omega
    · rw [wk_no n c (by omega)]
      exact List.nil_sublist _
theorem sum_sub : ∀ {l m : List Nat}, l.Sublist m → l.sum ≤ m.sum
  | _, _, .slnil => Nat.le_refl _
  | _, _, .cons a h => by have := sum_sub h; rw [List.sum_cons]; omega
  | _, _, .cons₂ a h => by have := sum_sub h; rw [List.sum_cons, List.sum_cons]; omega
theorem srch_wk : ∀ (n b : Nat) (told : List Nat) (lk : Nat), (srch w ord t0 rows txt n b told lk).2 = lk + ((wk (skp w ord t0 rows txt) w.length txt.length n b).map fun b => min (fm w ord txt b + 1) w.length).sum
  | 0, b, told, lk => by unfold srch wk; simp
  | n + 1, b, told, lk => by
    unfold srch wk
    by_cases hb : b + w.length ≤ txt.length
    · rw [if_pos hb, if_pos hb, srch_wk n, List.map_cons, List.sum_cons]
      omega
    · rw [if_neg hb, if_neg hb]; simp
end
end K81

set_option Elab.async false
set_option linter.all false
set_option maxRecDepth 100000
set_option maxHeartbeats 1000000
namespace K81
open PySem PySem.Spec PyProof.Rows L2 HB
section
variable {w al ord txt : List Nat} {t0 : Nat} {rows : List Row}
theorem pGet_sDn {ps : List (Nat × Nat)} (nd : (ps.map (·.1)).Nodup) {p : Nat × Nat} (hp : p ∈ ps) : pGet (Sum.inl (p.1 : Int)) (ps.map fun p => (Sum.inl (p.1 : Int) : Key)) (ps.map fun p => Dt.str (sg p.2)) = some (.str (sg p.2)) := by
  have ndk : (ps.map fun p => (Sum.inl (p.1 : Int) : Key)).Nodup := by
    have : (ps.map fun p => (Sum.inl (p.1 : Int) : Key)) = (ps.map (·.1)).map fun n : Nat => (Sum.inl (n : Int) : Key) := by rw [List.map_map]; rfl
    rw [this]
    exact List.Pairwise.map _ (fun a b hab z => hab (by injection z with z; omega)) nd
  have hz : (((Sum.inl (p.1 : Int) : Key)), Dt.str (sg p.2)) ∈ (ps.map fun p => (Sum.inl (p.1 : Int) : Key)).zip (ps.map fun p => Dt.str (sg p.2)) := by
    rw [List.zip_map']
    exact List.mem_map.mpr ⟨p, hp, rfl⟩
  exact pGet_mem ndk _ hz
theorem run_least (h : Win w al ord) {ps : List (Nat × Nat)} (hs : Seen w ps) (nd : (ps.map (·.1)).Nodup) : fV F__law_least [.str (tx w), sD ps] = some (.int (lsk w ps)) := by
  have hz := line_ge
  have n7 := h.n7
  have n1 := h.n1
  let ls : Nat → List Nat := fun i => (ps.filter fun p => !fitB w (1 + i) p).map (·.1)
  have hl1 : ∀ i, lcGo (kName 3) c1__law_least e1__law_least [some (.str (tx w)), some (sD ps), some (.int (1 + (i : Nat))), none] (ps.map fun p => Dt.int p.1) [] = some ((ls i).map fun p : Nat => .int p, []) := fun i => by
    have e := lcGo_pure (r := [some (.str (tx w)), some (sD ps), some (.int (1 + (i : Nat))), none]) (st := []) (kt := kName 3) (c := c1__law_least) (f := e1__law_least) (fun p : Nat × Nat => Dt.int p.1) (fun p => !fitB w (1 + i) p) (fun p : Nat × Nat => Dt.int p.1) ps fun p hp => ?_
    · rw [e]
      simp only [ls]
      rw [List.map_map]
      rfl
    · have hb := hs.ob p hp
      have hc := pGet_sDn nd hp
      refine ⟨_, rfl, ?_, fun _ => v_var rfl⟩
      have c0 : cB (eOp2 gGt (eVar 3) (eVar 2)) [some (.str (tx w)), some (sD ps), some (.int (1 + (i : Nat))), some (.int p.1)] [] = some (decide ((1 + i : Nat) < p.1), []) := t_B (v_op (v_var rfl) (v_var rfl) (by rw [zGt]; congr 3; simp only [decide_eq_decide]; omega))
      by_cases hlt : 1 + i < p.1
      · rw [decide_eq_true hlt] at c0
        refine t_andT c0 (t_B (v_op (v_op (v_var rfl) (v_op (v_op (v_var rfl) (v_var rfl) zMin) rfl zMin) (ixT (p.1 - (1 + i) - 1) h.wz (by omega) (by omega))) (v_op (v_var rfl) (v_var rfl) (zIxD (k := Sum.inl (p.1 : Int)) rfl hc)) ?_))
        rw [zNeS]
        unfold fitB
        rw [decide_eq_false (by omega : ¬ p.1 ≤ 1 + i)]
        simp only [sg_inj, Bool.false_or]
      · rw [decide_eq_false hlt] at c0
        unfold fitB
        rw [decide_eq_true (by omega : p.1 ≤ 1 + i), Bool.true_or]
        exact t_andF c0
  have hlz : ∀ i, (ls i).length ≤ 1000 := fun i => by
    simp only [ls]
    rw [List.length_map]
    have := List.length_filter_le (fun p => !fitB w (1 + i) p) ps
    have := hs.z
    omega
  have hla : ∀ i, decide (ls i = []) = ps.all (fitB w (1 + i)) := fun i => by
    rw [Bool.eq_iff_iff, decide_eq_true_eq, List.all_eq_true]
    simp only [ls]
    rw [List.map_eq_nil_iff, List.filter_eq_nil_iff]
    simp
  obtain ⟨v', hf⟩ := for_find (kt := kName 2) (g := b2__law_least) (st := []) (fun i : Nat => Dt.int (1 + (i : Nat))) (fun i => ps.all (fitB w (1 + i))) (fun i => .int (1 + (i : Nat))) (fun v => [some (.str (tx w)), some (sD ps), v, none]) (List.range w.length) none fun i hi v => by
    refine ⟨_, rfl, ?_⟩
    have c0 : cB (eOp2 gEqB (toV (lc (iE itK (eVar 1)) [3] (kName 3) c1__law_least e1__law_least)) (toV (small aNil))) [some (.str (tx w)), some (sD ps), some (.int (1 + (i : Nat))), none] [] = some (decide (ls i = []), []) := by
      refine t_B (v_op (v_toV (v_lc (v_iE (v_var rfl) (show itK [] (sD ps) = some (ps.map fun p => Dt.int p.1) by unfold sD; rw [zItK, List.map_map]; rfl)) (hl1 i) (by rw [List.length_map]; exact Nat.le_trans (hlz i) (by omega)))) (v_toV (v_smallN v_nil (by show 0 ≤ _; omega))) zEqLI0)
    rw [hla i] at c0
    cases hls : ps.all (fitB w (1 + i)) with
    | true =>
      rw [hls] at c0
      rw [if_pos rfl]
      exact s_ifT c0 (s_ret (v_var rfl))
    | false =>
      rw [hls] at c0
      rw [if_neg (by simp)]
      exact s_ifF c0 rfl
  obtain ⟨k, fr', hfr⟩ := lsk_mem (w := w) (ps := ps) n1 (fun p hp => (hs.ob p hp).2)
  have el : lsk w ps = 1 + k := by unfold lsk; rw [hfr]; rfl
  have hfd : (List.range w.length).find? (fun i => ps.all (fitB w (1 + i))) = some k := by
    rw [← List.head?_filter, hfr]
    rfl
  rw [hfd] at hf
  have e : g__law_least (startD 4 [.str (tx w), sD ps]) [] = some (.rt (.int (1 + (k : Nat))) []) :=
    s_seqRt (s_for (v_iR (v_cons rfl (v_one (v_op (v_N (v_one (v_var rfl)) (zLenT h.wz)) rfl zAddI))) (rg_one (by omega))) hf)
  rw [el]
  exact fV_of (b_rt e) (deref_no rfl)
theorem find_ex {α : Type} {p : α → Bool} {l : List α} {a : α} (h : a ∈ l) (hp : p a = true) : ∃ b ∈ l, l.find? p = some b := by
  cases hf : l.find? p with
  | none => exact absurd hp (by have := List.find?_eq_none.mp hf a h; simpa using this)
  | some b => exact ⟨b, List.mem_of_find?_eq_some hf, rfl⟩
/-- a row of what was drawn is put behind -/
theorem pPut_row {c v : Nat} {r : Row} (h : c ∉ r.1) : pPut (Sum.inr (sg c)) (Dt.int v) (r.1.map fun c => (Sum.inr (sg c) : Key)) (r.1.map fun c => Dt.int (r.2 c)) = ((r.1 ++ [c]).map fun c => (Sum.inr (sg c) : Key), (r.1 ++ [c]).map fun d => Dt.int ((fun d => if d = c then v else r.2 d) d : Nat)) := by
  unfold pPut
  rw [if_neg]
  · rw [List.map_append, List.map_append]
    have : (r.1.map fun d => Dt.int ((fun d => if d = c then v else r.2 d) d : Nat)) = r.1.map fun c => Dt.int (r.2 c) := List.map_congr_left fun d hd => by
      have : d ≠ c := fun z => h (z ▸ hd)
      simp [this]
    rw [this]
    simp
  · rw [List.any_eq_true]
    rintro ⟨x, hx, e⟩
    obtain ⟨q, hq, rfl⟩ := List.mem_map.mp hx
    have e' := of_decide_eq_true e
    injection e' with e'
    exact h (sg_inj.mp e' ▸ hq)
abbrev eA (w ord al : List Nat) (v5 v6 v7 v8 : Option Dt) : Evr := [some (.str (tx w)), some (OD ord), some (.str (tx al)), some (.ref 0), some (.ref 1), v5, v6, v7, v8]
theorem v_frz {f : SE} {r : Evr} {st st1 : Sto} {k : Nat} {d : Dt} (h : f r st = some (.ref k, st1)) (hk : st1[k]? = some (some d)) : eFrz f r st = some (d, st1.set k none) := by
  unfold eFrz; rw [h]; show (match st1[k]? with | some (some d) => some (d, st1.set k none) | _ => none) = _; rw [hk]
theorem safe_inner (h : Win w al ord) {p : Nat} (hp : 1 ≤ p ∧ p ≤ w.length) {seen : List (Nat × Nat)} (hs : Seen w seen) (snd : (seen.map (·.1)).Nodup) (hz : seen.length < 900) (hps : p ∉ seen.map (·.1)) {told : Dt} {k : Nat} (hk : 2 ≤ k) : ∀ (cs : List Nat) (r : Row) (st : Sto) (v7 v8 : Option Dt), (∀ c ∈ cs, c ∉ r.1) → cs.Nodup → r.1.length + cs.length ≤ 1000 → st[0]? = some (some told) → st[1]? = some (some (sD seen)) → st[k]? = some (some (rowD r)) → (∀ c ∈ r.1, r.2 c = lsk w (seen ++ [(p, c)])) →
    ∃ r' st' v7' v8', sForGo (kName 7) b1__law_safe (cs.map fun c => .str (sg c)) (eA w ord al (some (.int p)) (some (.ref k)) v7 v8) st = some (.nx (eA w ord al (some (.int p)) (some (.ref k)) v7' v8') st') ∧ st'[0]? = some (some told) ∧ st'[1]? = some (some (sD seen)) ∧ st'[k]? = some (some (rowD r')) ∧ r'.1 = r.1 ++ oth w cs p ∧ ∀ c ∈ r'.1, r'.2 c = lsk w (seen ++ [(p, c)])
  | [], r, st, v7, v8, _, _, _, h0, h1, h2, hv => ⟨r, st, v7, v8, rfl, h0, h1, h2, by simp [oth], hv⟩
  | c :: cs, r, st, v7, v8, hc, nd, hl, h0, h1, h2, hv => by
    have hsl := line_ge
    rw [List.length_cons] at hl
    have c0 : cB (eOp2 gNeB (eVar 7) (eOp2 gIx (eVar 0) (eOp2 gMin (eVar 5) (eC (.int 1))))) (eA w ord al (some (.int p)) (some (.ref k)) (some (.str (sg c))) v8) st = some (!decide (c = wAt w p), st) :=
      t_B (v_op (v_var rfl) (v_op (v_var rfl) (v_op (v_var rfl) rfl zMin) (ix_w h rfl hp.1 hp.2)) (by rw [zNeS]; simp only [sg_inj]))
    by_cases hcw : c = wAt w p
    · rw [decide_eq_true hcw] at c0
      obtain ⟨r', st', v7', v8', e1, e2, e3, e4, e5, e6⟩ := safe_inner h hp hs snd hz hps hk cs r st (some (.str (sg c))) v8 (fun d hd => hc d (by simp [hd])) (List.nodup_cons.mp nd).2 (by omega) h0 h1 h2 hv
      refine ⟨r', st', v7', v8', for_cons (r1 := eA w ord al (some (.int p)) (some (.ref k)) (some (.str (sg c))) v8) rfl (s_ifF c0 rfl) e1, e2, e3, e4, ?_, e6⟩
      rw [e5]
      unfold oth
      rw [List.filter_cons_of_neg (by simp [hcw])]
    · rw [decide_eq_false hcw] at c0
      have hkl : k < st.length := (List.getElem?_eq_some_iff.mp h2).1
      have h1l : 1 < st.length := by omega
      have hlv := run_least h (ps := seen ++ [(p, c)]) ⟨fun q hq => by
        rcases List.mem_append.mp hq with hq | hq
        · exact hs.ob q hq
        · simp at hq; rw [hq]; exact hp, by rw [List.length_append]; simp; omega⟩ (by
        rw [List.map_append, List.nodup_append]
        exact ⟨snd, by simp, fun a ha b hb z => by simp at hb; subst hb; subst z; exact hps ha⟩)
      let v := lsk w (seen ++ [(p, c)])
      let S1 : Sto := st ++ [some (sD seen)]
      let S2 : Sto := S1.set st.length (some (sD (seen ++ [(p, c)])))
      let S3 : Sto := S2.set st.length none
      let r1 : Row := (r.1 ++ [c], fun d => if d = c then v else r.2 d)
      let S4 : Sto := S3.set k (some (rowD r1))
      have l1 : S1.length = st.length + 1 := by simp [S1]
      have a1 : sSet 8 (eN gDictAR (aCons (eVar 4) aNil)) (eA w ord al (some (.int p)) (some (.ref k)) (some (.str (sg c))) v8) st = some (.nx (eA w ord al (some (.int p)) (some (.ref k)) (some (.str (sg c))) (some (.ref st.length))) S1) := by
        refine s_set (v_N (v_one (v_var rfl)) ?_)
        show (match asD st (.ref 1) with | some p => some (Dt.ref st.length, st ++ [some (Dt.dic p.1 p.2)]) | none => gDictPR st [.ref 1]) = _
        have : asD st (.ref 1) = some (seen.map fun p => (Sum.inl (p.1 : Int) : Key), seen.map fun p => Dt.str (sg p.2)) := by unfold asD; dsimp only; rw [h1]; rfl
        rw [this]
        rfl
      have a2 : sDP (eVar 8) (eVar 5) (eVar 7) (eA w ord al (some (.int p)) (some (.ref k)) (some (.str (sg c))) (some (.ref st.length))) S1 = some (.nx (eA w ord al (some (.int p)) (some (.ref k)) (some (.str (sg c))) (some (.ref st.length))) S2) := by
        have e := s_DP (r := eA w ord al (some (.int p)) (some (.ref k)) (some (.str (sg c))) (some (.ref st.length))) (st := S1) (fd := eVar 8) (fk := eVar 5) (fv := eVar 7) (v_var rfl) (v_var rfl) (v_var rfl) (ks := seen.map fun p => (Sum.inl (p.1 : Int) : Key)) (es := seen.map fun p => Dt.str (sg p.2)) (k := Sum.inl (p : Int)) (by simp [S1]; rfl) (by rw [List.length_map]; omega) rfl
        rw [e, pPut_sD hps]
        rfl
      have a3 : eN (gF 2 (liftV (fV F__law_least))) (aCons (eVar 0) (aCons (eFrz (eVar 8)) aNil)) (eA w ord al (some (.int p)) (some (.ref k)) (some (.str (sg c))) (some (.ref st.length))) S2 = some (.int v, S3) :=
        v_N (v_cons (v_var rfl) (v_one (v_frz (v_var rfl) (by simp [S2, S1])))) (v_gF rfl (v_V (by simp) hlv))
      have k3 : S3[k]? = some (some (rowD r)) := by
        simp only [S3, S2, S1]
        rw [List.getElem?_set_ne (by omega), List.getElem?_set_ne (by omega), List.getElem?_append_left hkl]
        exact h2
      have a4 : sDP (eVar 6) (eVar 7) (eN (gF 2 (liftV (fV F__law_least))) (aCons (eVar 0) (aCons (eFrz (eVar 8)) aNil))) (eA w ord al (some (.int p)) (some (.ref k)) (some (.str (sg c))) (some (.ref st.length))) S2 = some (.nx (eA w ord al (some (.int p)) (some (.ref k)) (some (.str (sg c))) (some (.ref st.length))) S4) := by
        have e := s_DP (r := eA w ord al (some (.int p)) (some (.ref k)) (some (.str (sg c))) (some (.ref st.length))) (st := S2) (fd := eVar 6) (fk := eVar 7) a3 (v_var rfl) (v_var rfl) (ks := r.1.map fun c => (Sum.inr (sg c) : Key)) (es := r.1.map fun c => Dt.int (r.2 c)) (k := Sum.inr (sg c)) k3 (by rw [List.length_map]; omega) rfl
        rw [e, pPut_row (hc c (by simp))]
        rfl
      have g0 : S4[0]? = some (some told) := by
        simp only [S4, S3, S2, S1]
        rw [List.getElem?_set_ne (by omega), List.getElem?_set_ne (by omega), List.getElem?_set_ne (by omega), List.getElem?_append_left (by omega)]
        exact h0
      have g1 : S4[1]? = some (some (sD seen)) := by
        simp only [S4, S3, S2, S1]
        rw [List.getElem?_set_ne (by omega), List.getElem?_set_ne (by omega), List.getElem?_set_ne (by omega), List.getElem?_append_left (by omega)]
        exact h1
      have g2 : S4[k]? = some (some (rowD r1)) := by
        simp only [S4]
        rw [List.getElem?_set_self (by simp [S3, S2, S1]; omega)]
      obtain ⟨r', st', v7', v8', e1, e2, e3, e4, e5, e6⟩ := safe_inner h hp hs snd hz hps hk cs r1 S4 (some (.str (sg c))) (some (.ref st.length)) (fun d hd => by
        simp only [r1]
        rw [List.mem_append]
        rintro (z | z)
        · exact hc d (by simp [hd]) z
        · simp at z; subst z; exact (List.nodup_cons.mp nd).1 hd) (List.nodup_cons.mp nd).2 (by simp only [r1]; rw [List.length_append]; simp; omega) g0 g1 g2 (fun d hd => by
        simp only [r1] at hd ⊢
        by_cases hdc : d = c
        · simp only [hdc, if_true]; rfl
        · simp only [hdc, if_false]
          rcases List.mem_append.mp hd with z | z
          · exact hv d z
          · simp at z; exact absurd z hdc)
      refine ⟨r', st', v7', v8', for_cons (r1 := eA w ord al (some (.int p)) (some (.ref k)) (some (.str (sg c))) v8) rfl (s_ifT c0 (s_seq a1 (s_seq a2 a4))) e1, e2, e3, e4, ?_, e6⟩
      rw [e5]
      simp only [r1]
      unfold oth
      rw [List.filter_cons_of_pos (by simp [hcw])]
      simp
end
end K81

set_option Elab.async false
set_option linter.all false
set_option maxRecDepth 100000
set_option maxHeartbeats 1000000
namespace K81
open PySem PySem.Spec PyProof.Rows L2 HB
section
variable {w al ord txt : List Nat} {t0 : Nat} {rows : List Row}
theorem nd_app {seen : List (Nat × Nat)} {p c : Nat} (nd : (seen.map (·.1)).Nodup) (h : p ∉ seen.map (·.1)) : ((seen ++ [(p, c)]).map (·.1)).Nodup := by
  rw [List.map_append, List.nodup_append]
  exact ⟨nd, by simp, fun a ha b hb z => by simp at hb; subst hb; subst z; exact h ha⟩
theorem safe_outer (h : Win w al ord) : ∀ (ps : List Nat) (seen : List (Nat × Nat)) (rows : List Row) (st : Sto) (v5 v6 v7 v8 : Option Dt), (∀ p ∈ ps, 1 ≤ p ∧ p ≤ w.length) → ps.Nodup → (∀ p ∈ ps, p ∉ seen.map (·.1)) → Seen w seen → (seen.map (·.1)).Nodup → seen.length + ps.length ≤ 100 → rows.length + ps.length ≤ 100 → st[0]? = some (some (.lst (rows.map rowD))) → st[1]? = some (some (sD seen)) →
    ∃ (st' : Sto) (v5' v6' v7' v8' : Option Dt), sForGo (kName 5) b2__law_safe (ps.map fun p : Nat => .int p) (eA w ord al v5 v6 v7 v8) st = some (.nx (eA w ord al v5' v6' v7' v8') st') ∧ st'[0]? = some (some (.lst ((rows ++ srows w al seen ps).map rowD))) ∧ st'[1]? = some (some (sD (seen ++ sn w ps))) ∧ Seen w (seen ++ sn w ps) ∧ ((seen ++ sn w ps).map (·.1)).Nodup
  | [], seen, rows, st, v5, v6, v7, v8, _, _, _, hs, snd, _, _, h0, h1 => ⟨st, v5, v6, v7, v8, rfl, by unfold srows; rw [List.append_nil]; exact h0, by unfold sn; rw [List.map_nil, List.append_nil]; exact h1, by unfold sn; rw [List.map_nil, List.append_nil]; exact hs, by unfold sn; rw [List.map_nil, List.append_nil]; exact snd⟩
  | p :: ps, seen, rows, st, v5, v6, v7, v8, hb, nd, hps, hs, snd, hsz, hrz, h0, h1 => by
    have hz := line_ge
    have a5 := h.a5
    rw [List.length_cons] at hsz hrz
    have hp := hb p (by simp)
    have h1l : 1 < st.length := (List.getElem?_eq_some_iff.mp h1).1
    let S1 : Sto := st ++ [some (rowD ([], fun _ => 0))]
    have q0 : S1[0]? = some (some (.lst (rows.map rowD))) := by simp only [S1]; rw [List.getElem?_append_left (by omega)]; exact h0
    have q1 : S1[1]? = some (some (sD seen)) := by simp only [S1]; rw [List.getElem?_append_left (by omega)]; exact h1
    have q2 : S1[st.length]? = some (some (rowD ([], fun _ => 0))) := by simp [S1]
    obtain ⟨r', st', v7', v8', e1, e2, e3, e4, e5, e6⟩ := safe_inner h hp hs snd (by omega) (hps p (by simp)) (by omega) al ([], fun _ => 0) S1 v7 v8 (fun c _ => by simp) h.na (by simp; omega) q0 q1 q2 (fun c hc => by simp at hc)
    have er : rowD r' = rowD (oth w al p, fun c => lsk w (seen ++ [(p, c)])) := by
      have e5' : r'.1 = oth w al p := by rw [e5]; simp
      unfold rowD
      rw [show (r'.1.map fun c => Dt.int (r'.2 c)) = r'.1.map fun c => Dt.int (lsk w (seen ++ [(p, c)])) from List.map_congr_left fun c hc => by rw [e6 c hc], e5']
    rw [er] at e4
    have l0 : 0 < st'.length := (List.getElem?_eq_some_iff.mp e2).1
    have l1 : 1 < st'.length := (List.getElem?_eq_some_iff.mp e3).1
    let S2 : Sto := (st'.set st.length none).set 0 (some (.lst ((rows ++ [(oth w al p, fun c => lsk w (seen ++ [(p, c)]))]).map rowD)))
    let S3 : Sto := S2.set 1 (some (sD (seen ++ [(p, wAt w p)])))
    have b1 : sEx (eM isL gApp (eVar 3) (aCons (eFrz (eVar 6)) aNil)) (eA w ord al (some (.int p)) (some (.ref st.length)) v7' v8') st' = some (.nx (eA w ord al (some (.int p)) (some (.ref st.length)) v7' v8') S2) := by
      have e := s_ex (v_app (r := eA w ord al (some (.int p)) (some (.ref st.length)) v7' v8') (fo := eVar 3) (fs := aCons (eFrz (eVar 6)) aNil) (st := st') (k := 0) (ds := rows.map rowD) (v_var rfl) e2 (v_one (v_frz (v_var rfl) e4)) (by rw [List.getElem?_set_ne (by omega)]; exact e2) (by rw [List.length_map]; omega))
      rw [e]
      simp only [S2]
      rw [List.map_append]
      rfl
    have g1 : S2[1]? = some (some (sD seen)) := by
      simp only [S2]
      rw [List.getElem?_set_ne (by omega), List.getElem?_set_ne (by omega)]
      exact e3
    have b2 : sDP (eVar 4) (eVar 5) (eOp2 gIx (eVar 0) (eOp2 gMin (eVar 5) (eC (.int 1)))) (eA w ord al (some (.int p)) (some (.ref st.length)) v7' v8') S2 = some (.nx (eA w ord al (some (.int p)) (some (.ref st.length)) v7' v8') S3) := by
      have e := s_DP (r := eA w ord al (some (.int p)) (some (.ref st.length)) v7' v8') (st := S2) (fd := eVar 4) (fk := eVar 5) (fv := eOp2 gIx (eVar 0) (eOp2 gMin (eVar 5) (eC (.int 1)))) (v := .str (sg (wAt w p))) (v_op (v_var rfl) (v_op (v_var rfl) rfl zMin) (ix_w h rfl hp.1 hp.2)) (v_var rfl) (v_var rfl) (ks := seen.map fun p : Nat × Nat => (Sum.inl (p.1 : Int) : Key)) (es := seen.map fun p : Nat × Nat => Dt.str (sg p.2)) (k := Sum.inl (p : Int)) g1 (by rw [List.length_map]; omega) rfl
      rw [e, pPut_sD (hps p (by simp))]
      rfl
    have w0 : S3[0]? = some (some (.lst ((rows ++ [(oth w al p, fun c => lsk w (seen ++ [(p, c)]))]).map rowD))) := by
      simp only [S3, S2]
      rw [List.getElem?_set_ne (by omega), List.getElem?_set_self (by rw [List.length_set]; exact l0)]
    have w1 : S3[1]? = some (some (sD (seen ++ [(p, wAt w p)]))) := by
      simp only [S3, S2]
      rw [List.getElem?_set_self (by rw [List.length_set, List.length_set]; exact l1)]
    obtain ⟨st'', u5, u6, u7, u8, k1, k2, k3, k4, k5⟩ := safe_outer h ps (seen ++ [(p, wAt w p)]) (rows ++ [(oth w al p, fun c => lsk w (seen ++ [(p, c)]))]) S3 (some (.int p)) (some (.ref st.length)) v7' v8' (fun q hq => hb q (by simp [hq])) (List.nodup_cons.mp nd).2 (fun q hq => by
      rw [List.map_append, List.mem_append]
      rintro (z | z)
      · exact hps q (by simp [hq]) z
      · simp at z; subst z; exact (List.nodup_cons.mp nd).1 hq) ⟨fun q hq => by
      rcases List.mem_append.mp hq with hq | hq
      · exact hs.ob q hq
      · simp at hq; rw [hq]; exact hp, by rw [List.length_append]; simp; omega⟩ (nd_app snd (hps p (by simp))) (by rw [List.length_append]; simp; omega) (by rw [List.length_append]; simp; omega) w0 w1
    have es : seen ++ sn w (p :: ps) = seen ++ [(p, wAt w p)] ++ sn w ps := by unfold sn; simp
    rw [es]
    refine ⟨st'', u5, u6, u7, u8, ?_, ?_, k3, k4, k5⟩
    · rw [List.map_cons]
      exact for_cons (r1 := eA w ord al (some (.int p)) v6 v7 v8) rfl (s_seq (r1 := eA w ord al (some (.int p)) (some (.ref st.length)) v7 v8) (st1 := S1) rfl (s_seq (s_for (v_iE (v_var rfl) zItT) e1) (s_seq b1 b2))) k1
    · rw [k2, List.append_assoc]
      rfl
theorem tb_of (h : Win w al ord) (h1 : 1 ≤ t0) (h2 : t0 ≤ w.length) (hl : rows.length = ord.length) (hr : ∀ (i : Nat) (r : Row) (p : Nat), rows[i]? = some r → ord[i]? = some p → r.1 = oth w al p ∧ ∀ c ∈ r.1, 1 ≤ r.2 c ∧ r.2 c ≤ w.length) : Tb w al ord t0 rows := by
  have get : ∀ (i : Nat) (r : Row), rows[i]? = some r → ∃ p, ord[i]? = some p := fun i r e => ⟨ord[i]'(by have := (List.getElem?_eq_some_iff.mp e).1; omega), List.getElem?_eq_getElem _⟩
  refine ⟨h1, h2, by rw [hl, h.ol], fun i r e => ?_, fun i r p e1 e2 c => ?_, fun i r e => ?_⟩
  · obtain ⟨p, hp⟩ := get i r e
    rw [(hr i r p e hp).1]
    exact nodup_filter _ h.na
  · rw [(hr i r p e1 e2).1]
    unfold oth
    rw [List.mem_filter]
    simp
  · obtain ⟨p, hp⟩ := get i r e
    exact (hr i r p e hp).2
/-- the table of the greatest safe skips, its rows in the order of the letters -/
def lrw (w al ord : List Nat) : List Row := srows w al [] ord
theorem run_law_safeX (h : Win w al ord) : fV F__law_safe [.str (tx w), OD ord, .str (tx al)] = some (tabD (lsk w (sn w ord)) (lrw w al ord)) := by
  have hz := line_ge
  have hol := h.ol
  have n7 := h.n7
  obtain ⟨st', v5', v6', v7', v8', e1, e2, e3, e4, e5⟩ := safe_outer h ord [] [] [some (.lst []), some (sD [])] none none none none h.ob h.on (by simp) ⟨by simp, by simp⟩ (by simp) (by simp; omega) (by simp; omega) rfl rfl
  rw [List.nil_append] at e2 e3 e4 e5
  have hv := run_least h e4 e5
  have hrl : (srows w al [] ord).length ≤ 7 := by rw [srows_len]; omega
  have l0 : 0 < st'.length := (List.getElem?_eq_some_iff.mp e2).1
  have e : ∃ st'', g__law_safe (startD 9 [.str (tx w), OD ord, .str (tx al)]) [] = some (.rt (tabD (lsk w (sn w ord)) (lrw w al ord)) st'') := by
    refine ⟨st'.set 1 none, ?_⟩
    refine s_seq (r1 := [some (.str (tx w)), some (OD ord), some (.str (tx al)), some (.ref 0), none, none, none, none, none]) (st1 := [some (.lst [])]) (s_set (v_toR (v_smallN v_nil (by show 0 ≤ _; omega)))) ?_
    refine s_seq (r1 := eA w ord al none none none none) (st1 := [some (.lst []), some (sD [])]) rfl ?_
    refine s_seq (s_for (v_iE (v_var rfl) (show itL [some (.lst []), some (sD [])] (OD ord) = some (ord.map fun p : Nat => .int p) from rfl)) e1) ?_
    refine s_ret (v_op (v_toV (v_smallN (v_one (v_N (v_cons (v_var rfl) (v_one (v_frz (v_var rfl) e3))) (v_gF rfl (v_V (by simp) hv)))) (by show 1 ≤ _; omega))) (v_var rfl) ?_)
    have ea : asL (st'.set 1 none) (.ref 0) = some ((srows w al [] ord).map rowD) := by unfold asL; dsimp only; rw [List.getElem?_set_ne (by omega), e2]
    show (match asL (st'.set 1 none) (.lst [.int (lsk w (sn w ord))]), asL (st'.set 1 none) (.ref 0) with
      | some a, some b => if a.length + b.length ≤ sizeLine then some (Dt.lst (a ++ b), st'.set 1 none) else none
      | _, _ => none) = _
    rw [ea, zAsL]
    dsimp only
    rw [if_pos (by rw [List.length_map]; simp; omega)]
    rfl
  obtain ⟨st'', e⟩ := e
  exact fV_of (b_rt e) (deref_no nr_tabD)
theorem sn_le (h : Win w al ord) {l : List Nat} (hl : ∀ p ∈ l, p ∈ ord) : ∀ p ∈ sn w l, p.1 ≤ w.length := fun p hp => by
  unfold sn at hp
  obtain ⟨q, hq, rfl⟩ := List.mem_map.mp hp
  exact (h.ob q (hl q hq)).2
theorem lrw_get (h : Win w al ord) : ∀ (i : Nat) (r : Row) (p : Nat), (lrw w al ord)[i]? = some r → ord[i]? = some p → r = (oth w al p, fun c => lsk w (sn w (ord.take i) ++ [(p, c)])) := fun i r p hr hp => by
  have := srows_get (w := w) (al := al) ord [] i p hp
  unfold lrw at hr
  rw [hr] at this
  rw [Option.some.inj this]
  simp
theorem tb_law (h : Win w al ord) : Tb w al ord (lsk w (sn w ord)) (lrw w al ord) := by
  have n1 := h.n1
  have l0 := lsk_ok n1 (sn_le h (l := ord) fun _ z => z)
  refine tb_of h l0.1 l0.2.1 (by unfold lrw; rw [srows_len]) fun i r p hr hp => ?_
  rw [lrw_get h i r p hr hp]
  have hpo := h.ob p (List.mem_of_getElem? hp)
  refine ⟨rfl, fun c hc => ?_⟩
  have := lsk_ok (w := w) (ps := sn w (ord.take i) ++ [(p, c)]) n1 (fun q hq => by
    rcases List.mem_append.mp hq with z | z
    · exact sn_le h (fun _ z => List.mem_of_mem_take z) q z
    · simp at z; rw [z]; exact hpo.2)
  exact ⟨this.1, this.2.1⟩
theorem run_law_safe (h : Win w al ord) : ∃ (t0 : Nat) (rows : List Row), fV F__law_safe [.str (tx w), OD ord, .str (tx al)] = some (tabD t0 rows) ∧ Tb w al ord t0 rows ∧ rows.length ≤ 7 ∧ ∀ (i : Nat) (r : Row) (p : Nat), rows[i]? = some r → ord[i]? = some p → r.1 = oth w al p := by
  refine ⟨_, _, run_law_safeX h, tb_law h, ?_, fun i r p hr hp => by rw [lrw_get h i r p hr hp]⟩
  rw [(tb_law h).rl]
  exact h.n7
end
end K81

set_option Elab.async false
set_option linter.all false
set_option maxRecDepth 100000
set_option maxHeartbeats 1000000
namespace K81
open PySem PySem.Spec PyProof.Rows L2 HB
theorem ne_nil {st : Sto} {k : Nat} {ds : List Dt} (hk : st[k]? = some (some (.lst ds))) (hn : noRefs ds = true) : gNeB st (.ref k) (.lst []) = some (.bl (!decide (ds = [])), st) := by
  have e : eqB st (.ref k) (.lst []) = some (decide (ds = [])) := by
    unfold eqB
    rw [deref_ref (n := 7) hk (by rw [nrL]; exact hn), deref_no (d := .lst []) rfl]
    show (if alikeD (.lst ds) (.lst []) = true then (if noRef (.lst ds) = true ∧ noRef (.lst []) = true then eqQ 8 (.lst ds) (.lst []) else none) else eqD st (.ref k) (.lst [])) = _
    rw [if_pos (show alikeD (.lst ds) (.lst []) = true from rfl), if_pos ⟨by rw [nrL]; exact hn, rfl⟩]
    show (if ds.length = ([] : List Dt).length then allO (List.zipWith (eqQ 7) ds []) else some false) = _
    cases ds with
    | nil => rfl
    | cons d ds => rw [if_neg (by simp)]; simp
  unfold gNeB
  rw [e]
  rfl
theorem v_eM {ok : Sto → Dt → Bool} {g : Sto → Dt → List Dt → Option (Dt × Sto)} {fo : SE} {fs : SA} {r : Evr} {st st1 st2 : Sto} {x : Dt} {ys : List Dt} {q : Dt × Sto} (ho : fo r st = some (x, st1)) (hk : ok st1 x = true) (ha : fs r st1 = some (ys, st2)) (hg : g st2 x ys = some q) : eM ok g fo fs r st = some q := by
  unfold eM
  rw [ho, Option.bind_some, if_pos hk, ha, Option.bind_some]
  exact hg
theorem pop_at {st : Sto} {k : Nat} {ds : List Dt} {i : Nat} {y : Dt} (hk : st[k]? = some (some (.lst ds))) (hi : i < ds.length) (h63 : (i : Int) < 2 ^ 63) (hy : ds[i]? = some y) : gPop st (.ref k) [.int (i : Int)] = some (y, st.set k (some (.lst (ds.eraseIdx i)))) := by
  have es : seqIndex? (i : Int) ds.length = some i := by
    unfold seqIndex?
    have h1 : ¬ ((i : Int) < 0) := by omega
    have h2 : (i : Int) < (ds.length : Int) := by omega
    simp [h1, h2]
    try omega
  unfold gPop
  dsimp only
  rw [hk]
  dsimp only
  rw [if_pos ⟨by omega, h63⟩, es]
  show (ds[i]?).map _ = _
  rw [hy]
  rfl
theorem erase_map {α β : Type} (f : α → β) : ∀ (l : List α) (i : Nat), (l.map f).eraseIdx i = (l.eraseIdx i).map f
  | [], _ => rfl
  | a :: l, 0 => rfl
  | a :: l, i + 1 => by
    show f a :: (l.map f).eraseIdx i = f a :: (l.eraseIdx i).map f
    rw [erase_map f l i]
theorem erase_perm {α : Type} : ∀ (l : List α) (i : Nat) (h : i < l.length), (l[i] :: l.eraseIdx i).Perm l
  | [], i, h => by simp at h
  | a :: l, 0, _ => .refl _
  | a :: l, i + 1, h => by
    have h' : i < l.length := by simpa using h
    show (l[i] :: a :: l.eraseIdx i).Perm (a :: l)
    exact (List.Perm.swap a l[i] _).trans ((erase_perm l i h').cons a)
section
variable {α : Type} {D : α → Dt}
abbrev st3 (D : α → Dt) (x : Drw) (left told : List α) : Sto := [some x.dt, some (.lst (left.map D)), some (.lst (told.map D))]
theorem sh_loop (hD : ∀ a, noRef (D a) = true) {T : Dt} : ∀ (n : Nat) (left told : List α) (x : Drw), left.length < n → left.length + told.length ≤ 100 → x.k + left.length < 1000000 → ∃ (told' : List α) (x' : Drw), sWh w1__law_shuffled b1__law_shuffled n [some (.ref 0), some T, some (.ref 1), some (.ref 2)] (st3 D x left told) = some (.nx [some (.ref 0), some T, some (.ref 1), some (.ref 2)] (st3 D x' [] told')) ∧ told'.Perm (told ++ left) ∧ x'.k = x.k + left.length
  | 0, left, told, x, h, _, _ => by omega
  | n + 1, left, told, x, hn, hl, hx => by
    have hz := line_ge
    have nr : ∀ l : List α, noRefs (l.map D) = true := fun l => noRefs_map fun a _ => hD a
    have c0 : w1__law_shuffled [some (.ref 0), some T, some (.ref 1), some (.ref 2)] (st3 D x left told) = some (!decide (left.map D = []), st3 D x left told) :=
      t_B (v_op (v_var rfl) (v_toV (v_smallN v_nil (by show 0 ≤ _; omega))) (ne_nil (k := 1) rfl (nr left)))
    by_cases hle : left = []
    · subst hle
      refine ⟨told, x, wh_stop (by rw [c0]; rfl), by simp, rfl⟩
    · have hpos : 0 < left.length := List.length_pos_iff.mpr hle
      rw [decide_eq_false (by simpa using hle)] at c0
      obtain ⟨i, hi1, hi2⟩ : ∃ i : Nat, (i : Int) = (nextN x).1 % left.length ∧ i < left.length := by
        have a1 := Int.emod_nonneg (nextN x).1 (show (left.length : Int) ≠ 0 by omega)
        have a2 := Int.emod_lt_of_pos (nextN x).1 (show (0 : Int) < left.length by omega)
        exact ⟨((nextN x).1 % left.length).toNat, by omega, by omega⟩
      let x1 := (nextN x).2
      have kx : x1.k = x.k + 1 := next_k x
      let E : Evr := [some (.ref 0), some T, some (.ref 1), some (.ref 2)]
      have a1 : aCons (eOp2 gMod (eN gInt (aCons (eN (gF 1 (liftE (fE F__law_next))) (aCons (eVar 0) aNil)) aNil)) (eN gLen (aCons (eVar 2) aNil))) aNil E (st3 D x left told) = some ([.int i], st3 D x1 left told) := by
        refine v_one (v_op (y := .int left.length) (st2 := st3 D x1 left told) (call_next rfl rfl (by omega)) ?_ (by rw [zMod (by omega), ← hi1]))
        refine v_N (v_one (v_var rfl)) ?_
        show some (Dt.int ((left.map D).length : Nat), st3 D x1 left told) = _
        rw [List.length_map]
      have a2 : eM isL gPop (eVar 2) (aCons (eOp2 gMod (eN gInt (aCons (eN (gF 1 (liftE (fE F__law_next))) (aCons (eVar 0) aNil)) aNil)) (eN gLen (aCons (eVar 2) aNil))) aNil) E (st3 D x left told) = some (D left[i], st3 D x1 (left.eraseIdx i) told) := by
        have hp : gPop (st3 D x1 left told) (.ref 1) [.int (i : Int)] = some (D left[i], st3 D x1 (left.eraseIdx i) told) := by
          rw [pop_at (st := st3 D x1 left told) (k := 1) (ds := left.map D) (y := D left[i]) rfl (by rw [List.length_map]; exact hi2) (by omega) (by rw [List.getElem?_map, List.getElem?_eq_getElem hi2]; rfl), erase_map]
          rfl
        exact v_eM (v_var rfl) rfl a1 hp
      have b1 : b1__law_shuffled E (st3 D x left told) = some (.nx E (st3 D x1 (left.eraseIdx i) (told ++ [left[i]]))) := by
        have e := s_ex (v_app (r := E) (fo := eVar 3) (st := st3 D x left told) (k := 2) (ds := told.map D) (v_var rfl) rfl (v_one a2) rfl (by rw [List.length_map]; omega))
        unfold b1__law_shuffled
        rw [e]
        show some (Ou.nx E [_, _, some (.lst (told.map D ++ [D left[i]]))]) = _
        simp [st3]
      have hel : (left.eraseIdx i).length = left.length - 1 := by rw [List.length_eraseIdx]; simp [hi2]
      obtain ⟨told', x', k1, k2, k3⟩ := sh_loop hD (T := T) n (left.eraseIdx i) (told ++ [left[i]]) x1 (by omega) (by rw [List.length_append]; simp; omega) (by omega)
      refine ⟨told', x', wh_step c0 b1 k1, ?_, by omega⟩
      refine k2.trans ?_
      rw [List.append_assoc]
      refine List.Perm.append_left told ?_
      exact erase_perm left i hi2
theorem run_shuffled (hD : ∀ a, noRef (D a) = true) {T : Dt} {l : List α} (hT : noRef T = true) (hl : l.length ≤ 100) (hg : ∀ st, gListBR st [T] = some (.ref st.length, st ++ [some (.lst (l.map D))])) (x : Drw) (hx : x.k < 900000) : ∃ (l' : List α) (x' : Drw), fE F__law_shuffled x.dt [T] = some (.lst (l'.map D), x'.dt) ∧ l'.Perm l ∧ x'.k = x.k + l.length := by
  obtain ⟨l', x', k1, k2, k3⟩ := sh_loop hD (T := T) 1000 l [] x (by omega) (by simp; omega) (by omega)
  refine ⟨l', x', ?_, by simpa using k2, k3⟩
  have e : g__law_shuffled (startD 4 [.ref 0, T]) [some x.dt] = some (.rt (.ref 2) (st3 D x' [] l')) := by
    refine s_seq (r1 := [some (.ref 0), some T, some (.ref 1), none]) (st1 := [some x.dt, some (.lst (l.map D))]) (s_set (v_N (v_one (v_var rfl)) (hg _))) ?_
    refine s_seq (r1 := [some (.ref 0), some T, some (.ref 1), some (.ref 2)]) (st1 := st3 D x l []) (s_set (v_toR (v_smallN v_nil (by show 0 ≤ _; omega)))) ?_
    exact s_seq k1 (s_ret (v_var rfl))
  exact fE_of (b_rt0 e) rfl rfl (deref_ref (n := 5) rfl (by rw [nrL]; exact noRefs_map fun a _ => hD a))
end
theorem shuf_txt (l : List Nat) (hl : l.length ≤ 100) (x : Drw) (hx : x.k < 900000) : ∃ (l' : List Nat) (x' : Drw), fE F__law_shuffled x.dt [.str (tx l)] = some (.lst (l'.map fun c => .str (sg c)), x'.dt) ∧ l'.Perm l ∧ x'.k = x.k + l.length :=
  run_shuffled (D := fun c : Nat => Dt.str (sg c)) (fun _ => rfl) rfl hl (fun st => by
    have hz := line_ge
    show (if _ then _ else _) = _
    have : (tx l).cps.size = l.length := by simp [tx]
    rw [if_pos (by rw [this]; omega), tx_cps]) x hx
theorem shuf_int (l : List Nat) (hl : l.length ≤ 100) (x : Drw) (hx : x.k < 900000) : ∃ (l' : List Nat) (x' : Drw), fE F__law_shuffled x.dt [.lst (l.map fun p : Nat => .int p)] = some (.lst (l'.map fun p : Nat => .int p), x'.dt) ∧ l'.Perm l ∧ x'.k = x.k + l.length :=
  run_shuffled (D := fun c : Nat => Dt.int c) (fun _ => rfl) (by rw [nrL]; exact nr_ints) hl (fun st => rfl) x hx
end K81

set_option Elab.async false
set_option linter.all false
set_option maxRecDepth 100000
set_option maxHeartbeats 1000000
namespace K81
open PySem PySem.Spec PyProof.Rows L2 HB
def sgs : List (List Nat) := [[97, 98], [97, 66], [97, 98, 99], [33, 126, 122], [97]]
def ext : List (List Nat) := [[], [63, 90], [42, 46], [95, 45]]
def up (n : Nat) : List Nat := (List.range n).map fun i => 1 + i
def dn (n : Nat) : List Nat := (List.range n).map fun i => n - i
theorem modN (x : Drw) {m : Nat} (hm : 1 ≤ m) : ∃ i : Nat, (i : Int) = (nextN x).1 % m ∧ i < m := by
  have a1 := Int.emod_nonneg (nextN x).1 (show (m : Int) ≠ 0 by omega)
  have a2 := Int.emod_lt_of_pos (nextN x).1 (show (0 : Int) < m by omega)
  exact ⟨((nextN x).1 % m).toNat, by omega, by omega⟩
theorem call_mod {i : Nat} {r : Evr} {st : Sto} {x : Drw} {m : Nat} {fm : SE} {v : Nat} (hi : r[i]? = some (some (.ref 0))) (h0 : st[0]? = some (some x.dt)) (hk : x.k < 1000000) (hf : fm r (st.set 0 (some (nextN x).2.dt)) = some (.int m, st.set 0 (some (nextN x).2.dt))) (hm : 1 ≤ m) (hv : (v : Int) = (nextN x).1 % m) : eOp2 gMod (eN gInt (aCons (eN (gF 1 (liftE (fE F__law_next))) (aCons (eVar i) aNil)) aNil)) fm r st = some (.int v, st.set 0 (some (nextN x).2.dt)) :=
  v_op (call_next hi h0 hk) hf (by rw [zMod (by omega), ← hv])
theorem tx_app (a b : List Nat) : tx a ++ tx b = tx (a ++ b) := by
  show Str.append (tx a) (tx b) = _
  unfold Str.append tx
  simp
theorem add_tx {st : Sto} {a b : List Nat} (h : a.length + b.length ≤ 100000) : gAdd st (.str (tx a)) (.str (tx b)) = some (.str (tx (a ++ b)), st) := by
  have hz := line_ge
  show (if (tx a).length + (tx b).length ≤ sizeLine then some (Dt.str (tx a ++ tx b), st) else none) = _
  rw [if_pos (by rw [tx_len, tx_len]; omega), tx_app]
theorem base_ok : ∀ i, i < 5 → ∀ j, j < 4 → (sgs.getD i [] ++ ext.getD j []).Nodup ∧ (sgs.getD i [] ++ ext.getD j []).length ≤ 5 ∧ 1 ≤ (sgs.getD i []).length ∧ (sgs.getD i []).length ≤ 3 ∧ (ext.getD j []).length ≤ 2 ∧ ∀ c ∈ sgs.getD i [] ++ ext.getD j [], letB (sg c) = true := by decide +kernel
theorem up_ok' : ∀ n, n < 8 → (up n).length = n ∧ (up n).Nodup ∧ ∀ p ∈ up n, 1 ≤ p ∧ p ≤ n := by decide +kernel
theorem up_cov : ∀ n, n < 8 → ∀ q, q < 8 → ¬ (1 ≤ q ∧ q ≤ n) ∨ q ∈ up n := by decide +kernel
theorem up_ok (n : Nat) (h : n < 8) : (up n).length = n ∧ (up n).Nodup ∧ (∀ p ∈ up n, 1 ≤ p ∧ p ≤ n) ∧ ∀ q, q < 8 → 1 ≤ q → q ≤ n → q ∈ up n := ⟨(up_ok' n h).1, (up_ok' n h).2.1, (up_ok' n h).2.2, fun q h8 h1 h2 => (up_cov n h q h8).resolve_left fun z => z ⟨h1, h2⟩⟩
theorem dn_ok' : ∀ n, n < 8 → (dn n).length = n ∧ (dn n).Nodup ∧ ∀ p ∈ dn n, 1 ≤ p ∧ p ≤ n := by decide +kernel
theorem dn_cov : ∀ n, n < 8 → ∀ q, q < 8 → ¬ (1 ≤ q ∧ q ≤ n) ∨ q ∈ dn n := by decide +kernel
theorem dn_ok (n : Nat) (h : n < 8) : (dn n).length = n ∧ (dn n).Nodup ∧ (∀ p ∈ dn n, 1 ≤ p ∧ p ≤ n) ∧ ∀ q, q < 8 → 1 ≤ q → q ≤ n → q ∈ dn n := ⟨(dn_ok' n h).1, (dn_ok' n h).2.1, (dn_ok' n h).2.2, fun q h8 h1 h2 => (dn_cov n h q h8).resolve_left fun z => z ⟨h1, h2⟩⟩
theorem sgs_ix {st : Sto} {i : Nat} (h : i < 5) : gIx st (.lst [.str "ab", .str "aB", .str "abc", .str "!~z", .str "a"]) (.int i) = some (.str (tx (sgs.getD i [])), st) := by
  refine ixL i rfl ?_
  match i, h with
  | 0, _ => rfl
  | 1, _ => rfl
  | 2, _ => rfl
  | 3, _ => rfl
  | 4, _ => rfl
theorem ext_ix {st : Sto} {i : Nat} (h : i < 4) : gIx st (.lst [.str "", .str "?Z", .str "*.", .str "_-"]) (.int i) = some (.str (tx (ext.getD i [])), st) := by
  refine ixL i rfl ?_
  match i, h with
  | 0, _ => rfl
  | 1, _ => rfl
  | 2, _ => rfl
  | 3, _ => rfl
theorem noun_lc {sn : List Nat} (hs : 1 ≤ sn.length) (hs2 : sn.length ≤ 100) {r1 r3 r4 r5 r6 r7 : Option Dt} : ∀ (is : List Nat) (x : Drw), x.k + is.length < 1000000 → ∃ (cs : List Nat) (x' : Drw), lcGo (kName 8) cYes e1__law_window [some (.ref 0), r1, some (.str (tx sn)), r3, r4, r5, r6, r7, none] (is.map fun i : Nat => .int (0 + (i : Nat))) [some x.dt] = some (cs.map fun c => .str (sg c), [some x'.dt]) ∧ cs.length = is.length ∧ (∀ c ∈ cs, c ∈ sn) ∧ x'.k = x.k + is.length
  | [], x, _ => ⟨[], x, rfl, rfl, by simp, rfl⟩
  | i :: is, x, hx => by
    have hz := line_ge
    rw [List.length_cons] at hx
    obtain ⟨v, hv, hlt⟩ := modN x hs
    have kx := next_k x
    obtain ⟨cs, x', k1, k2, k3, k4⟩ := noun_lc hs hs2 (r1 := r1) (r3 := r3) (r4 := r4) (r5 := r5) (r6 := r6) (r7 := r7) is (nextN x).2 (by omega)
    refine ⟨sn.getD v 0 :: cs, x', ?_, by simp [k2], ?_, by rw [k4, kx, List.length_cons]; omega⟩
    · rw [List.map_cons, List.map_cons]
      refine lcGo_cons (r1 := [some (.ref 0), r1, some (.str (tx sn)), r3, r4, r5, r6, r7, some (.int (0 + (i : Nat)))]) (st1 := [some x.dt]) (st2 := [some (nextN x).2.dt]) rfl rfl ?_ k1
      exact v_op (v_var rfl) (call_mod (m := sn.length) (v := v) rfl rfl (by omega) (v_N (v_one (v_var rfl)) (zLenT (by omega))) hs hv) (ixT v (by omega) rfl hlt)
    · intro c hc
      rcases List.mem_cons.mp hc with z | z
      · rw [z]; exact getD_mem hlt
      · exact k3 c z
theorem v_lr2 {fa fb : SE} {r : Evr} {st st1 st2 : Sto} {j : Int} {n : Nat} (ha : fa r st = some (.int 1, st1)) (hb : fb r st1 = some (.int j, st2)) (hj : j = (n : Int) + 1) (hn : n ≤ 1000) : eLR2 fa fb r st = some (OD (up n), st2) := by
  subst hj
  unfold eLR2
  rw [ha, Option.bind_some, hb, Option.bind_some]
  dsimp only
  rw [if_pos (by omega)]
  have : ((n : Int) + 1 - 1).toNat = n := by omega
  rw [this]
  unfold rngL OD up
  rw [List.map_map]
  rfl
theorem v_ldn {fa fb fc : SE} {r : Evr} {st st1 st2 st3 : Sto} {i : Int} {n : Nat} (ha : fa r st = some (.int i, st1)) (hb : fb r st1 = some (.int 0, st2)) (hc : fc r st2 = some (.int (-1), st3)) (hi : i = (n : Int)) (hn : n ≤ 1000) : eLDn fa fb fc r st = some (OD (dn n), st3) := by
  subst hi
  unfold eLDn
  rw [ha, Option.bind_some, hb, Option.bind_some, hc, Option.bind_some]
  dsimp only
  rw [if_pos (by omega)]
  have : ((n : Int) - 0).toNat = n := by omega
  rw [this]
  unfold dwnL OD dn
  rw [List.map_map]
  have : (List.range n).map (fun i : Nat => Dt.int ((n : Int) - i)) = (List.range n).map ((fun p : Nat => Dt.int p) ∘ fun i => n - i) := by
    refine List.map_congr_left fun k hk => ?_
    have := List.mem_range.mp hk
    show Dt.int ((n : Int) - k) = Dt.int ((n - k : Nat) : Int)
    congr 1
    omega
  rw [this]
theorem run_window (M : Nat) (m1 : 1 ≤ M) (m7 : M ≤ 7) (x : Drw) (hx : x.k ≤ 1000) : ∃ (w al ord : List Nat) (x' : Drw), fE F__law_window x.dt [.int (M : Nat)] = some (.tup [.str (tx w), OD ord, .str (tx al)], x'.dt) ∧ Win w al ord ∧ al.length ≤ 5 ∧ w.length ≤ M ∧ x'.k ≤ x.k + 100 := by
  have hz := line_ge
  obtain ⟨i, hi, hi5⟩ := modN x (m := 5) (by omega)
  let x1 := (nextN x).2
  have kx1 : x1.k = x.k + 1 := next_k x
  obtain ⟨l, hl, hl7⟩ := modN x1 (m := M) (by omega)
  let x2 := (nextN x1).2
  have kx2 : x2.k = x1.k + 1 := next_k x1
  obtain ⟨n, hn⟩ : ∃ n, n = 1 + l := ⟨_, rfl⟩
  have bo := base_ok i hi5
  have six := fun st => sgs_ix (st := st) hi5
  generalize sgs.getD i [] = sn at bo six
  obtain ⟨-, -, hs1, hs3, -, -⟩ := bo 0 (by omega)
  obtain ⟨cs, x3, c1, c2, c3, c4⟩ := noun_lc (sn := sn) hs1 (by omega) (r1 := some (.int (M : Nat))) (r3 := some (.int (1 + (l : Nat)))) (r4 := none) (r5 := none) (r6 := none) (r7 := none) (List.range n) x2 (by rw [List.length_range]; omega)
  rw [List.length_range] at c2 c4
  obtain ⟨j, hj, hj4⟩ := modN x3 (m := 4) (by omega)
  let x4 := (nextN x3).2
  have kx4 : x4.k = x3.k + 1 := next_k x3
  obtain ⟨bn, bl, -, -, b2, bt⟩ := bo j hj4
  have eix := fun st => ext_ix (st := st) hj4
  generalize ext.getD j [] = ex at bn bl b2 bt eix
  obtain ⟨al, x5, a1, a2, a3⟩ := shuf_txt (sn ++ ex) (by omega) x4 (by omega)
  obtain ⟨q, hq, hq3⟩ := modN x5 (m := 3) (by omega)
  let x6 := (nextN x5).2
  have kx6 : x6.k = x5.k + 1 := next_k x5
  obtain ⟨u1, u2, u3, u4⟩ := up_ok n (by omega)
  obtain ⟨d1, d2, d3, d4⟩ := dn_ok n (by omega)
  obtain ⟨sh, x7, s1, s2, s3⟩ := shuf_int (up n) (by omega) x6 (by omega)
  have hal : al.length ≤ 5 := by rw [a2.length_eq]; exact bl
  have a3' : x5.k ≤ x4.k + 5 := by rw [a3]; omega
  have s3' : x7.k = x6.k + n := by rw [s3, u1]
  obtain ⟨ord, ho, hog⟩ : ∃ ord : List Nat, [OD (up n), OD (dn n), OD sh][q]? = some (OD ord) ∧ ord.length = n ∧ ord.Nodup ∧ (∀ p ∈ ord, 1 ≤ p ∧ p ≤ n) ∧ ∀ q, q < 8 → 1 ≤ q → q ≤ n → q ∈ ord := by
    match q, hq3 with
    | 0, _ => exact ⟨up n, rfl, u1, u2, u3, u4⟩
    | 1, _ => exact ⟨dn n, rfl, d1, d2, d3, d4⟩
    | 2, _ => exact ⟨sh, rfl, by rw [s2.length_eq]; exact u1, s2.nodup_iff.mpr u2, fun p hp => u3 p (s2.mem_iff.mp hp), fun q h8 h1 h2 => s2.mem_iff.mpr (u4 q h8 h1 h2)⟩
  refine ⟨cs, al, ord, x7, ?_, ⟨by omega, by omega, fun c hc => bt c (a2.mem_iff.mp hc), a2.nodup_iff.mpr bn, by omega, fun c hc => a2.mem_iff.mpr (List.mem_append.mpr (.inl (c3 c hc))), by rw [hog.1, c2], hog.2.1, fun p hp => by rw [c2]; exact hog.2.2.1 p hp, fun q h1 h2 => hog.2.2.2 q (by omega) h1 (by omega)⟩, by omega, by omega, by omega⟩
  have er : eLR2 (eC (.int 1)) (eOp2 gAdd (eVar 3) (eC (.int 1))) [some (.ref 0), some (.int (M : Nat)), some (.str (tx sn)), some (.int (1 + (l : Nat))), some (.str (tx cs)), some (.str (tx al)), some (.int q), none, none] [some x6.dt] = some (OD (up n), [some x6.dt]) := v_lr2 (n := n) rfl (v_op (v_var rfl) rfl zAddI) (by omega) (by omega)
  have ed : eLDn (eVar 3) (eC (.int 0)) (eNeg (eC (.int 1))) [some (.ref 0), some (.int (M : Nat)), some (.str (tx sn)), some (.int (1 + (l : Nat))), some (.str (tx cs)), some (.str (tx al)), some (.int q), none, none] [some x6.dt] = some (OD (dn n), [some x6.dt]) := v_ldn (n := n) (v_var rfl) rfl rfl (by omega) (by omega)
  have e : g__law_window (startD 9 [.ref 0, .int (M : Nat)]) [some x.dt] = some (.rt (.tup [.str (tx cs), OD ord, .str (tx al)]) [some x7.dt]) := by
    refine s_seq (r1 := [some (.ref 0), some (.int (M : Nat)), some (.str (tx sn)), none, none, none, none, none, none]) (st1 := [some x1.dt]) (by exact s_set (v_op (v_toV (v_smallN (v_cons rfl (v_cons rfl (v_cons rfl (v_cons rfl (v_one rfl))))) (by show 5 ≤ _; omega))) (call_mod (m := 5) (v := i) rfl rfl (by omega) rfl (by omega) hi) (six _))) ?_
    refine s_seq (r1 := [some (.ref 0), some (.int (M : Nat)), some (.str (tx sn)), some (.int (1 + (l : Nat))), none, none, none, none, none]) (st1 := [some x2.dt]) (by exact s_set (v_op rfl (call_mod (m := M) (v := l) rfl rfl (by omega) (v_var rfl) (by omega) hl) zAddI)) ?_
    refine s_seq (r1 := [some (.ref 0), some (.int (M : Nat)), some (.str (tx sn)), some (.int (1 + (l : Nat))), some (.str (tx cs)), none, none, none, none]) (st1 := [some x3.dt]) (s_set ?_) ?_
    · have hr : iR rg1 (aCons (eVar 3) aNil) [some (.ref 0), some (.int (M : Nat)), some (.str (tx sn)), some (.int (1 + (l : Nat))), none, none, none, none, none] [some x2.dt] = some ((List.range n).map fun i : Nat => .int (0 + (i : Nat)), [some x2.dt]) := v_rg (n := n) (v_one (by rw [hn]; exact v_var (by simp))) (by omega)
      have := v_toV (v_lc (own := [8]) hr c1 (show (cs.map fun c => Dt.str (sg c)).length ≤ sizeLine by rw [List.length_map, c2]; omega))
      unfold eM1
      rw [zC, Option.bind_some, if_pos (show isS [some x2.dt] (.str "") = true from rfl), this, Option.bind_some]
      exact v_join cs (by omega) _
    refine s_seq (r1 := [some (.ref 0), some (.int (M : Nat)), some (.str (tx sn)), some (.int (1 + (l : Nat))), some (.str (tx cs)), some (.str (tx al)), none, none, none]) (st1 := [some x5.dt]) (s_set ?_) ?_
    · have hb : eOp2 gAdd (eVar 2) (eOp2 gIx (toV (small (aCons (eC (.str "")) (aCons (eC (.str "?Z")) (aCons (eC (.str "*.")) (aCons (eC (.str "_-")) aNil)))))) (eOp2 gMod (eN gInt (aCons (eN (gF 1 (liftE (fE F__law_next))) (aCons (eVar 0) aNil)) aNil)) (eC (.int 4)))) [some (.ref 0), some (.int (M : Nat)), some (.str (tx sn)), some (.int (1 + (l : Nat))), some (.str (tx cs)), none, none, none, none] [some x3.dt] = some (.str (tx (sn ++ ex)), [some x4.dt]) :=
        v_op (v_var rfl) (v_op (v_toV (v_smallN (v_cons rfl (v_cons rfl (v_cons rfl (v_one rfl)))) (by show 4 ≤ _; omega))) (call_mod (m := 4) (v := j) rfl rfl (by omega) rfl (by omega) hj) (eix _)) (add_tx (by show sn.length + _ ≤ _; omega))
      have hsf : eN (gF 2 (liftE (fE F__law_shuffled))) (aCons (eVar 0) (aCons (eOp2 gAdd (eVar 2) (eOp2 gIx (toV (small (aCons (eC (.str "")) (aCons (eC (.str "?Z")) (aCons (eC (.str "*.")) (aCons (eC (.str "_-")) aNil)))))) (eOp2 gMod (eN gInt (aCons (eN (gF 1 (liftE (fE F__law_next))) (aCons (eVar 0) aNil)) aNil)) (eC (.int 4))))) aNil)) [some (.ref 0), some (.int (M : Nat)), some (.str (tx sn)), some (.int (1 + (l : Nat))), some (.str (tx cs)), none, none, none, none] [some x3.dt] = some (.lst (al.map fun c => .str (sg c)), [some x5.dt]) :=
        v_N (v_cons (v_var rfl) (v_one hb)) (v_gF rfl (v_Ee (ds := [.str (tx (sn ++ ex))]) (c := x4.dt) rfl rfl rfl a1))
      unfold eM1
      rw [zC, Option.bind_some, if_pos (show isS [some x3.dt] (.str "") = true from rfl), hsf, Option.bind_some]
      exact v_join al (by omega) _
    refine s_seq (r1 := [some (.ref 0), some (.int (M : Nat)), some (.str (tx sn)), some (.int (1 + (l : Nat))), some (.str (tx cs)), some (.str (tx al)), some (.int q), none, none]) (st1 := [some x6.dt]) (by exact s_set (call_mod (m := 3) (v := q) rfl rfl (by omega) rfl (by omega) hq)) ?_
    have hsi : eN (gF 2 (liftE (fE F__law_shuffled))) (aCons (eVar 0) (aCons (eLR2 (eC (.int 1)) (eOp2 gAdd (eVar 3) (eC (.int 1)))) aNil)) [some (.ref 0), some (.int (M : Nat)), some (.str (tx sn)), some (.int (1 + (l : Nat))), some (.str (tx cs)), some (.str (tx al)), some (.int q), none, none] [some x6.dt] = some (OD sh, [some x7.dt]) :=
      v_N (v_cons (v_var rfl) (v_one er)) (v_gF rfl (v_Ee (ds := [OD (up n)]) (c := x6.dt) (by simp) rfl rfl s1))
    refine s_seq (r1 := [some (.ref 0), some (.int (M : Nat)), some (.str (tx sn)), some (.int (1 + (l : Nat))), some (.str (tx cs)), some (.str (tx al)), some (.int q), some (OD ord), none]) (st1 := [some x7.dt]) (s_set (v_op (v_toV (v_smallN (v_cons er (v_cons ed (v_one hsi))) (by show 3 ≤ _; omega))) (v_var rfl) (ixL q rfl ho))) ?_
    exact s_ret (v_toT (v_cons (v_var rfl) (v_cons (v_var rfl) (v_one (v_var rfl)))) (by show 3 ≤ _; omega))
  exact fE_of (b_rt0 e) rfl rfl (deref_no (by simp))
end K81

set_option Elab.async false
set_option linter.all false
set_option maxRecDepth 100000
set_option maxHeartbeats 1000000
namespace K81
open PySem PySem.Spec PyProof.Rows L2 HB
section
variable {w al ord : List Nat}
theorem items_sD {st : Sto} (ps : List (Nat × Nat)) : itI st (sD ps) = some (ps.map fun p => .tup [.int p.1, .str (sg p.2)]) := by
  unfold sD
  rw [zItI]
  congr 1
  rw [List.zip_map', List.map_map]
  rfl
theorem run_fits (h : Win w al ord) {ps : List (Nat × Nat)} (hs : Seen w ps) {far : Nat} (hf : 1 ≤ far) : fV F_fits [.str (tx w), sD ps, .int far] = some (.bl (ps.all (fitB w far))) := by
  have hz := line_ge
  have n7 := h.n7
  have hlc : lcGo (HB.kTup (ksCons (kName 3) (ksCons (kName 4) ksNil))) cYes e1_fits [some (.str (tx w)), some (sD ps), some (.int far), none, none] (ps.map fun p => .tup [.int p.1, .str (sg p.2)]) [] = some (ps.map fun p => .bl (fitB w far p), []) :=
    lcGo_map _ _ _ fun p hp => ⟨[some (.str (tx w)), some (sD ps), some (.int far), some (.int p.1), some (.str (sg p.2))], rfl, by
      have hb := hs.ob p hp
      have c0 : eOp2 gLe (eVar 3) (eVar 2) [some (.str (tx w)), some (sD ps), some (.int far), some (.int p.1), some (.str (sg p.2))] [] = some (.bl (decide (p.1 ≤ far)), []) := v_op (v_var rfl) (v_var rfl) (by rw [zLe]; congr 3; simp)
      unfold e1_fits eOrV fitB
      rw [c0, Option.bind_some]
      by_cases hle : p.1 ≤ far
      · rw [decide_eq_true hle]; rfl
      · rw [decide_eq_false hle]
        show eOp2 gEqB _ _ _ [] = _
        refine v_op (v_op (v_var rfl) (v_op (v_op (v_var rfl) (v_var rfl) zMin) rfl zMin) (ixT (p.1 - far - 1) h.wz (by omega) (by omega))) (v_var rfl) ?_
        rw [zEqS]
        simp only [sg_inj, Bool.false_or]⟩
  have e : g_fits (startD 5 [.str (tx w), sD ps, .int far]) [] = some (.rt (.bl (ps.all (fitB w far))) []) :=
    s_ret (v_N (v_one (v_toV (v_lc (own := [3, 4]) (v_iE (v_var rfl) (items_sD ps)) hlc (by rw [List.length_map]; have := hs.z; omega)))) (bools_allT ps (fitB w far) []))
  exact fV_of (b_rt e) (deref_no rfl)
theorem run_safe_skip (h : Win w al ord) {ps : List (Nat × Nat)} (hs : Seen w ps) : fV F_safe_skip [.str (tx w), sD ps] = some (.int (lsk w ps)) := by
  have hz := line_ge
  have n7 := h.n7
  have n1 := h.n1
  let fr := (List.range w.length).filter fun i => ps.all (fitB w (1 + i))
  have hlc : lcGo (kName 2) c1_safe_skip e1_safe_skip [some (.str (tx w)), some (sD ps), none] ((List.range w.length).map fun i : Nat => .int (1 + (i : Nat))) [] = some (fr.map fun i : Nat => .int (1 + (i : Nat)), []) :=
    lcGo_pure _ _ _ _ fun i hi => ⟨[some (.str (tx w)), some (sD ps), some (.int (1 + (i : Nat)))], rfl, t_B (v_N (v_cons (v_var rfl) (v_cons (v_var rfl) (v_one (v_var rfl)))) (v_gF rfl (v_V (by simp) (run_fits h hs (far := 1 + i) (by omega))))), fun _ => v_var rfl⟩
  obtain ⟨k, fr', hfr⟩ := lsk_mem (w := w) (ps := ps) n1 (fun p hp => (hs.ob p hp).2)
  have el : lsk w ps = 1 + k := by unfold lsk; rw [hfr]; rfl
  have lf : fr.length ≤ 7 := by
    have := List.length_filter_le (fun i => ps.all (fitB w (1 + i))) (List.range w.length)
    rw [List.length_range] at this
    simp only [fr]
    omega
  have e : g_safe_skip (startD 3 [.str (tx w), sD ps]) [] = some (.rt (.int (1 + (k : Nat))) []) := by
    refine s_ret (v_op (v_toV (v_lc (own := [2]) (v_iR (v_cons rfl (v_one (v_op (v_N (v_one (v_var rfl)) (zLenT h.wz)) rfl zAddI))) (rg_one (by omega))) hlc (by rw [List.length_map]; omega))) rfl (ixL 0 rfl ?_))
    simp only [fr]
    rw [hfr]
    rfl
  rw [el]
  exact fV_of (b_rt e) (deref_no rfl)
/-- what one look at a told table needs -/
abbrev eI (w ord al : List Nat) (m : Nat) (v5 v6 v7 : Option Dt) : Evr := [some (.str (tx w)), some (OD ord), some (.str (tx al)), some (.ref m), some (.ref (m + 1)), v5, v6, v7]
theorem lc_oth (h : Win w al ord) {m p : Nat} (hp : 1 ≤ p ∧ p ≤ w.length) {v6 : Option Dt} {st : Sto} : lcGo (kName 7) c1_safe_in e1_safe_in (eI w ord al m (some (.int p)) v6 none) ((sl al).map fun c => .str (sg c)) st = some ((oth w (sl al) p).map fun c => .str (sg c), st) :=
  lcGo_pure _ _ _ _ fun c hc => ⟨_, rfl, t_B (v_op (v_var rfl) (v_op (v_var rfl) (v_op (v_var rfl) rfl zMin) (ix_w h rfl hp.1 hp.2)) (by rw [zNeS]; simp only [sg_inj])), fun _ => v_var rfl⟩
theorem oth_nd (h : Win w al ord) (p : Nat) : (oth w (sl al) p).Nodup := nodup_filter _ ((sl_perm al).nodup_iff.mpr h.na)
theorem oth_len (h : Win w al ord) (p : Nat) : (oth w (sl al) p).length ≤ 1000 := by
  have := List.length_filter_le (fun c => !decide (c = wAt w p)) (sl al)
  rw [(sl_perm al).length_eq] at this
  have := h.a5
  unfold oth; omega
/-- the places of k rows that stand from a on -/
def rfs (a k : Nat) : List Dt := (List.range' a k).map Dt.ref
theorem rfs_len (a k : Nat) : (rfs a k).length = k := by unfold rfs; simp
theorem rfs_snoc (a k : Nat) : rfs a k ++ [.ref (a + k)] = rfs a (k + 1) := by unfold rfs; rw [List.range'_concat]; simp
def sS (st : Sto) (seen : List (Nat × Nat)) (rows : List Row) : Sto := st ++ some (sD seen) :: some (.lst (rfs (st.length + 2) rows.length)) :: rows.map fun r => some (rowD r)
theorem sS_len {st : Sto} {seen : List (Nat × Nat)} {rows : List Row} : (sS st seen rows).length = st.length + 2 + rows.length := by unfold sS; simp; omega
theorem sS_0 {st : Sto} {seen : List (Nat × Nat)} {rows : List Row} : (sS st seen rows)[st.length]? = some (some (sD seen)) := by unfold sS; simp
theorem sS_1 {st : Sto} {seen : List (Nat × Nat)} {rows : List Row} : (sS st seen rows)[st.length + 1]? = some (some (.lst (rfs (st.length + 2) rows.length))) := by unfold sS; rw [List.getElem?_append_right (by omega), show st.length + 1 - st.length = 1 by omega]; rfl
theorem sS_1' {st : Sto} {seen : List (Nat × Nat)} {rows : List Row} {Y : Sto} : (sS st seen rows ++ Y)[st.length + 1]? = some (some (.lst (rfs (st.length + 2) rows.length))) := by rw [List.getElem?_append_left (by rw [sS_len]; omega)]; exact sS_1
theorem sS_set {st : Sto} {seen seen' : List (Nat × Nat)} {rows : List Row} : (sS st seen rows).set st.length (some (sD seen')) = sS st seen' rows := by unfold sS; rw [List.set_append_right _ _ (by omega), Nat.sub_self]; rfl
theorem sS_app {st : Sto} {seen : List (Nat × Nat)} {rows : List Row} {r : Row} : (sS st seen rows ++ [some (rowD r)]).set (st.length + 1) (some (.lst (rfs (st.length + 2) rows.length ++ [.ref (sS st seen rows).length]))) = sS st seen (rows ++ [r]) := by
  rw [sS_len, rfs_snoc]
  unfold sS
  rw [List.append_assoc, List.set_append_right _ _ (by omega), show st.length + 1 - st.length = 1 by omega]
  simp
theorem si2_outer (h : Win w al ord) (st0 : Sto) : ∀ (ps : List Nat) (seen : List (Nat × Nat)) (rows : List Row) (v5 v6 : Option Dt), (∀ p ∈ ps, 1 ≤ p ∧ p ≤ w.length) → ps.Nodup → (∀ p ∈ ps, p ∉ seen.map (·.1)) → Seen w seen → seen.length + ps.length ≤ 100 → rows.length + ps.length ≤ 100 →
    ∃ (v5' v6' : Option Dt), sForGo (kName 5) b3_safe_in (ps.map fun p : Nat => .int p) (eI w ord al st0.length v5 v6 none) (sS st0 seen rows) = some (.nx (eI w ord al st0.length v5' v6' none) (sS st0 (seen ++ sn w ps) (rows ++ srows w (sl al) seen ps))) ∧ Seen w (seen ++ sn w ps)
  | [], seen, rows, v5, v6, _, _, _, hs, _, _ => ⟨v5, v6, by unfold sn srows; simp; rfl, by unfold sn; rw [List.map_nil, List.append_nil]; exact hs⟩
  | p :: ps, seen, rows, v5, v6, hb, nd, hps, hs, hsz, hrz => by
    have hz := line_ge
    have a5 := h.a5
    rw [List.length_cons] at hsz hrz
    have hp := hb p (by simp)
    have hpn := hps p (by simp)
    have on := oth_nd h p
    have ol := oth_len h p
    let st : Sto := sS st0 seen rows
    let m := st0.length
    have hm0 : st[m]? = some (some (sD seen)) := sS_0
    have hm1 : st[m + 1]? = some (some (.lst (rfs (m + 2) rows.length))) := sS_1
    have seen2 : ∀ c, Seen w (seen ++ [(p, c)]) := fun c => ⟨fun q hq => by
      rcases List.mem_append.mp hq with hq | hq
      · exact hs.ob q hq
      · simp at hq; rw [hq]; exact hp, by rw [List.length_append]; simp; omega⟩
    let f : Nat → Nat := fun c => lsk w (seen ++ [(p, c)])
    have hf : ∀ c, fV F_safe_skip [.str (tx w), sD (seen ++ [(p, c)])] = some (.int (f c)) := fun c => run_safe_skip h (seen2 c)
    let OT : Dt := .lst ((oth w (sl al) p).map fun c => .str (sg c))
    have s1 : sSet 6 (toV (lc (iE itL (eN gSortZ (aCons (eVar 2) aNil))) [7] (kName 7) c1_safe_in e1_safe_in)) (eI w ord al m (some (.int p)) v6 none) st = some (.nx (eI w ord al m (some (.int p)) (some OT) none) st) :=
      s_set (v_toV (v_lc (v_iE (v_N (v_one (v_var rfl)) (sort_tx a5)) rfl) (lc_oth h hp) (by rw [List.length_map]; omega)))
    have star : ∀ c, dToV (eStar (eVar 3) (eVar 5) (eVar 7)) [some (.str (tx w)), some (OD ord), some (.str (tx al)), some (.ref m), some (.ref (m + 1)), some (.int p), some OT, some (.str (sg c))] st = some (sD (seen ++ [(p, c)]), st) := fun c => by
      unfold dToV eStar
      rw [v_var (d := .ref m) rfl, Option.bind_some]
      show ((asD st (.ref m)).bind _).bind _ = _
      rw [show asD st (.ref m) = some (seen.map fun p : Nat × Nat => (Sum.inl (p.1 : Int) : Key), seen.map fun p : Nat × Nat => Dt.str (sg p.2)) from by unfold asD; dsimp only; rw [hm0]; rfl, Option.bind_some, v_var (d := .int p) rfl, Option.bind_some, v_var (d := .str (sg c)) rfl, Option.bind_some, zKeyI, Option.bind_some]
      dsimp only
      rw [if_pos (by rw [List.length_map]; omega), Option.bind_some, pPut_sD hpn]
      rfl
    have hdc := dc_pure (kt := kName 7) (fk := eVar 7) (fv := v2_safe_in) (r := eI w ord al m (some (.int p)) (some OT) none) (st := st) (fun c : Nat => Dt.str (sg c)) sg (fun c => Dt.int (f c)) (oth w (sl al) p) [] [] (fun c hc => ⟨[some (.str (tx w)), some (OD ord), some (.str (tx al)), some (.ref m), some (.ref (m + 1)), some (.int p), some OT, some (.str (sg c))], rfl, v_var rfl, v_N (v_cons (v_var rfl) (v_one (star c))) (v_gF rfl (v_V (by simp) (hf c)))⟩) (by
      rw [List.nil_append]
      exact List.Pairwise.map sg (fun a b hab z => hab (sg_inj.mp z)) on) (by simp; omega)
    have s2 : sEx (eM isL gApp (eVar 4) (aCons (dToR (dc (iE itL (eVar 6)) [7] (kName 7) cYes (eVar 7) v2_safe_in)) aNil)) (eI w ord al m (some (.int p)) (some OT) none) st = some (.nx (eI w ord al m (some (.int p)) (some OT) none) (sS st0 seen (rows ++ [(oth w (sl al) p, f)]))) := by
      have hd : dToR (dc (iE itL (eVar 6)) [7] (kName 7) cYes (eVar 7) v2_safe_in) (eI w ord al m (some (.int p)) (some OT) none) st = some (.ref st.length, st ++ [some (rowD (oth w (sl al) p, f))]) := by
        rw [zDToR, zDc, v_iE (xs := (oth w (sl al) p).map fun c => Dt.str (sg c)) (v_var rfl) rfl, Option.bind_some]
        dsimp only
        rw [show wipeD (eI w ord al m (some (.int p)) (some OT) none) [7] = eI w ord al m (some (.int p)) (some OT) none from rfl]
        rw [show ([] : List Key) = ([] : List Str).map Sum.inr from rfl, hdc, Option.bind_some]
        unfold rowD
        rw [List.nil_append, List.nil_append, List.map_map]
        rfl
      have e := s_ex (v_app (r := eI w ord al m (some (.int p)) (some OT) none) (fo := eVar 4) (st := st) (k := m + 1) (ds := rfs (m + 2) rows.length) (v_var rfl) hm1 (v_one hd) sS_1' (by rw [rfs_len]; omega))
      rw [e]
      congr 2
      exact sS_app
    have s3 : sDP (eVar 3) (eVar 5) (eOp2 gIx (eVar 0) (eOp2 gMin (eVar 5) (eC (.int 1)))) (eI w ord al m (some (.int p)) (some OT) none) (sS st0 seen (rows ++ [(oth w (sl al) p, f)])) = some (.nx (eI w ord al m (some (.int p)) (some OT) none) (sS st0 (seen ++ [(p, wAt w p)]) (rows ++ [(oth w (sl al) p, f)]))) := by
      have e := s_DP (r := eI w ord al m (some (.int p)) (some OT) none) (st := sS st0 seen (rows ++ [(oth w (sl al) p, f)])) (fd := eVar 3) (fk := eVar 5) (fv := eOp2 gIx (eVar 0) (eOp2 gMin (eVar 5) (eC (.int 1)))) (v := .str (sg (wAt w p))) (v_op (v_var rfl) (v_op (v_var rfl) rfl zMin) (ix_w h rfl hp.1 hp.2)) (v_var rfl) (v_var rfl) (ks := seen.map fun p : Nat × Nat => (Sum.inl (p.1 : Int) : Key)) (es := seen.map fun p : Nat × Nat => Dt.str (sg p.2)) (k := Sum.inl (p : Int)) sS_0 (by rw [List.length_map]; omega) rfl
      rw [e, pPut_sD hpn]
      congr 2
      exact sS_set
    obtain ⟨u5, u6, k1, k2⟩ := si2_outer h st0 ps (seen ++ [(p, wAt w p)]) (rows ++ [(oth w (sl al) p, f)]) (some (.int p)) (some OT) (fun q hq => hb q (by simp [hq])) (List.nodup_cons.mp nd).2 (fun q hq => by
      rw [List.map_append, List.mem_append]
      rintro (z | z)
      · exact hps q (by simp [hq]) z
      · simp at z; subst z; exact (List.nodup_cons.mp nd).1 hq) (seen2 _) (by rw [List.length_append]; simp; omega) (by rw [List.length_append]; simp; omega)
    have es : seen ++ sn w (p :: ps) = seen ++ [(p, wAt w p)] ++ sn w ps := by unfold sn; simp
    rw [es]
    refine ⟨u5, u6, ?_, k2⟩
    rw [List.map_cons]
    have er : rows ++ [(oth w (sl al) p, f)] ++ srows w (sl al) (seen ++ [(p, wAt w p)]) ps = rows ++ srows w (sl al) seen (p :: ps) := by
      rw [List.append_assoc]
      rfl
    rw [er] at k1
    exact for_cons (r1 := eI w ord al m (some (.int p)) v6 none) rfl (s_seq s1 (s_seq s2 s3)) k1
/-- the table of the greatest safe skips -/
def st0 (w ord : List Nat) : Nat := lsk w (sn w ord)
def srw (w al ord : List Nat) : List Row := srows w (sl al) [] ord
theorem srw_len (w al ord : List Nat) : (srw w al ord).length = ord.length := by unfold srw; rw [srows_len]
/-- the store after the call -/
def aft (w al ord : List Nat) (st : Sto) : Sto := st ++ none :: some (.lst (rfs (st.length + 2) ord.length)) :: ((srw w al ord).map fun r => some (rowD r)) ++ [some (.lst (.int (st0 w ord) :: rfs (st.length + 2) ord.length))]
theorem b_rtS {g : SS} {n : Nat} {ds : List Dt} {st st1 : Sto} {d : Dt} (h : g (startD n ds) st = some (.rt d st1)) : bodyF g n ds st = some (d, st1) := by unfold bodyF; rw [h]; rfl
theorem run_safe_raw (h : Win w al ord) (st : Sto) : F_safe_in [.str (tx w), OD ord, .str (tx al)] st = some (.ref (st.length + 2 + ord.length), aft w al ord st) := by
  have hz := line_ge
  have hol := h.ol
  have n7 := h.n7
  obtain ⟨v5, v6, k1, k2⟩ := si2_outer h st ord [] [] none none h.ob h.on (by simp) ⟨by simp, by simp⟩ (by simp; omega) (by simp; omega)
  rw [List.nil_append, List.nil_append] at k1
  rw [List.nil_append] at k2
  have ht := run_safe_skip h k2
  have rl : (srw w al ord).length = ord.length := srw_len w al ord
  let S1 : Sto := st ++ none :: some (.lst (rfs (st.length + 2) ord.length)) :: (srw w al ord).map fun r => some (rowD r)
  have hS1 : (sS st (sn w ord) (srows w (sl al) [] ord)).set st.length none = S1 := by
    unfold sS
    rw [List.set_append_right _ _ (by omega), Nat.sub_self, show (srows w (sl al) [] ord).length = ord.length from rl]
    rfl
  have g1 : S1[st.length + 1]? = some (some (.lst (rfs (st.length + 2) ord.length))) := by
    simp only [S1]; rw [List.getElem?_append_right (by omega), show st.length + 1 - st.length = 1 by omega]; rfl
  have lS : S1.length = st.length + 2 + ord.length := by simp only [S1]; simp [rl]; omega
  have i0 : toR (small aNil) (startD 8 [.str (tx w), OD ord, .str (tx al)]) (st ++ [some (sD [])]) = some (.ref (st.length + 1), sS st [] []) := by
    rw [v_toR (v_smallN v_nil (by show 0 ≤ _; omega))]
    simp [sS, rfs]
  have e : g_safe_in (startD 8 [.str (tx w), OD ord, .str (tx al)]) st = some (.rt (.ref (st.length + 2 + ord.length)) (aft w al ord st)) := by
    refine s_seq (r1 := eI w ord al st.length none none none) (st1 := sS st [] []) (s_asg (d := .tup [.ref st.length, .ref (st.length + 1)]) (v_toT (v_cons (x := .ref st.length) (st1 := st ++ [some (sD [])]) rfl (v_one i0)) (by show 2 ≤ _; omega)) rfl) ?_
    refine s_seq (s_for (v_iE (v_var rfl) (show itL (sS st [] []) (OD ord) = some (ord.map fun p : Nat => .int p) from rfl)) k1) ?_
    have hfz : eFrz (eVar 3) (eI w ord al st.length v5 v6 none) (sS st (sn w ord) (srows w (sl al) [] ord)) = some (sD (sn w ord), S1) := by
      have := v_frz (r := eI w ord al st.length v5 v6 none) (f := eVar 3) (st := sS st (sn w ord) (srows w (sl al) [] ord)) (k := st.length) (d := sD (sn w ord)) (v_var rfl) sS_0
      rw [hS1] at this
      exact this
    refine s_ret (v_op (v_toV (v_smallN (v_one (v_N (v_cons (v_var rfl) (v_one hfz)) (v_gF rfl (v_V (by simp) ht)))) (by show 1 ≤ _; omega))) (v_var (d := .ref (st.length + 1)) rfl) ?_)
    unfold gAddR
    have a1 : asL S1 (.lst [Dt.int (lsk w (sn w ord))]) = some [Dt.int (lsk w (sn w ord))] := rfl
    have a2 : asL S1 (.ref (st.length + 1)) = some (rfs (st.length + 2) ord.length) := by unfold asL; dsimp only; rw [g1]
    rw [a1, a2]
    dsimp only
    rw [if_pos (by rw [rfs_len]; simp; omega), lS]
    rfl
  exact b_rtS e
theorem aft_at (st : Sto) (i : Nat) (r : Row) (hr : (srw w al ord)[i]? = some r) : (aft w al ord st)[st.length + 2 + i]? = some (some (rowD r)) := by
  have hi := (List.getElem?_eq_some_iff.mp hr).1
  unfold aft
  rw [List.getElem?_append_left (by simp; omega), List.getElem?_append_right (by omega), show st.length + 2 + i - st.length = i + 1 + 1 by omega, List.getElem?_cons_succ, List.getElem?_cons_succ, List.getElem?_map, hr]
  rfl
theorem aft_last (st : Sto) : (aft w al ord st)[st.length + 2 + ord.length]? = some (some (.lst (.int (st0 w ord) :: rfs (st.length + 2) ord.length))) := by
  unfold aft
  rw [List.getElem?_append_right (by simp [srw_len]; omega)]
  simp [srw_len]
  rw [show st.length + 2 + ord.length - (st.length + (ord.length + 1 + 1)) = 0 by omega]
  rfl
theorem aft_old (st : Sto) {i : Nat} {x : Option Dt} (hi : st[i]? = some x) : (aft w al ord st)[i]? = some x := by
  have := (List.getElem?_eq_some_iff.mp hi).1
  unfold aft
  rw [List.getElem?_append_left (by simp; omega), List.getElem?_append_left this]
  exact hi
theorem seen_sub (h : Win w al ord) {l : List Nat} (hl : ∀ p ∈ l, p ∈ ord) : ∀ p ∈ sn w l, p.1 ≤ w.length := fun p hp => by
  unfold sn at hp
  obtain ⟨q, hq, rfl⟩ := List.mem_map.mp hp
  exact (h.ob q (hl q hq)).2
theorem tb_safe (h : Win w al ord) : Tb w al ord (st0 w ord) (srw w al ord) := by
  have n1 := h.n1
  have l0 := lsk_ok n1 (seen_sub h (l := ord) fun _ z => z)
  have get : ∀ (i : Nat) (r : Row), (srw w al ord)[i]? = some r → ∃ p, ord[i]? = some p ∧ r = (oth w (sl al) p, fun c => lsk w ([] ++ sn w (ord.take i) ++ [(p, c)])) := fun i r hr => by
    have hi : i < ord.length := by
      have := (List.getElem?_eq_some_iff.mp hr).1
      unfold srw at this
      rw [srows_len] at this
      exact this
    have hp := List.getElem?_eq_getElem hi
    refine ⟨_, hp, ?_⟩
    have := srows_get (w := w) (al := sl al) ord [] i _ hp
    unfold srw at hr
    rw [hr] at this
    exact Option.some.inj this
  refine ⟨l0.1, l0.2.1, by unfold srw; rw [srows_len, h.ol], fun i r hr => ?_, fun i r p hr hp c => ?_, fun i r hr c hc => ?_⟩
  · obtain ⟨p, hp, rfl⟩ := get i r hr
    exact oth_nd h p
  · obtain ⟨q, hq, rfl⟩ := get i r hr
    rw [hp] at hq
    cases hq
    show c ∈ oth w (sl al) p ↔ _
    unfold oth
    rw [List.mem_filter, (sl_perm al).mem_iff]
    simp
  · obtain ⟨p, hp, rfl⟩ := get i r hr
    have hpo := h.ob p (List.mem_of_getElem? hp)
    have := lsk_ok (w := w) (ps := [] ++ sn w (ord.take i) ++ [(p, c)]) n1 (fun q hq => by
      rw [List.nil_append] at hq
      rcases List.mem_append.mp hq with z | z
      · exact seen_sub h (fun _ z => List.mem_of_mem_take z) q z
      · simp at z; rw [z]; exact hpo.2)
    exact ⟨this.1, this.2.1⟩
end
end K81

set_option Elab.async false
set_option linter.all false
set_option maxRecDepth 100000
set_option maxHeartbeats 1000000
namespace K81
open PySem PySem.Spec PyProof.Rows L2 HB
section
variable {w al ord txt : List Nat} {t0 : Nat} {rows : List Row} {ps : List (Nat × Nat)}
/-! what is found, and what is missed -/
theorem srch_fd : ∀ (n b : Nat) (told : List Nat) (lk : Nat), (srch w ord t0 rows txt n b told lk).1 = told ++ ((wk (skp w ord t0 rows txt) w.length txt.length n b).filter fun b => decide (fm w ord txt b = w.length)).map (· + w.length)
  | 0, b, told, lk => by unfold srch wk; simp
  | n + 1, b, told, lk => by
    unfold srch wk
    by_cases hb : b + w.length ≤ txt.length
    · rw [if_pos hb, if_pos hb, srch_fd n]
      by_cases hf : fm w ord txt b = w.length
      · rw [if_pos hf, List.filter_cons_of_pos (by simp [hf])]
        simp
      · rw [if_neg hf, List.filter_cons_of_neg (by simp [hf])]
        simp
    · rw [if_neg hb, if_neg hb]; simp
theorem wk_ge {f : Nat → Nat} {L N : Nat} : ∀ (m a x : Nat), x ∈ wk f L N m a → a ≤ x ∧ x + L ≤ N
  | 0, a, x, h => by simp [wk] at h
  | m + 1, a, x, h => by
    unfold wk at h
    split at h
    · rcases List.mem_cons.mp h with z | z
      · subst z; exact ⟨Nat.le_refl _, by assumption⟩
      · have := wk_ge m _ x z; exact ⟨by omega, this.2⟩
    · simp at h
theorem wk_mem {f : Nat → Nat} {L N b : Nat} (hb : b + L ≤ N) (h1 : ∀ a, a < b → 1 ≤ f a ∧ a + f a ≤ b) : ∀ (m a : Nat), a ≤ b → N < a + m → b ∈ wk f L N m a
  | 0, a, hab, hm => by omega
  | m + 1, a, hab, hm => by
    unfold wk
    rw [if_pos (by omega)]
    by_cases e : a = b
    · rw [e]; simp
    · have := h1 a (by omega)
      exact List.mem_cons_of_mem _ (wk_mem hb h1 m (a + f a) this.2 (by omega))
/-- the word stands there -/
def occ (w txt : List Nat) (b : Nat) : Prop := b + w.length ≤ txt.length ∧ ∀ q, 1 ≤ q → q ≤ w.length → tAt txt b q = wAt w q
theorem occ_fm (hol : ord.length = w.length) (hob : ∀ p ∈ ord, 1 ≤ p ∧ p ≤ w.length) {b : Nat} (h : occ w txt b) : fm w ord txt b = w.length := by
  unfold fm
  rw [← hol]
  refine List.findIdx_eq_length.mpr fun p hp => ?_
  have := hob p hp
  unfold mis
  simp [h.2 p this.1 this.2]
theorem fm_occ (hcov : ∀ q, 1 ≤ q → q ≤ w.length → q ∈ ord) (hol : ord.length = w.length) {b : Nat} (hb : b + w.length ≤ txt.length) (h : fm w ord txt b = w.length) : occ w txt b := by
  refine ⟨hb, fun q h1 h2 => ?_⟩
  unfold fm at h
  have := List.findIdx_eq_length.mp (h.trans hol.symm) q (hcov q h1 h2)
  unfold mis at this
  simpa using this
/-- an occurrence further on does not contradict what was seen -/
theorem occ_fit {a b : Nat} (hob : ∀ p ∈ ord, 1 ≤ p ∧ p ≤ w.length) (n1 : 1 ≤ w.length) (hab : a < b) (h : occ w txt b) : a + lsk w (see w ord txt a) ≤ b := by
  have ub : ∀ p ∈ see w ord txt a, p.1 ≤ w.length := fun p hp => by
    unfold see at hp
    obtain ⟨q, hq, rfl⟩ := List.mem_map.mp hp
    exact (hob q (List.mem_of_mem_take hq)).2
  have l := lsk_ok n1 ub
  by_cases hlt : b - a ≤ w.length
  · have hf : (see w ord txt a).all (fitB w (b - a)) = true := by
      rw [List.all_eq_true]
      intro p hp
      have hpu := ub p hp
      unfold see at hp
      obtain ⟨q, hq, rfl⟩ := List.mem_map.mp hp
      unfold fitB
      by_cases hqb : q ≤ b - a
      · simp [hqb]
      · have := h.2 (q - (b - a)) (by omega) (by dsimp only at hpu; omega)
        unfold tAt wAt at this
        have e1 : b + (q - (b - a)) - 1 = a + q - 1 := by omega
        rw [e1] at this
        have : w.getD (q - (b - a) - 1) 0 = tAt txt a q := by unfold tAt; exact this.symm
        simp only [this, decide_true, Bool.or_true]
    have := lsk_le n1 ub (by omega) hlt hf
    omega
  · omega
/-- a table none of whose skips is greater than the safe one misses nothing -/
theorem no_miss (hol : ord.length = w.length) (hob : ∀ p ∈ ord, 1 ≤ p ∧ p ≤ w.length) (n1 : 1 ≤ w.length) (hN : txt.length < 1000) (hs : ∀ b, b + w.length ≤ txt.length → 1 ≤ skp w ord t0 rows txt b ∧ skp w ord t0 rows txt b ≤ lsk w (see w ord txt b)) {b : Nat} (h : occ w txt b) : b + w.length ∈ (srch w ord t0 rows txt 1000 0 [] 0).1 := by
  rw [srch_fd, List.nil_append, List.mem_map]
  refine ⟨b, List.mem_filter.mpr ⟨?_, by simp [occ_fm hol hob h]⟩, rfl⟩
  refine wk_mem h.1 (fun a ha => ?_) 1000 0 (Nat.zero_le _) (by omega)
  have hb1 := h.1
  have k := hs a (by omega)
  have := occ_fit (ord := ord) hob n1 ha h
  exact ⟨k.1, by omega⟩
/-- a text whose first window leads behind the word at its end -/
theorem miss {far : Nat} (hN : txt.length = far + w.length) (h1 : 1 ≤ far) (hg : far < skp w ord t0 rows txt 0) : far + w.length ∉ (srch w ord t0 rows txt 1000 0 [] 0).1 := by
  rw [srch_fd, List.nil_append, List.mem_map]
  rintro ⟨b, hb, e⟩
  obtain ⟨hb1, hb2⟩ := List.mem_filter.mp hb
  have e' : b = far := by omega
  subst e'
  unfold wk at hb1
  rw [if_pos (by omega)] at hb1
  rcases List.mem_cons.mp hb1 with z | z
  · omega
  · have := (wk_ge _ _ _ z).1
    omega
/-! the text of an entry -/
def lkp (ps : List (Nat × Nat)) (d p : Nat) : Nat := match ps.find? fun q => decide (q.1 = p) with
  | some q => q.2
  | none => d
def tfor (w : List Nat) (ps : List (Nat × Nat)) (far : Nat) : List Nat := ((List.range far).map fun i => lkp ps (w.getD 0 0) (1 + i)) ++ w
theorem tfor_len {far : Nat} : (tfor w ps far).length = far + w.length := by unfold tfor; simp
theorem lkp_mem (nd : (ps.map (·.1)).Nodup) {q : Nat × Nat} (hq : q ∈ ps) (d : Nat) : lkp ps d q.1 = q.2 := by
  unfold lkp
  cases hf : ps.find? fun r => decide (r.1 = q.1) with
  | none =>
    have := List.find?_eq_none.mp hf q hq
    simp at this
  | some r =>
    have h1 := List.mem_of_find?_eq_some hf
    have h2 := List.find?_some hf
    simp at h2
    obtain ⟨i, hi, ei⟩ := List.mem_iff_getElem.mp h1
    obtain ⟨j, hj, ej⟩ := List.mem_iff_getElem.mp hq
    have : i = j := (List.getElem_inj (xs := ps.map (·.1)) (h₀ := by simpa using hi) (h₁ := by simpa using hj) nd).mp (by simp [ei, ej, h2])
    subst this
    rw [← ei, ej]
theorem tfor_at {far : Nat} (nd : (ps.map (·.1)).Nodup) (hfit : ps.all (fitB w far) = true) {q : Nat × Nat} (hq : q ∈ ps) (h1 : 1 ≤ q.1) (h2 : q.1 ≤ w.length) : tAt (tfor w ps far) 0 q.1 = q.2 := by
  unfold tAt tfor
  rw [Nat.zero_add]
  by_cases hf : q.1 ≤ far
  · rw [List.getD, List.getElem?_append_left (by simp; omega), List.getElem?_map, List.getElem?_range (by omega)]
    show lkp ps _ (1 + (q.1 - 1)) = _
    have e : 1 + (q.1 - 1) = q.1 := by omega
    rw [e]
    exact lkp_mem nd hq _
  · have := List.all_eq_true.mp hfit q hq
    unfold fitB at this
    simp [hf] at this
    rw [List.getD, List.getElem?_append_right (by simp; omega)]
    simp
    have e : q.1 - 1 - far = q.1 - far - 1 := by omega
    rw [e]
    exact this
theorem tfor_occ {far : Nat} : occ w (tfor w ps far) far := by
  refine ⟨by rw [tfor_len]; omega, fun q h1 h2 => ?_⟩
  unfold tAt wAt tfor
  rw [List.getD, List.getElem?_append_right (by simp; omega)]
  simp
  have e : far + q - 1 - far = q - 1 := by omega
  rw [e]
theorem lkp_al (hw : ∀ c ∈ w, c ∈ al) (hp : ∀ q ∈ ps, q.2 ∈ al) (n1 : 1 ≤ w.length) (p : Nat) : lkp ps (w.getD 0 0) p ∈ al := by
  unfold lkp
  split
  · rename_i q hq
    exact hp q (List.mem_of_find?_eq_some hq)
  · have : w.getD 0 0 ∈ w := by
      have : w.getD 0 0 = w[0] := by simp [List.getD, show 0 < w.length by omega]
      rw [this]; exact List.getElem_mem _
    exact hw _ this
theorem tfor_al {far : Nat} (hw : ∀ c ∈ w, c ∈ al) (hp : ∀ q ∈ ps, q.2 ∈ al) (n1 : 1 ≤ w.length) : ∀ c ∈ tfor w ps far, c ∈ al := by
  intro c hc
  unfold tfor at hc
  rcases List.mem_append.mp hc with z | z
  · obtain ⟨i, _, rfl⟩ := List.mem_map.mp z
    exact lkp_al hw hp n1 _
  · exact hw c z
/-! entries: which look, which letter -/
abbrev Ix := Nat × Option Nat
/-- what is seen at an entry -/
def sOf (w ord : List Nat) : Ix → List (Nat × Nat)
  | (i + 1, some c) => sn w (ord.take i) ++ [(ord.getD i 0, c)]
  | _ => sn w ord
def vOf (t0 : Nat) (rows : List Row) : Ix → Nat
  | (i + 1, some c) => (rows.getD i ([], fun _ => 0)).2 c
  | _ => t0
/-- an entry of the tables of a window -/
def okIx (w al ord : List Nat) : Ix → Prop
  | (0, none) => True
  | (i + 1, some c) => ∃ p, ord[i]? = some p ∧ c ∈ al ∧ c ≠ wAt w p
  | _ => False
theorem sOf_nd (on : ord.Nodup) {x : Ix} (hx : okIx w al ord x) : ((sOf w ord x).map (·.1)).Nodup := by
  have e : ∀ l : List Nat, (sn w l).map (·.1) = l := fun l => by
    unfold sn
    rw [List.map_map]
    conv => rhs; rw [← List.map_id l]
    exact List.map_congr_left fun _ _ => rfl
  match x, hx with
  | (0, none), _ => show ((sn w ord).map (·.1)).Nodup; rw [e]; exact on
  | (i + 1, some c), ⟨p, hp, _, _⟩ =>
    show ((sn w (ord.take i) ++ [(ord.getD i 0, c)]).map (·.1)).Nodup
    rw [List.map_append, e]
    have hi : i < ord.length := (List.getElem?_eq_some_iff.mp hp).1
    have : ord.take i ++ [ord.getD i 0] = ord.take (i + 1) := by rw [List.take_add_one, hp]; simp [List.getD, hp]
    show (ord.take i ++ [ord.getD i 0]).Nodup
    rw [this]
    exact on.sublist (List.take_sublist _ _)
theorem sOf_ob (hob : ∀ p ∈ ord, 1 ≤ p ∧ p ≤ w.length) {x : Ix} (hx : okIx w al ord x) : ∀ q ∈ sOf w ord x, 1 ≤ q.1 ∧ q.1 ≤ w.length := by
  have e : ∀ l : List Nat, (∀ p ∈ l, p ∈ ord) → ∀ q ∈ sn w l, 1 ≤ q.1 ∧ q.1 ≤ w.length := fun l hl q hq => by
    unfold sn at hq
    obtain ⟨p, hp, rfl⟩ := List.mem_map.mp hq
    exact hob p (hl p hp)
  match x, hx with
  | (0, none), _ => exact e ord fun _ z => z
  | (i + 1, some c), ⟨p, hp, _, _⟩ =>
    intro q hq
    rcases List.mem_append.mp hq with z | z
    · exact e _ (fun _ z => List.mem_of_mem_take z) q z
    · simp [List.getD, hp] at z
      rw [z]
      exact hob p (List.mem_of_getElem? hp)
theorem sOf_al (hw : ∀ c ∈ w, c ∈ al) (hob : ∀ p ∈ ord, 1 ≤ p ∧ p ≤ w.length) {x : Ix} (hx : okIx w al ord x) : ∀ q ∈ sOf w ord x, q.2 ∈ al := by
  have e : ∀ l : List Nat, (∀ p ∈ l, p ∈ ord) → ∀ q ∈ sn w l, q.2 ∈ al := fun l hl q hq => by
    unfold sn at hq
    obtain ⟨p, hp, rfl⟩ := List.mem_map.mp hq
    have := hob p (hl p hp)
    refine hw _ ?_
    unfold wAt
    have h' : w.getD (p - 1) 0 = w[p - 1]'(by omega) := by simp [List.getD, show p - 1 < w.length by omega]
    rw [h']; exact List.getElem_mem _
  match x, hx with
  | (0, none), _ => exact e ord fun _ z => z
  | (i + 1, some c), ⟨p, hp, hc, _⟩ =>
    intro q hq
    rcases List.mem_append.mp hq with z | z
    · exact e _ (fun _ z => List.mem_of_mem_take z) q z
    · simp at z
      rw [z]
      exact hc
/-- the first window of such a text shows what the entry is for -/
theorem skp_sOf (hol : ord.length = w.length) {x : Ix} (hx : okIx w al ord x) (ha : ∀ q ∈ sOf w ord x, tAt txt 0 q.1 = q.2) : skp w ord t0 rows txt 0 = vOf t0 rows x := by
  match x, hx with
  | (0, none), _ =>
    have hf : fm w ord txt 0 = ord.length := by
      unfold fm
      refine List.findIdx_eq_length.mpr fun p hp => ?_
      have := ha (p, wAt w p) (List.mem_map.mpr ⟨p, hp, rfl⟩)
      unfold mis
      simp [this]
    unfold skp
    rw [if_neg (by omega)]
    rfl
  | (i + 1, some c), ⟨p, hp, hc, hne⟩ =>
    have hi : i < ord.length := (List.getElem?_eq_some_iff.mp hp).1
    have eg : ord.getD i 0 = p := by simp [List.getD, hp]
    have hpi : ord[i] = p := by rw [List.getElem?_eq_getElem hi] at hp; exact Option.some.inj hp
    have hat : tAt txt 0 p = c := ha (p, c) (by show (p, c) ∈ sn w (ord.take i) ++ [(ord.getD i 0, c)]; rw [eg]; simp)
    have hf : fm w ord txt 0 = i := by
      unfold fm
      refine (List.findIdx_eq hi).mpr ⟨?_, fun j hj => ?_⟩
      · rw [hpi]
        unfold mis
        simp [hat, hne]
      · have := ha (ord[j], wAt w ord[j]) (by
          show _ ∈ sn w (ord.take i) ++ [(ord.getD i 0, c)]
          refine List.mem_append_left _ (List.mem_map.mpr ⟨ord[j], ?_, rfl⟩)
          exact List.mem_take_iff_getElem.mpr ⟨j, by omega, rfl⟩)
        unfold mis
        simp [this]
    unfold skp
    rw [hf, if_pos hi, eg, hat]
    rfl
theorem vOf_safe (hol : ord.length = w.length) {al' : List Nat} {x : Ix} (hx : okIx w al ord x) : vOf (lsk w (sn w ord)) (srows w al' [] ord) x = lsk w (sOf w ord x) := by
  match x, hx with
  | (0, none), _ => rfl
  | (i + 1, some c), ⟨p, hp, _, _⟩ =>
    have hg := srows_get (w := w) (al := al') ord [] i p hp
    show ((srows w al' [] ord).getD i ([], fun _ => 0)).2 c = lsk w (sn w (ord.take i) ++ [(ord.getD i 0, c)])
    rw [List.getD, hg]
    simp [List.getD, hp]
/-- what a window shows belongs to an entry -/
theorem ix_of (hol : ord.length = w.length) (hob : ∀ p ∈ ord, 1 ≤ p ∧ p ≤ w.length) (hsub : ∀ c ∈ txt, c ∈ al) {b : Nat} (hb : b + w.length ≤ txt.length) : ∃ x, okIx w al ord x ∧ (∀ (t0 : Nat) (rows : List Row), skp w ord t0 rows txt b = vOf t0 rows x) ∧ see w ord txt b = sOf w ord x := by
  by_cases hf : fm w ord txt b < ord.length
  · have hp := List.getElem?_eq_getElem hf
    have hpo := hob _ (List.getElem_mem hf)
    have hm : mis w txt b ord[fm w ord txt b] = true := List.findIdx_getElem (p := mis w txt b) (w := hf)
    refine ⟨(fm w ord txt b + 1, some (tAt txt b ord[fm w ord txt b])), ⟨_, hp, ?_, ?_⟩, fun t0 rows => ?_, ?_⟩
    · refine hsub _ ?_
      unfold tAt
      have h' : txt.getD (b + ord[fm w ord txt b] - 1) 0 = txt[b + ord[fm w ord txt b] - 1]'(by omega) := by simp [List.getD, show b + ord[fm w ord txt b] - 1 < txt.length by omega]
      rw [h']; exact List.getElem_mem _
    · unfold mis at hm
      simpa using hm
    · unfold skp
      rw [if_pos hf]
      have e2 : ord.getD (fm w ord txt b) 0 = ord[fm w ord txt b] := by rw [List.getD, hp]; rfl
      rw [e2]
      rfl
    · show _ = sn w (ord.take (fm w ord txt b)) ++ [(ord.getD (fm w ord txt b) 0, _)]
      have e2 : ord.getD (fm w ord txt b) 0 = ord[fm w ord txt b] := by rw [List.getD, hp]; rfl
      rw [e2]
      unfold see
      rw [List.take_add_one, hp, List.map_append, see_head]
      rfl
  · have hle : fm w ord txt b ≤ ord.length := by unfold fm; exact List.findIdx_le_length
    have e : fm w ord txt b = ord.length := by omega
    refine ⟨(0, none), trivial, fun t0 rows => ?_, ?_⟩
    · unfold skp
      rw [if_neg hf]
      rfl
    · have e2 := see_head (w := w) (ord := ord) (txt := txt) b
      rw [e, List.take_of_length_le (by omega)] at e2
      show _ = sn w ord
      unfold see
      rw [e, List.take_of_length_le (by omega), e2]
end
end K81

set_option Elab.async false
set_option linter.all false
set_option maxRecDepth 100000
set_option maxHeartbeats 1000000
namespace K81
open PySem PySem.Spec PyProof.Rows L2 HB
/-! entries of a table -/
abbrev Ent := Nat × Option Nat × Nat
def oD : Option Nat → Dt
  | none => .non
  | some c => .str (sg c)
def entD (e : Ent) : Dt := .tup [.int e.1, oD e.2.1, .int e.2.2]
@[simp] theorem nr_oD {o : Option Nat} : noRef (oD o) = true := by cases o <;> rfl
@[simp] theorem nr_entD {e : Ent} : noRef (entD e) = true := by unfold entD; simp
def entR (i : Nat) (r : Row) : List Ent := (sl r.1).map fun c => (i + 1, some c, r.2 c)
theorem entR_len (i : Nat) (r : Row) : (entR i r).length = r.1.length := by unfold entR; rw [List.length_map, (sl_perm _).length_eq]
theorem gSort_row {st : Sto} {r : Row} : gSortZ st [rowD r] = some (.lst ((sl r.1).map fun c => .str (sg c)), st) := by
  show ((kStrs (r.1.map fun c => (Sum.inr (sg c) : Key))).map fun ks => (Dt.lst ((sortS ks).map .str), st)) = _
  have hk : ∀ l : List Nat, kStrs (l.map fun c => (Sum.inr (sg c) : Key)) = some (l.map sg) := fun l => by
    induction l with
    | nil => rfl
    | cons x l ih => rw [List.map_cons]; show (kStrs (l.map fun c => (Sum.inr (sg c) : Key))).map _ = _; rw [ih]; rfl
  rw [hk]
  show some (Dt.lst _, st) = _
  rw [← sl_sg, List.map_map]
  rfl
def ents (t0 : Nat) (rows : List Row) : List Ent := rows.zipIdx.foldl (fun l x => l ++ entR x.2 x.1) [(0, none, t0)]
theorem run_entries {t0 : Nat} {rows : List Row} (hl : rows.length ≤ 7) (hr : ∀ r ∈ rows, r.1.length ≤ 1000) : fV F_entries_of [tabD t0 rows] = some (.lst ((ents t0 rows).map entD)) := by
  have hz := line_ge
  have key : ∀ (xs : List (Row × Nat)) (l : List Ent) (a b : Option Dt), (∀ x ∈ xs, x.1.1.length ≤ 1000) → l.length + xs.length * 1000 ≤ 8000 → ∃ a' b', sForGo (HB.kTup (ksCons (kName 2) (ksCons (kName 3) ksNil))) b2_entries_of (xs.map fun p : Row × Nat => Dt.tup [.int p.2, rowD p.1]) [some (tabD t0 rows), some (.ref 0), a, b, none] [some (.lst (l.map entD))] = some (.nx [some (tabD t0 rows), some (.ref 0), a', b', none] [some (.lst ((xs.foldl (fun l x => l ++ entR x.2 x.1) l).map entD))]) := by
    intro xs
    induction xs with
    | nil => intro l a b _ _; exact ⟨a, b, rfl⟩
    | cons x xs ih =>
      intro l a b hx hlen
      rw [List.length_cons, Nat.succ_mul] at hlen
      have hx1 := hx x (by simp)
      have hel := entR_len x.2 x.1
      obtain ⟨a', b', e⟩ := ih (l ++ entR x.2 x.1) (some (.int x.2)) (some (rowD x.1)) (fun y hy => hx y (by simp [hy])) (by rw [List.length_append]; omega)
      refine ⟨a', b', ?_⟩
      rw [List.map_cons, List.foldl_cons]
      refine for_cons (r1 := [some (tabD t0 rows), some (.ref 0), some (.int x.2), some (rowD x.1), none]) rfl ?_ e
      have hlc : lcGo (kName 4) cYes e1_entries_of [some (tabD t0 rows), some (.ref 0), some (.int x.2), some (rowD x.1), none] ((sl x.1.1).map fun c => .str (sg c)) [some (.lst (l.map entD))] = some ((entR x.2 x.1).map entD, [some (.lst (l.map entD))]) := by
        unfold entR
        rw [List.map_map]
        refine lcGo_map _ _ _ fun c hc => ⟨[some (tabD t0 rows), some (.ref 0), some (.int x.2), some (rowD x.1), some (.str (sg c))], rfl, ?_⟩
        have hc' : c ∈ x.1.1 := (sl_perm _).mem_iff.mp hc
        exact v_toT (v_cons (v_op (v_var rfl) rfl zAddI) (v_cons (v_var rfl) (v_one (v_op (v_var rfl) (v_var rfl) (ix_row hc'))))) (by show 3 ≤ _; omega)
      refine s_aug (i := 1) (d := .ref 0) (z := .ref 0) rfl (v_toV (v_lc (own := [4]) (v_iE (v_N (v_one (v_var rfl)) gSort_row) rfl) hlc (by rw [List.length_map]; omega))) ?_
      show (if (l.map entD).length + ((entR x.2 x.1).map entD).length ≤ sizeLine then some (Dt.ref 0, [some (Dt.lst (l.map entD ++ (entR x.2 x.1).map entD))]) else none) = _
      rw [if_pos (by rw [List.length_map, List.length_map]; omega), List.map_append]
  have zl : ∀ x ∈ rows.zipIdx, x.1 ∈ rows := fun x hx => by
    obtain ⟨r, i⟩ := x
    exact List.mem_of_getElem? (List.mem_zipIdx_iff_getElem?.mp hx)
  obtain ⟨a', b', e⟩ := key rows.zipIdx [(0, none, t0)] none none (fun x hx => hr _ (zl x hx)) (by simp; omega)
  have en1 : en [.lst (rows.map rowD)] = some (rows.zipIdx.map fun p : Row × Nat => Dt.tup [.int p.2, rowD p.1]) := by
    show some (enumL _) = _
    unfold enumL
    rw [List.zipIdx_map, List.map_map]
    rfl
  have e2 : g_entries_of (startD 5 [tabD t0 rows]) [] = some (.rt (.ref 0) [some (.lst ((ents t0 rows).map entD))]) := by
    refine s_seq (r1 := [some (tabD t0 rows), some (.ref 0), none, none, none]) (st1 := [some (.lst ([((0, none, t0) : Ent)].map entD))]) (s_set (v_toR0 (v_smallN (v_one (v_toT (v_cons rfl (v_cons rfl (v_one (v_op (v_var rfl) rfl (ixL (d := .int t0) 0 rfl rfl))))) (by show 3 ≤ _; omega))) (by show 1 ≤ _; omega)))) ?_
    refine s_seq (s_for (v_iR (v_one (x := .lst (rows.map rowD)) (st1 := [some (.lst ([((0, none, t0) : Ent)].map entD))]) (v_sl (v_var rfl) (v_oE rfl) rfl ?_)) en1) e) (s_ret (v_var rfl))
    show some (Dt.lst (cutL (.int t0 :: rows.map rowD) (some ((1 : Nat) : Int)) none)) = _
    rw [cutL_from]
    rfl
  exact fV_lst (b_rt e2) rfl (noRefs_map fun _ _ => nr_entD)
/-- all entries of tables of a window -/
def ixs (w al ord : List Nat) : List Ix := ord.zipIdx.foldl (fun l x => l ++ (oth w (sl al) x.1).map fun c => (x.2 + 1, some c)) [(0, none)]
theorem mem_fold {α β : Type} (f : α → List β) (x : β) : ∀ (xs : List α) (l : List β), x ∈ xs.foldl (fun l a => l ++ f a) l ↔ x ∈ l ∨ ∃ a ∈ xs, x ∈ f a
  | [], l => by simp
  | a :: xs, l => by
    rw [List.foldl_cons, mem_fold f x xs, List.mem_append]
    constructor
    · rintro ((z | z) | ⟨b, hb, z⟩)
      · exact .inl z
      · exact .inr ⟨a, by simp, z⟩
      · exact .inr ⟨b, by simp [hb], z⟩
    · rintro (z | ⟨b, hb, z⟩)
      · exact .inl (.inl z)
      · rcases List.mem_cons.mp hb with e | e
        · subst e; exact .inl (.inr z)
        · exact .inr ⟨b, e, z⟩
section
variable {w al ord txt : List Nat} {t0 : Nat} {rows : List Row}
theorem mem_ixs (x : Ix) : x ∈ ixs w al ord ↔ okIx w al ord x := by
  unfold ixs
  rw [mem_fold (fun x : Nat × Nat => (oth w (sl al) x.1).map fun c => ((x.2 + 1, some c) : Ix))]
  have mo : ∀ p c, c ∈ oth w (sl al) p ↔ c ∈ al ∧ c ≠ wAt w p := fun p c => by
    unfold oth
    rw [List.mem_filter, (sl_perm al).mem_iff]
    simp
  constructor
  · rintro (z | ⟨⟨p, i⟩, hp, z⟩)
    · simp at z; subst z; trivial
    · obtain ⟨c, hc, rfl⟩ := List.mem_map.mp z
      exact ⟨p, List.mem_zipIdx_iff_getElem?.mp hp, (mo p c).mp hc⟩
  · intro h
    match x, h with
    | (0, none), _ => left; simp
    | (i + 1, some c), ⟨p, hp, hc⟩ =>
      right
      exact ⟨(p, i), List.mem_zipIdx_iff_getElem?.mpr hp, List.mem_map.mpr ⟨c, (mo p c).mpr hc, rfl⟩⟩
theorem rows_len (h : Win w al ord) (t : Tb w al ord t0 rows) : ∀ r ∈ rows, r.1.length ≤ 1000 := fun r hr => by
  obtain ⟨i, hi, e⟩ := List.mem_iff_getElem.mp hr
  have hri : rows[i]? = some r := by rw [List.getElem?_eq_getElem hi, e]
  obtain ⟨p, hp⟩ : ∃ p, ord[i]? = some p := ⟨ord[i]'(by rw [h.ol, ← t.rl]; exact hi), List.getElem?_eq_getElem _⟩
  have nd1 := t.nd i r hri
  have hl : r.1.length = (oth w al p).length := ((List.perm_ext_iff_of_nodup nd1 (nodup_filter _ h.na)).mpr fun c => by
    rw [t.mem i r p hri hp c, List.mem_filter]
    simp).length_eq
  have := List.length_filter_le (fun c => !decide (c = wAt w p)) al
  have := h.a5
  unfold oth at hl
  omega
theorem sort_oth (w al : List Nat) (p : Nat) : sortS ((oth w al p).map sg) = (oth w (sl al) p).map sg := by
  have hp : ((oth w al p).map sg).Perm ((oth w (sl al) p).map sg) := ((sl_perm al).symm.filter _).map sg
  rw [sortS_of_perm hp]
  have hs : ((oth w (sl al) p).map sg).Pairwise fun a b => strLe a b = true := by
    have h1 := sortS_sorted (al.map sg)
    rw [← sl_sg] at h1
    refine h1.sublist ?_
    unfold oth
    exact List.Sublist.map sg List.filter_sublist
  unfold sortS
  exact List.mergeSort_of_pairwise hs
theorem sl_row (h : Win w al ord) (t : Tb w al ord t0 rows) {i p : Nat} {r : Row} (hr : rows[i]? = some r) (hp : ord[i]? = some p) : sl r.1 = oth w (sl al) p := by
  have hpm : r.1.Perm (oth w al p) := (List.perm_ext_iff_of_nodup (t.nd i r hr) (nodup_filter _ h.na)).mpr fun c => by
    rw [t.mem i r p hr hp c, List.mem_filter]
    simp
  unfold sl
  rw [sortS_of_perm (hpm.map sg), sort_oth, List.map_map]
  conv => rhs; rw [← List.map_id (oth w ((sortS (al.map sg)).map chr) p)]
  exact List.map_congr_left fun c _ => rfl
theorem ents_go (h : Win w al ord) (t : Tb w al ord t0 rows) : ∀ (xs : List Row) (ps : List Nat) (k : Nat) (m : List Ix), xs.length = ps.length → rows.drop k = xs → ord.drop k = ps → (xs.zipIdx k).foldl (fun l x => l ++ entR x.2 x.1) (m.map fun x => (x.1, x.2, vOf t0 rows x)) = ((ps.zipIdx k).foldl (fun l x => l ++ (oth w (sl al) x.1).map fun c => ((x.2 + 1, some c) : Ix)) m).map fun x => (x.1, x.2, vOf t0 rows x)
  | [], [], k, m, _, _, _ => rfl
  | [], _ :: _, _, _, e, _, _ => by simp at e
  | _ :: _, [], _, _, e, _, _ => by simp at e
  | r :: xs, p :: ps, k, m, e, hr, hp => by
    rw [List.zipIdx_cons, List.zipIdx_cons, List.foldl_cons, List.foldl_cons]
    have hrk : rows[k]? = some r := by rw [← List.head?_drop, hr]; rfl
    have hpk : ord[k]? = some p := by rw [← List.head?_drop, hp]; rfl
    have er : entR k r = ((oth w (sl al) p).map fun c => ((k + 1, some c) : Ix)).map fun x => (x.1, x.2, vOf t0 rows x) := by
      unfold entR
      rw [sl_row h t hrk hpk, List.map_map]
      refine List.map_congr_left fun c _ => ?_
      show (k + 1, some c, r.2 c) = (k + 1, some c, (rows.getD k ([], fun _ => 0)).2 c)
      rw [List.getD, hrk]
      rfl
    have := ents_go h t xs ps (k + 1) (m ++ (oth w (sl al) p).map fun c => ((k + 1, some c) : Ix)) (by simpa using e) (by rw [← List.tail_drop, hr]; rfl) (by rw [← List.tail_drop, hp]; rfl)
    rw [List.map_append, ← er] at this
    exact this
theorem ents_ix (h : Win w al ord) (t : Tb w al ord t0 rows) : ents t0 rows = (ixs w al ord).map fun x => (x.1, x.2, vOf t0 rows x) :=
  ents_go h t rows ord 0 [(0, none)] (by rw [t.rl, h.ol]) rfl rfl
theorem eq_nil {st : Sto} {ds : List Dt} (hn : noRefs ds = true) : gEqB st (.lst ds) (.lst []) = some (.bl (decide (ds = [])), st) ∧ gNeB st (.lst ds) (.lst []) = some (.bl (!decide (ds = [])), st) := by
  have e : eqB st (.lst ds) (.lst []) = some (decide (ds = [])) := by
    unfold eqB
    rw [deref_no (d := .lst ds) (by rw [nrL]; exact hn), deref_no (d := .lst []) rfl]
    show (if alikeD (.lst ds) (.lst []) = true then (if noRef (.lst ds) = true ∧ noRef (.lst []) = true then eqQ 8 (.lst ds) (.lst []) else none) else eqD st (.lst ds) (.lst [])) = _
    rw [if_pos (show alikeD (.lst ds) (.lst []) = true from rfl), if_pos ⟨by rw [nrL]; exact hn, rfl⟩]
    show (if ds.length = ([] : List Dt).length then allO (List.zipWith (eqQ 7) ds []) else some false) = _
    cases ds with
    | nil => rfl
    | cons d ds => rw [if_neg (by simp)]; simp
  unfold gEqB gNeB
  rw [e]
  exact ⟨rfl, rfl⟩
/-- the entries that are too great -/
theorem ixs_go : ∀ (xs : List (Nat × Nat)) (l : List Ix), (xs.foldl (fun l x => l ++ (oth w (sl al) x.1).map fun c => ((x.2 + 1, some c) : Ix)) l).length ≤ l.length + xs.length * al.length
  | [], l => by simp
  | x :: xs, l => by
    rw [List.foldl_cons, List.length_cons, Nat.succ_mul]
    have := ixs_go xs (l ++ (oth w (sl al) x.1).map fun c => ((x.2 + 1, some c) : Ix))
    rw [List.length_append, List.length_map] at this
    have h2 : (oth w (sl al) x.1).length ≤ al.length := by
      have := List.length_filter_le (fun c => !decide (c = wAt w x.1)) (sl al)
      rw [(sl_perm al).length_eq] at this
      exact this
    omega
theorem ixs_len (h : Win w al ord) : (ixs w al ord).length ≤ 7001 := by
  have := ixs_go (w := w) (al := al) ord.zipIdx [((0, none) : Ix)]
  rw [List.length_zipIdx, h.ol] at this
  have n7 := h.n7
  have a5 := h.a5
  have : w.length * al.length ≤ 7 * 1000 := Nat.mul_le_mul n7 a5
  unfold ixs
  simp at *
  omega
/-- whether no skip is too great -/
theorem vOf_st (h : Win w al ord) {x : Ix} (hx : okIx w al ord x) : vOf (st0 w ord) (srw w al ord) x = lsk w (sOf w ord x) := vOf_safe (al := al) h.ol hx
end
end K81

set_option Elab.async false
set_option linter.all false
set_option maxRecDepth 100000
set_option maxHeartbeats 1000000
namespace K81
open PySem PySem.Spec PyProof.Rows L2 HB
theorem deref_lst {st : Sto} {k : Nat} {ds es : List Dt} (h : derefs st k ds = some es) : deref st (k + 1) (.lst ds) = some (.lst es) := by
  by_cases hn : noRef (.lst ds) = true
  · rw [deref_no hn]
    rw [nrL] at hn
    rw [derefs_no hn] at h
    cases h
    rfl
  · unfold deref
    rw [if_neg hn]
    show (derefs st k ds).map _ = _
    rw [h]
    rfl
theorem deref_at {st : Sto} {k i : Nat} {c d : Dt} (hi : st[i]? = some (some c)) (h : deref st k c = some d) : deref st (k + 1) (.ref i) = some d := by
  unfold deref
  rw [if_neg (by unfold noRef; simp)]
  dsimp only
  rw [hi]
  exact h
theorem derefs_cons {st : Sto} {m : Nat} {d e : Dt} {ds es : List Dt} (h : deref st m d = some e) (ht : derefs st m ds = some es) : derefs st (m + 1) (d :: ds) = some (e :: es) := by
  show ((deref st m d).bind fun e => (derefs st m ds).map fun es => e :: es) = _
  rw [h, Option.bind_some, ht]
  rfl
/-- the rows stand from a on -/
def At (st : Sto) (rows : List Row) (a : Nat) : Prop := ∀ i r, rows[i]? = some r → st[a + i]? = some (some (rowD r))
theorem rfs_cons (a k : Nat) : rfs a (k + 1) = .ref a :: rfs (a + 1) k := by unfold rfs; rw [List.range'_succ]; rfl
theorem At.tail {st : Sto} {r : Row} {rows : List Row} {a : Nat} (h : At st (r :: rows) a) : At st rows (a + 1) := fun i q hq => by
  have := h (i + 1) q (by simpa using hq)
  rw [show a + 1 + i = a + (i + 1) by omega]
  exact this
theorem derefs_rfs {st : Sto} : ∀ (rows : List Row) (a m : Nat), At st rows a → rows.length + 3 ≤ m → derefs st m (rfs a rows.length) = some (rows.map rowD)
  | [], a, m, _, hm => by
    obtain ⟨k, rfl⟩ : ∃ k, m = k + 1 := ⟨m - 1, by omega⟩
    rfl
  | r :: rows, a, m, h, hm => by
    rw [List.length_cons] at hm
    obtain ⟨k, rfl⟩ : ∃ k, m = k + 2 := ⟨m - 2, by omega⟩
    rw [List.length_cons, rfs_cons, List.map_cons]
    exact derefs_cons (deref_at (by simpa using h 0 r (by simp)) (deref_no nr_rowD)) (derefs_rfs rows (a + 1) (k + 1) h.tail (by omega))
theorem deref_tab {st : Sto} {t0 a k i : Nat} {rows : List Row} (hA : At st rows a) (hi : st[i]? = some (some (.lst (.int t0 :: rfs a rows.length)))) (hk : rows.length + 6 ≤ k) : deref st k (.ref i) = some (tabD t0 rows) := by
  obtain ⟨k', rfl⟩ : ∃ k', k = k' + 3 := ⟨k - 3, by omega⟩
  exact deref_at hi (deref_lst (derefs_cons (deref_no rfl) (derefs_rfs rows a k' hA (by omega))))
section
variable {w al ord : List Nat}
theorem aft_At (st : Sto) : At (aft w al ord st) (srw w al ord) (st.length + 2) := fun i r hr => aft_at st i r hr
theorem deref_aft (h : Win w al ord) (st : Sto) {k : Nat} (hk : 20 ≤ k) : deref (aft w al ord st) k (.ref (st.length + 2 + ord.length)) = some (tabD (st0 w ord) (srw w al ord)) := by
  have hl := srw_len w al ord
  have := h.ol
  have := h.n7
  refine deref_tab (aft_At st) ?_ (by omega)
  rw [hl]
  exact aft_last st
theorem run_safe_inW (h : Win w al ord) : fW F_safe_in [.str (tx w), OD ord, .str (tx al)] = some (tabD (st0 w ord) (srw w al ord)) := fW_of (run_safe_raw h []) (deref_aft h [] (by omega))
theorem run_skips (h : Win w al ord) (st : Sto) : F_safe_skips [.str (tx w), OD ord, .str (tx al)] st = some (.ref (st.length + 2 + ord.length), aft w al ord st) := by
  refine b_rtS ?_
  refine s_seq (s_ex (v_N (v_cons (v_var rfl) (v_cons (v_var rfl) (v_one (v_var rfl)))) (v_gF rfl (v_V (by simp) (run_check_window h))))) ?_
  exact s_ret (v_N (v_cons (v_var rfl) (v_cons (v_var rfl) (v_one (v_var rfl)))) (v_gF rfl (run_safe_raw h st)))
theorem run_skipsW (h : Win w al ord) : fW F_safe_skips [.str (tx w), OD ord, .str (tx al)] = some (tabD (st0 w ord) (srw w al ord)) := fW_of (run_skips h []) (deref_aft h [] (by omega))
end
/-! products -/
def prd : List Nat → Nat
  | [] => 1
  | x :: l => x * prd l
theorem prd_app : ∀ a b : List Nat, prd (a ++ b) = prd a * prd b
  | [], b => by simp [prd]
  | x :: a, b => by simp [prd, prd_app a b, Nat.mul_assoc]
theorem prd_perm {a b : List Nat} (h : a.Perm b) : prd a = prd b := by
  induction h with
  | nil => rfl
  | cons x _ ih => simp [prd, ih]
  | swap x y l => simp [prd, Nat.mul_left_comm]
  | trans _ _ i1 i2 => exact i1.trans i2
theorem prd_le : ∀ l : List Nat, (∀ x ∈ l, x ≤ 7) → prd l ≤ 7 ^ l.length
  | [], _ => by simp [prd]
  | x :: l, h => by
    have h1 := h x (by simp)
    have h2 := prd_le l fun y hy => h y (by simp [hy])
    rw [List.length_cons, Nat.pow_succ, Nat.mul_comm]
    show x * prd l ≤ 7 * 7 ^ l.length
    exact Nat.mul_le_mul h1 h2
def prdL : List Row → Nat
  | [] => 1
  | r :: rs => prd (r.1.map r.2) * prdL rs
def vals (rows : List Row) : List Nat := rows.flatMap fun r => r.1.map r.2
theorem prdL_vals : ∀ rows : List Row, prdL rows = prd (vals rows)
  | [] => rfl
  | r :: rs => by
    show prd (r.1.map r.2) * prdL rs = prd (r.1.map r.2 ++ vals rs)
    rw [prd_app, prdL_vals rs]
theorem prd_ents : ∀ (xs : List Row) (k : Nat) (l : List Ent), prd (((xs.zipIdx k).foldl (fun l x => l ++ entR x.2 x.1) l).map (·.2.2)) = prd (l.map (·.2.2)) * prdL xs
  | [], k, l => by simp [prdL]
  | r :: xs, k, l => by
    rw [List.zipIdx_cons, List.foldl_cons, prd_ents xs (k + 1), List.map_append, prd_app]
    have : prd ((entR k r).map (·.2.2)) = prd (r.1.map r.2) := by
      unfold entR
      rw [List.map_map]
      exact prd_perm ((sl_perm r.1).map r.2)
    show prd _ * prd ((entR k r).map (·.2.2)) * prdL xs = prd _ * (prd (r.1.map r.2) * prdL xs)
    rw [this, Nat.mul_assoc]
theorem ents_prd (t0 : Nat) (rows : List Row) : prd ((ents t0 rows).map (·.2.2)) = t0 * prdL rows := by
  have := prd_ents rows 0 [(0, none, t0)]
  unfold ents
  rw [this]
  simp [prd]
section
variable {w al ord : List Nat} {t0 : Nat} {rows : List Row}
theorem row_bd (t : Tb w al ord t0 rows) {r : Row} (hr : r ∈ rows) {c : Nat} (hc : c ∈ r.1) : 1 ≤ r.2 c ∧ r.2 c ≤ w.length := by
  obtain ⟨i, hi, e⟩ := List.mem_iff_getElem.mp hr
  exact t.v1 i r (by rw [List.getElem?_eq_getElem hi, e]) c hc
theorem ents_bd (h : Win w al ord) (t : Tb w al ord t0 rows) : ∀ e ∈ ents t0 rows, e.2.2 ≤ 7 := fun e he => by
  have n7 := h.n7
  unfold ents at he
  rcases (mem_fold (fun x : Row × Nat => entR x.2 x.1) e _ _).mp he with z | ⟨⟨r, i⟩, hx, hm⟩
  · simp at z; subst z; have := t.t2; show t0 ≤ 7; omega
  · have hr := List.mem_of_getElem? (List.mem_zipIdx_iff_getElem?.mp hx)
    unfold entR at hm
    obtain ⟨c, hc, rfl⟩ := List.mem_map.mp hm
    have := row_bd t hr ((sl_perm r.1).mem_iff.mp hc)
    show r.2 c ≤ 7
    dsimp only at this
    omega
theorem cmul_small {i : Int} {n : Nat} (h : n ≤ 7) : cMul i (n : Int) = true := by
  unfold cMul
  rw [decide_eq_true_eq]
  right
  have : (2 : Int) ^ 64 = 18446744073709551616 := by decide
  omega
theorem run_count (h : Win w al ord) : fV F_count_right_skips [.str (tx w), OD ord, .str (tx al)] = some (.int (st0 w ord * prdL (srw w al ord) : Nat)) := by
  have hz := line_ge
  have t := tb_safe h
  have key : ∀ (es : List Ent) (N : Nat) (a b c : Option Dt), (∀ e ∈ es, e.2.2 ≤ 7) → ∃ a' b' c', sForGo (HB.kTup (ksCons (kName 4) (ksCons (kName 5) (ksCons (kName 6) ksNil)))) b1_count_right_skips (es.map entD) [some (.str (tx w)), some (OD ord), some (.str (tx al)), some (.int N), a, b, c] [] = some (.nx [some (.str (tx w)), some (OD ord), some (.str (tx al)), some (.int (N * prd (es.map (·.2.2)) : Nat)), a', b', c'] []) := by
    intro es
    induction es with
    | nil => intro N a b c _; exact ⟨a, b, c, by simp [prd]; rfl⟩
    | cons e es ih =>
      intro N a b c hb
      obtain ⟨a', b', c', k1⟩ := ih (N * e.2.2) (some (.int e.1)) (some (oD e.2.1)) (some (.int e.2.2)) (fun x hx => hb x (by simp [hx]))
      refine ⟨a', b', c', ?_⟩
      rw [List.map_cons, List.map_cons]
      have en : N * prd (e.2.2 :: es.map (·.2.2)) = N * e.2.2 * prd (es.map (·.2.2)) := by show N * (e.2.2 * _) = _; rw [Nat.mul_assoc]
      rw [en]
      refine for_cons (r1 := [some (.str (tx w)), some (OD ord), some (.str (tx al)), some (.int N), some (.int e.1), some (oD e.2.1), some (.int e.2.2)]) rfl ?_ k1
      refine s_aug (i := 3) (d := .int N) (y := .int e.2.2) (st1 := []) rfl (v_var rfl) ?_
      show (if cMul (N : Int) (e.2.2 : Int) = true then some (Dt.int ((N : Int) * (e.2.2 : Int)), ([] : Sto)) else none) = _
      rw [if_pos (cmul_small (hb e (by simp)))]
      rw [Int.natCast_mul]
  obtain ⟨a', b', c', k1⟩ := key (ents (st0 w ord) (srw w al ord)) 1 none none none (ents_bd h t)
  rw [ents_prd, Nat.one_mul] at k1
  have hen := run_entries (t0 := st0 w ord) (rows := srw w al ord) (by rw [srw_len, h.ol]; exact h.n7) (rows_len h t)
  have e : g_count_right_skips (startD 7 [.str (tx w), OD ord, .str (tx al)]) [] = some (.rt (.int (st0 w ord * prdL (srw w al ord) : Nat)) []) := by
    refine s_seq (s_ex (v_N (v_cons (v_var rfl) (v_cons (v_var rfl) (v_one (v_var rfl)))) (v_gF rfl (v_V (by simp) (run_check_window h))))) ?_
    refine s_seq (r1 := [some (.str (tx w)), some (OD ord), some (.str (tx al)), some (.int (1 : Nat)), none, none, none]) (st1 := []) (s_set rfl) ?_
    refine s_seq (s_for (v_iE (d := .lst ((ents (st0 w ord) (srw w al ord)).map entD)) (v_N (v_one (v_N (v_cons (v_var rfl) (v_cons (v_var rfl) (v_one (v_var rfl)))) (v_gF rfl (v_V (by simp) (run_safe_inW h))))) (v_gF rfl (v_V (by simp) hen))) rfl) k1) ?_
    exact s_ret (v_var rfl)
  exact fV_of (b_rt e) (deref_no rfl)
theorem vals_len (h : Win w al ord) (ha : al.length ≤ 5) {al' : List Nat} (hp : al'.Perm al) (seen : List (Nat × Nat)) : ∀ ps : List Nat, ∀ seen, (vals (srows w al' seen ps)).length ≤ ps.length * 5
  | [], _ => by simp [vals, srows]
  | p :: ps, seen => by
    have ih := vals_len h ha hp seen ps (seen ++ [(p, wAt w p)])
    have : (oth w al' p).length ≤ 5 := by
      have := List.length_filter_le (fun c => !decide (c = wAt w p)) al'
      rw [hp.length_eq] at this
      unfold oth; omega
    show ((oth w al' p).map _ ++ vals (srows w al' (seen ++ [(p, wAt w p)]) ps)).length ≤ _
    rw [List.length_append, List.length_map, List.length_cons]
    omega
theorem num_lt (h : Win w al ord) (ha : al.length ≤ 5) : st0 w ord * prdL (srw w al ord) < 10 ^ 40 := by
  have n7 := h.n7
  have t := tb_safe h
  rw [prdL_vals]
  have hl := vals_len h ha (sl_perm al) [] ord []
  have hle : prd (vals (srw w al ord)) ≤ 7 ^ (vals (srw w al ord)).length := prd_le _ fun x hx => by
    unfold vals at hx
    obtain ⟨r, hr, hc⟩ := List.mem_flatMap.mp hx
    obtain ⟨c, hc2, rfl⟩ := List.mem_map.mp hc
    have := row_bd t hr hc2
    omega
  have hlen : (vals (srw w al ord)).length ≤ 35 := by
    have := h.ol
    unfold srw
    omega
  have h2 : prd (vals (srw w al ord)) ≤ 7 ^ 35 := Nat.le_trans hle (Nat.pow_le_pow_right (by omega) hlen)
  have h0 : st0 w ord ≤ 7 := Nat.le_trans t.t2 n7
  exact Nat.lt_of_le_of_lt (Nat.mul_le_mul h0 h2) (by decide +kernel)
theorem rb_big {n : Nat} (h : n < 10 ^ 40) : RB 0 1000 (.int n) := by
  refine ⟨rfl, ?_, Nat.le_refl 0, ?_⟩
  · show decide (((n : Int)).natAbs.log2 < 1920) = true
    rw [decide_eq_true_eq]
    have e : ((n : Int)).natAbs = n := by omega
    rw [e]
    by_cases h0 : n = 0
    · subst h0; decide
    · exact (Nat.log2_lt h0).mpr (Nat.lt_trans h (by decide +kernel))
  · show (Str.ofString (toString (n : Int))).length ≤ 1000
    exact Nat.le_trans (toString_length_le (k := 40) (by omega) (by omega) (by omega)) (by omega)
/-! tables in another order -/
theorem lsk_perm {ps qs : List (Nat × Nat)} (h : ps.Perm qs) : lsk w ps = lsk w qs := by
  unfold lsk
  have : ∀ i, ps.all (fitB w (1 + i)) = qs.all (fitB w (1 + i)) := fun i => by
    rw [Bool.eq_iff_iff, List.all_eq_true, List.all_eq_true]
    exact ⟨fun z x hx => z x (h.mem_iff.mpr hx), fun z x hx => z x (h.mem_iff.mp hx)⟩
  simp only [this]
theorem prdL_perm {al' : List Nat} (h : al'.Perm al) : ∀ (ps : List Nat) (seen : List (Nat × Nat)), prdL (srows w al' seen ps) = prdL (srows w al seen ps)
  | [], _ => rfl
  | p :: ps, seen => by
    show prd ((oth w al' p).map _) * prdL (srows w al' (seen ++ [(p, wAt w p)]) ps) = prd ((oth w al p).map _) * prdL (srows w al (seen ++ [(p, wAt w p)]) ps)
    rw [prdL_perm h ps]
    exact congrArg (· * _) (prd_perm ((h.filter _).map _))
theorem row_eq (m : Nat) {l1 l2 : List Nat} {f g : Nat → Nat} (hp : l1.Perm l2) (nd : l1.Nodup) (hf : ∀ c ∈ l1, f c = g c) : eqQ (m + 2) (rowD (l1, f)) (rowD (l2, g)) = some true := by
  have ndk : (l1.map fun c => (Sum.inr (sg c) : Key)).Nodup := List.Pairwise.map _ (fun a b hab z => hab (sg_inj.mp (by injection z))) nd
  have hl := hp.length_eq
  unfold rowD
  show (if (l1.map fun c => (Sum.inr (sg c) : Key)).Nodup ∧ (l1.map fun c => (Sum.inr (sg c) : Key)).length = (l1.map fun c => Dt.int (f c : Nat)).length ∧ (l2.map fun c => (Sum.inr (sg c) : Key)).length = (l2.map fun c => Dt.int (g c : Nat)).length then
    (if (l1.map fun c => (Sum.inr (sg c) : Key)).length = (l2.map fun c => (Sum.inr (sg c) : Key)).length then allO (((l1.map fun c => (Sum.inr (sg c) : Key)).zip (l1.map fun c => Dt.int (f c : Nat))).map fun q => match pGet q.1 (l2.map fun c => (Sum.inr (sg c) : Key)) (l2.map fun c => Dt.int (g c : Nat)) with
        | none => some false
        | some y => eqQ (m + 1) q.2 y) else some false) else none) = some true
  rw [if_pos ⟨ndk, by simp, by simp⟩, if_pos (by simp [hl]), List.zip_map', List.map_map]
  have : ∀ c ∈ l1, ((fun q : Key × Dt => match pGet q.1 (l2.map fun c => (Sum.inr (sg c) : Key)) (l2.map fun c => Dt.int (g c : Nat)) with
        | none => some false
        | some y => eqQ (m + 1) q.2 y) ∘ fun c => ((Sum.inr (sg c) : Key), Dt.int (f c : Nat))) c = some true := fun c hc => by
    show (match pGet (Sum.inr (sg c)) (l2.map fun c => (Sum.inr (sg c) : Key)) (l2.map fun c => Dt.int (g c : Nat)) with
        | none => some false
        | some y => eqQ (m + 1) (Dt.int (f c : Nat)) y) = some true
    rw [pGet_sg, if_pos (hp.mem_iff.mp hc), hf c hc]
    exact okQ_I
  rw [List.map_congr_left this]
  have e : (l1.map fun _ => some true) = (l1.map fun _ => true).map some := by rw [List.map_map]; rfl
  rw [e, allO_map]
  congr 1
  rw [List.all_map, List.all_eq_true]
  intro _ _; rfl
theorem rows_eq (n : Nat) {al1 al2 : List Nat} (ha : al1.Perm al2) (nd : al1.Nodup) : ∀ (ps : List Nat) (s1 s2 : List (Nat × Nat)), s1.Perm s2 → eqQ (n + 3) (.lst ((srows w al1 s1 ps).map rowD)) (.lst ((srows w al2 s2 ps).map rowD)) = some true
  | [], _, _, _ => rfl
  | p :: ps, s1, s2, hs => eqQ_cons (row_eq n (ha.filter _) (nodup_filter _ nd) fun c _ => lsk_perm (hs.append_right [(p, c)])) (rows_eq n ha nd ps _ _ (hs.append_right [(p, wAt w p)]))
theorem tab_eq (h : Win w al ord) (n : Nat) : eqQ (n + 4) (tabD (st0 w ord) (srw w al ord)) (tabD (lsk w (sn w ord)) (lrw w al ord)) = some true :=
  eqQ_cons okQ_I (rows_eq (n + 1) (sl_perm al) ((sl_perm al).nodup_iff.mpr h.na) ord [] [] (.refl _))
theorem srows_drop {al' : List Nat} : ∀ (k : Nat) (ps : List Nat) (seen : List (Nat × Nat)), (srows w al' seen ps).drop k = srows w al' (seen ++ sn w (ps.take k)) (ps.drop k)
  | 0, ps, seen => by simp [sn]
  | k + 1, [], seen => by simp [srows]
  | k + 1, p :: ps, seen => by
    rw [List.drop_succ_cons, List.take_succ_cons]
    show (srows w al' (seen ++ [(p, wAt w p)]) ps).drop k = _
    rw [srows_drop k ps]
    congr 1
    simp [sn]
end
end K81

set_option Elab.async false
set_option linter.all false
set_option maxRecDepth 100000
set_option maxHeartbeats 1000000
namespace K81
open PySem PySem.Spec PyProof.Rows L2 HB
/-! all texts of n signs -/
def txs (al : List Nat) : Nat → List (List Nat)
  | 0 => [[]]
  | n + 1 => ((txs al n).map fun l => al.map fun c => l ++ [c]).flatten
theorem mem_txs {al : List Nat} : ∀ (n : Nat) (x : List Nat), x ∈ txs al n ↔ x.length = n ∧ ∀ c ∈ x, c ∈ al
  | 0, x => by
    constructor
    · intro h; simp [txs] at h; subst h; simp
    · intro h; have : x = [] := List.eq_nil_of_length_eq_zero h.1; subst this; simp [txs]
  | n + 1, x => by
    have step : x ∈ txs al (n + 1) ↔ ∃ l ∈ txs al n, ∃ c ∈ al, x = l ++ [c] := by
      show x ∈ ((txs al n).map fun l => al.map fun c => l ++ [c]).flatten ↔ _
      rw [List.mem_flatten]
      constructor
      · rintro ⟨m, hm, hx⟩
        obtain ⟨l, hl, rfl⟩ := List.mem_map.mp hm
        obtain ⟨c, hc, rfl⟩ := List.mem_map.mp hx
        exact ⟨l, hl, c, hc, rfl⟩
      · rintro ⟨l, hl, c, hc, rfl⟩
        exact ⟨_, List.mem_map.mpr ⟨l, hl, rfl⟩, List.mem_map.mpr ⟨c, hc, rfl⟩⟩
    rw [step]
    constructor
    · rintro ⟨l, hl, c, hc, rfl⟩
      obtain ⟨h1, h2⟩ := (mem_txs n l).mp hl
      refine ⟨by rw [List.length_append, h1]; rfl, fun d hd => ?_⟩
      rcases List.mem_append.mp hd with z | z
      · exact h2 d z
      · simp at z; rw [z]; exact hc
    · rintro ⟨h1, h2⟩
      have hne : x ≠ [] := by intro z; subst z; simp at h1
      have e := List.dropLast_concat_getLast hne
      refine ⟨x.dropLast, (mem_txs n _).mpr ⟨by rw [List.length_dropLast]; omega, fun c hc => h2 c (List.dropLast_subset _ hc)⟩, x.getLast hne, h2 _ (List.getLast_mem hne), e.symm⟩
theorem len_flat {α β : Type} (f : α → List β) (m : Nat) : ∀ l : List α, (∀ a ∈ l, (f a).length = m) → ((l.map f).flatten).length = l.length * m
  | [], _ => by simp
  | a :: l, h => by
    rw [List.map_cons, List.flatten_cons, List.length_append, len_flat f m l fun b hb => h b (by simp [hb]), h a (by simp), List.length_cons, Nat.succ_mul, Nat.add_comm]
theorem txs_len {al : List Nat} : ∀ n, (txs al n).length = al.length ^ n
  | 0 => rfl
  | n + 1 => by
    unfold txs
    rw [len_flat _ al.length _ (fun l _ => by rw [List.length_map]), txs_len n, Nat.pow_succ]
theorem txs_le {al : List Nat} (ha : al.length ≤ 5) {n : Nat} (hn : n ≤ 7) : (txs al n).length ≤ 100000 := by
  rw [txs_len]
  have h1 : al.length ^ n ≤ 5 ^ n := Nat.pow_le_pow_left ha n
  have h2 : 5 ^ n ≤ 5 ^ 7 := Nat.pow_le_pow_right (by omega) hn
  have h3 : 5 ^ 7 ≤ 100000 := by decide
  omega
def TL (ls : List (List Nat)) : Dt := .lst (ls.map fun l => .str (tx l))
theorem nrTLs {ls : List (List Nat)} : noRefs (ls.map fun l => Dt.str (tx l)) = true := noRefs_map fun _ _ => rfl
@[simp] theorem nrTL {ls : List (List Nat)} : noRef (TL ls) = true := by unfold TL; rw [nrL]; exact nrTLs
theorem lists_map {α : Type} (f : α → List Dt) : ∀ l : List α, lists (l.map fun a => .lst (f a)) = some (l.map f)
  | [] => rfl
  | a :: l => by
    rw [List.map_cons]
    show (lists (l.map fun a => .lst (f a))).map _ = _
    rw [lists_map f l]
    rfl
theorem sum_lists {α : Type} {st : Sto} (f : α → List Dt) (l : List α) (h : ((l.map f).flatten).length ≤ 1000000) : gSumL st [.lst (l.map fun a => .lst (f a)), .lst []] = some (.lst (l.map f).flatten, st) := by
  have hz := line_ge
  show ((lists (l.map fun a => .lst (f a))).bind fun r => if r.flatten.length ≤ sizeLine then some (Dt.lst r.flatten, st) else none) = _
  rw [lists_map, Option.bind_some, if_pos (by omega)]
section
variable {w al ord : List Nat}
theorem texts_step (ha : al.length ≤ 5) {n : Nat} (hn : n < 7) {m : Dt} {v3 : Option Dt} : b3__law_texts [some (.str (tx al)), some m, some (TL (txs al n)), v3, none, none] [] = some (.nx [some (.str (tx al)), some m, some (TL (txs al (n + 1))), v3, none, none] []) := by
  have hz := line_ge
  have inner : ∀ l ∈ txs al n, lcGo (kName 5) cYes e1__law_texts [some (.str (tx al)), some m, some (TL (txs al n)), v3, some (.str (tx l)), none] (al.map fun c => .str (sg c)) [] = some (al.map fun c => .str (tx (l ++ [c])), []) := fun l hl =>
    lcGo_map _ _ _ fun c hc => ⟨_, rfl, v_op (v_var rfl) (v_var (d := .str (tx [c])) rfl) (add_tx (by rw [((mem_txs n l).mp hl).1]; simp; omega))⟩
  have outer : lcGo (kName 4) cYes e2__law_texts [some (.str (tx al)), some m, some (TL (txs al n)), v3, none, none] ((txs al n).map fun l => .str (tx l)) [] = some ((txs al n).map fun l => .lst (al.map fun c => .str (tx (l ++ [c]))), []) :=
    lcGo_map _ _ _ fun l hl => ⟨[some (.str (tx al)), some m, some (TL (txs al n)), v3, some (.str (tx l)), none], rfl, v_toV (v_lc (own := [5]) (v_iE (v_var rfl) (by rw [zItS]; rfl)) (inner l hl) (by rw [List.length_map]; omega))⟩
  have ef : (((txs al n).map fun l => al.map fun c => Dt.str (tx (l ++ [c]))).flatten) = (txs al (n + 1)).map fun l => .str (tx l) := by
    show _ = (((txs al n).map fun l => al.map fun c => l ++ [c]).flatten).map _
    rw [List.map_flatten, List.map_map]
    congr 1
    refine List.map_congr_left fun l _ => ?_
    show _ = (al.map fun c => l ++ [c]).map _
    rw [List.map_map]
    rfl
  have hl := txs_le ha (show n + 1 ≤ 7 by omega)
  have hs := sum_lists (st := []) (fun l => al.map fun c => Dt.str (tx (l ++ [c]))) (txs al n) (by rw [ef, List.length_map]; omega)
  rw [ef] at hs
  have hl0 := txs_le ha (show n ≤ 7 by omega)
  exact s_set (v_N (v_cons (v_toV (v_lc (own := [4]) (v_iE (v_var rfl) rfl) outer (by rw [List.length_map]; omega))) (v_one (v_toV (v_smallN v_nil (by show 0 ≤ _; omega))))) hs)
theorem texts_loop (ha : al.length ≤ 5) {m : Dt} {D : Nat → Dt} : ∀ (is : List Nat) (n : Nat) (v3 : Option Dt), n + is.length ≤ 7 → ∃ v3', sForGo (kName 3) b3__law_texts (is.map D) [some (.str (tx al)), some m, some (TL (txs al n)), v3, none, none] [] = some (.nx [some (.str (tx al)), some m, some (TL (txs al (n + is.length))), v3', none, none] [])
  | [], n, v3, _ => ⟨v3, rfl⟩
  | i :: is, n, v3, h => by
    rw [List.length_cons] at h
    obtain ⟨v3', e⟩ := texts_loop ha is (n + 1) (some (D i)) (by omega)
    refine ⟨v3', ?_⟩
    rw [show n + (i :: is).length = n + 1 + is.length by rw [List.length_cons]; omega]
    exact for_cons (r1 := [some (.str (tx al)), some m, some (TL (txs al n)), some (D i), none, none]) rfl (texts_step ha (by omega)) e
theorem run_texts (ha : al.length ≤ 5) {n : Nat} (hn : n ≤ 7) : fV F__law_texts [.str (tx al), .int n] = some (TL (txs al n)) := by
  have hz := line_ge
  obtain ⟨v3, e1⟩ := texts_loop ha (m := .int n) (D := fun i : Nat => Dt.int (0 + (i : Nat))) (List.range n) 0 none (by rw [List.length_range]; omega)
  rw [List.length_range, Nat.zero_add] at e1
  have e : g__law_texts (startD 6 [.str (tx al), .int n]) [] = some (.rt (TL (txs al n)) []) := by
    refine s_seq (r1 := [some (.str (tx al)), some (.int n), some (TL (txs al 0)), none, none, none]) (st1 := []) (s_set (v_toV (v_smallN (v_one rfl) (by show 1 ≤ _; omega)))) ?_
    exact s_seq (s_for (v_rg (n := n) (v_one (v_var rfl)) (by omega)) e1) (s_ret (v_var rfl))
  exact fV_of (b_rt e) (deref_no nrTL)
/-! texts that show what was seen -/
def agB (ps : List (Nat × Nat)) (x : List Nat) : Bool := ps.all fun p => decide (x.getD (p.1 - 1) 0 = p.2)
def hitB (w : List Nat) (far : Nat) (x : List Nat) : Bool := decide (x.drop far = w.take (w.length - far))
theorem first_iff {ps : List (Nat × Nat)} (h : Win w al ord) (hs : Seen w ps) (nd : (ps.map (·.1)).Nodup) (hal : ∀ q ∈ ps, q.2 ∈ al) {far : Nat} (h1 : 1 ≤ far) (h2 : far ≤ w.length) : (((txs al w.length).filter (agB ps)).filter (hitB w far) ≠ []) ↔ ps.all (fitB w far) = true := by
  have n1 := h.n1
  constructor
  · intro hne
    obtain ⟨x, hx⟩ := List.exists_mem_of_ne_nil _ hne
    obtain ⟨hx1, hx2⟩ := List.mem_filter.mp hx
    obtain ⟨hx3, hx4⟩ := List.mem_filter.mp hx1
    obtain ⟨hl, _⟩ := (mem_txs _ _).mp hx3
    unfold hitB at hx2
    rw [decide_eq_true_eq] at hx2
    unfold agB at hx4
    rw [List.all_eq_true] at hx4 ⊢
    intro p hp
    have h4 := hx4 p hp
    rw [decide_eq_true_eq] at h4
    have hb := hs.ob p hp
    unfold fitB
    rw [Bool.or_eq_true, decide_eq_true_eq, decide_eq_true_eq]
    by_cases hle : p.1 ≤ far
    · exact .inl hle
    · right
      have e1 : (x.drop far).getD (p.1 - far - 1) 0 = x.getD (p.1 - 1) 0 := by
        simp only [List.getD]
        rw [List.getElem?_drop, show far + (p.1 - far - 1) = p.1 - 1 by omega]
      have e2 : (w.take (w.length - far)).getD (p.1 - far - 1) 0 = w.getD (p.1 - far - 1) 0 := by
        simp only [List.getD]
        rw [List.getElem?_take, if_pos (by omega)]
      rw [← e2, ← hx2, e1, h4]
  · intro hfit
    let x := (tfor w ps far).take w.length
    have hlen : (tfor w ps far).length = far + w.length := tfor_len
    refine List.ne_nil_of_mem (a := x) (List.mem_filter.mpr ⟨List.mem_filter.mpr ⟨(mem_txs _ _).mpr ⟨?_, fun c hc => tfor_al h.sub hal n1 c (List.mem_of_mem_take hc)⟩, ?_⟩, ?_⟩)
    · show ((tfor w ps far).take w.length).length = _
      rw [List.length_take, hlen]; omega
    · unfold agB
      rw [List.all_eq_true]
      intro p hp
      have hb := hs.ob p hp
      have := tfor_at nd hfit hp hb.1 hb.2
      rw [decide_eq_true_eq]
      unfold tAt at this
      rw [Nat.zero_add] at this
      rw [← this]
      show ((tfor w ps far).take w.length).getD (p.1 - 1) 0 = _
      simp only [List.getD]
      rw [List.getElem?_take, if_pos (by omega)]
    · unfold hitB
      rw [decide_eq_true_eq]
      show ((tfor w ps far).take w.length).drop far = _
      rw [List.drop_take]
      congr 1
      unfold tfor
      rw [List.drop_append_of_le_length (by simp)]
      simp
theorem zEqTL0 {st : Sto} {ls : List (List Nat)} : gEqB st (TL ls) (.lst []) = some (.bl (decide (ls = [])), st) ∧ gNeB st (TL ls) (.lst []) = some (.bl (!decide (ls = [])), st) := by
  have := eq_nil (st := st) (ds := ls.map fun l => Dt.str (tx l)) nrTLs
  simpa [TL] using this
abbrev eF (w al : List Nat) (ps : List (Nat × Nat)) (v4 v5 : Option Dt) : Evr := [some (.str (tx w)), some (.str (tx al)), some (sD ps), some (.ref 0), v4, v5, none]
theorem first_l1 (h : Win w al ord) {ps : List (Nat × Nat)} (hs : Seen w ps) (nd : (ps.map (·.1)).Nodup) : ∀ (ls done : List (List Nat)) (v4 : Option Dt), (∀ x ∈ ls, x.length = w.length) → done.length + ls.length ≤ 200000 → ∃ v4', sForGo (kName 4) b2__law_first (ls.map fun l => .str (tx l)) (eF w al ps v4 none) [some (TL done)] = some (.nx (eF w al ps v4' none) [some (TL (done ++ ls.filter (agB ps)))])
  | [], done, v4, _, _ => ⟨v4, by simp; rfl⟩
  | x :: ls, done, v4, hx, hl => by
    have hz := line_ge
    have n7 := h.n7
    rw [List.length_cons] at hl
    have hxl := hx x (by simp)
    let bad := (ps.filter fun p => !decide (x.getD (p.1 - 1) 0 = p.2)).map (·.1)
    have hbl : bad.length ≤ 1000 := by
      simp only [bad]
      rw [List.length_map]
      have := List.length_filter_le (fun p : Nat × Nat => !decide (x.getD (p.1 - 1) 0 = p.2)) ps
      have := hs.z
      omega
    have hlc : lcGo (kName 6) c1__law_first e1__law_first (eF w al ps (some (.str (tx x))) none) (ps.map fun p => Dt.int p.1) [some (TL done)] = some (bad.map fun p : Nat => .int p, [some (TL done)]) := by
      have e := lcGo_pure (r := eF w al ps (some (.str (tx x))) none) (st := [some (TL done)]) (kt := kName 6) (c := c1__law_first) (f := e1__law_first) (fun p : Nat × Nat => Dt.int p.1) (fun p => !decide (x.getD (p.1 - 1) 0 = p.2)) (fun p : Nat × Nat => Dt.int p.1) ps fun p hp => ?_
      · rw [e]
        simp only [bad]
        rw [List.map_map]
        rfl
      · have hb := hs.ob p hp
        have hc := pGet_sDn nd hp
        refine ⟨_, rfl, ?_, fun _ => v_var rfl⟩
        refine t_B (v_op (v_op (v_var rfl) (v_op (v_var rfl) rfl zMin) (ixT (p.1 - 1) (by omega) (by omega) (by omega))) (v_op (v_var rfl) (v_var rfl) (zIxD (k := Sum.inl (p.1 : Int)) rfl hc)) ?_)
        rw [zNeS]
        simp only [sg_inj]
    have hbd : decide (bad = []) = agB ps x := by
      rw [Bool.eq_iff_iff, decide_eq_true_eq]
      unfold agB
      rw [List.all_eq_true]
      simp only [bad]
      rw [List.map_eq_nil_iff, List.filter_eq_nil_iff]
      simp
    have c0 : cB (eOp2 gEqB (toV (lc (iE itK (eVar 2)) [6] (kName 6) c1__law_first e1__law_first)) (toV (small aNil))) (eF w al ps (some (.str (tx x))) none) [some (TL done)] = some (agB ps x, [some (TL done)]) := by
      rw [← hbd]
      exact t_B (v_op (v_toV (v_lc (v_iE (v_var rfl) (show itK [some (TL done)] (sD ps) = some (ps.map fun p => Dt.int p.1) by unfold sD; rw [zItK, List.map_map]; rfl)) hlc (by rw [List.length_map]; omega))) (v_toV (v_smallN v_nil (by show 0 ≤ _; omega))) zEqLI0)
    cases hag : agB ps x with
    | true =>
      rw [hag] at c0
      obtain ⟨v4', e⟩ := first_l1 h hs nd ls (done ++ [x]) (some (.str (tx x))) (fun y hy => hx y (by simp [hy])) (by rw [List.length_append]; simp; omega)
      refine ⟨v4', ?_⟩
      rw [List.filter_cons_of_pos hag]
      rw [List.append_assoc] at e
      rw [List.map_cons]
      refine for_cons (r1 := eF w al ps (some (.str (tx x))) none) rfl (s_ifT c0 ?_) e
      have a := s_ex (v_app (r := eF w al ps (some (.str (tx x))) none) (fo := eVar 3) (fs := aCons (eVar 4) aNil) (st := [some (TL done)]) (k := 0) (ds := done.map fun l => .str (tx l)) (v_var rfl) rfl (v_one (v_var rfl)) rfl (by rw [List.length_map]; omega))
      rw [a]
      show some (Ou.nx _ [some (Dt.lst ((done.map fun l => Dt.str (tx l)) ++ [.str (tx x)]))]) = _
      unfold TL
      rw [List.map_append]
      rfl
    | false =>
      rw [hag] at c0
      obtain ⟨v4', e⟩ := first_l1 h hs nd ls done (some (.str (tx x))) (fun y hy => hx y (by simp [hy])) (by omega)
      refine ⟨v4', ?_⟩
      rw [List.filter_cons_of_neg (by simp [hag]), List.map_cons]
      exact for_cons (r1 := eF w al ps (some (.str (tx x))) none) rfl (s_ifF c0 rfl) e
theorem eqTx {st : Sto} {a b : List Nat} {q : Bool} (h : decide (a = b) = q) : gEqB st (.str (tx a)) (.str (tx b)) = some (.bl q, st) := by
  rw [zEqS, ← h]
  congr 3
  simp only [decide_eq_decide]
  exact ⟨fun z => by have := congrArg (fun s : Str => s.cps.toList) z; simpa [tx] using this, fun z => by rw [z]⟩
theorem v_lcL {fi : SE} {own : List Nat} {kt : SG} {c : ST} {f : SE} {n j : Nat} {r : Evr} {st st1 st2 : Sto} {zs : List Dt} (hi : fi r st = some (.ref j, st1)) (hg : lcNx j kt c f (wipeD r own) n 0 st1 = some (zs, st2)) (hl : zs.length ≤ sizeLine) : lcL fi own kt c f n r st = some (zs, st2) := by
  unfold lcL
  rw [hi, Option.bind_some]
  dsimp only
  rw [hg, Option.bind_some, if_pos hl]
theorem lcNx_pure {α : Type} {kt : SG} {c : ST} {f : SE} {r : Evr} {st : Sto} {j : Nat} (D : α → Dt) (p : α → Bool) (q : α → Dt) (xs : List α) (hj : st[j]? = some (some (.lst (xs.map D)))) (h : ∀ w ∈ xs, ∃ r1, kt (D w) r = some r1 ∧ c r1 st = some (p w, st) ∧ (p w = true → f r1 st = some (q w, st))) : ∀ n i : Nat, 1 ≤ n → xs.length < i + n → lcNx j kt c f r n i st = some (((xs.drop i).filter p).map q, st)
  | 0, i, h0, hn => by omega
  | n + 1, i, h0, hn => by
    unfold lcNx
    rw [hj]
    dsimp only
    rw [List.getElem?_map]
    by_cases hi : i < xs.length
    · rw [List.getElem?_eq_getElem hi, List.drop_eq_getElem_cons hi]
      obtain ⟨r1, h1, h2, h3⟩ := h xs[i] (List.getElem_mem hi)
      have ih := lcNx_pure D p q xs hj h n (i + 1) (by omega) (by omega)
      show ((kt (D xs[i]) r).bind fun r1 => (c r1 st).bind fun b => if b.1 = true then (f r1 b.2).bind fun y => (lcNx j kt c f r n (i + 1) y.2).bind fun z => some (y.1 :: z.1, z.2) else lcNx j kt c f r n (i + 1) b.2) = _
      rw [h1, Option.bind_some, h2, Option.bind_some]
      cases hp : p xs[i] with
      | true =>
        rw [List.filter_cons_of_pos hp]
        dsimp only
        rw [if_pos rfl, h3 hp, Option.bind_some, ih, Option.bind_some]
        rfl
      | false =>
        rw [List.filter_cons_of_neg (by simp [hp])]
        dsimp only
        rw [if_neg (by simp)]
        exact ih
    · rw [List.getElem?_eq_none (by omega), List.drop_of_length_le (by omega)]
      rfl
theorem run_first (h : Win w al ord) (ha : al.length ≤ 5) (h4 : w.length ≤ 4) {ps : List (Nat × Nat)} (hs : Seen w ps) (nd : (ps.map (·.1)).Nodup) (hal : ∀ q ∈ ps, q.2 ∈ al) : fV F__law_first [.str (tx w), .str (tx al), sD ps] = some (.int (lsk w ps)) := by
  have hz := line_ge
  have n7 := h.n7
  have n1 := h.n1
  have tl : (txs al w.length).length ≤ 625 := by
    rw [txs_len]
    have h1 : al.length ^ w.length ≤ 5 ^ w.length := Nat.pow_le_pow_left ha _
    have h2 : 5 ^ w.length ≤ 5 ^ 4 := Nat.pow_le_pow_right (by omega) h4
    have h3 : 5 ^ 4 = 625 := by decide
    omega
  let B := (txs al w.length).filter (agB ps)
  have hB : ∀ x ∈ B, x.length = w.length := fun x hx => ((mem_txs _ _).mp (List.mem_filter.mp hx).1).1
  have hBl : B.length ≤ 625 := Nat.le_trans (List.length_filter_le _ _) tl
  obtain ⟨v4, k1⟩ := first_l1 (al := al) h hs nd (txs al w.length) [] none (fun x hx => ((mem_txs _ _).mp hx).1) (by simp; omega)
  rw [List.nil_append] at k1
  obtain ⟨v', hf⟩ := for_find (kt := kName 5) (g := b4__law_first) (st := [some (TL B)]) (fun i : Nat => Dt.int (1 + (i : Nat))) (fun i => ps.all (fitB w (1 + i))) (fun i => .int (1 + (i : Nat))) (fun v => eF w al ps v4 v) (List.range w.length) none fun i hi v => by
    have hi' := List.mem_range.mp hi
    refine ⟨_, rfl, ?_⟩
    have hlc : lcNx 0 (kName 4) c3__law_first e3__law_first (wipeD (eF w al ps v4 (some (.int (1 + (i : Nat))))) [4]) 1000 0 [some (TL B)] = some ((B.filter (hitB w (1 + i))).map fun l => .str (tx l), [some (TL B)]) :=
      lcNx_pure (fun l => .str (tx l)) (hitB w (1 + i)) (fun l => .str (tx l)) B rfl (fun x hx => ⟨eF w al ps (some (.str (tx x))) (some (.int (1 + (i : Nat)))), rfl, by
        have hxl := hB x hx
        refine t_B (v_op (x := .str (tx (x.drop (1 + i)))) (st1 := [some (TL B)]) (v_sl (v_var rfl) (v_oE (i := ((1 + i : Nat) : Int)) (by rw [Int.natCast_add]; exact v_var rfl)) rfl ?_) (v_sl (d := .str (tx (w.take (w.length - (1 + i))))) (v_var rfl) rfl (v_oE (i := ((w.length - (1 + i) : Nat) : Int)) (v_op (v_N (v_one (v_var rfl)) (zLenT h.wz)) (v_var rfl) ?_)) ?_) (eqTx rfl))
        · rw [zSlT (by omega), cutL_from]
        · rw [zMin]; congr 3; omega
        · rw [zSlT h.wz, cutL_to], fun _ => v_var rfl⟩) 1000 0 (by omega) (by omega)
    have hbl : (B.filter (hitB w (1 + i))).length ≤ 625 := Nat.le_trans (List.length_filter_le _ _) hBl
    have c0 : cB (eOp2 gNeB (toV (lcL (eVar 3) [4] (kName 4) c3__law_first e3__law_first 1000)) (toV (small aNil))) (eF w al ps v4 (some (.int (1 + (i : Nat))))) [some (TL B)] = some (!decide (B.filter (hitB w (1 + i)) = []), [some (TL B)]) :=
      t_B (v_op (v_toV (v_lcL (v_var rfl) hlc (by rw [List.length_map]; omega))) (v_toV (v_smallN v_nil (by show 0 ≤ _; omega))) zEqTL0.2)
    have hcond : (!decide (B.filter (hitB w (1 + i)) = [])) = ps.all (fitB w (1 + i)) := by
      have := first_iff h hs nd hal (far := 1 + i) (by omega) (by omega)
      rw [Bool.eq_iff_iff, ← this]
      simp only [B, Bool.not_eq_true', decide_eq_false_iff_not]
    rw [hcond] at c0
    cases hls : ps.all (fitB w (1 + i)) with
    | true =>
      rw [hls] at c0
      rw [if_pos rfl]
      exact s_ifT c0 (s_ret (v_var rfl))
    | false =>
      rw [hls] at c0
      rw [if_neg (by simp)]
      exact s_ifF c0 rfl
  obtain ⟨k, fr', hfr⟩ := lsk_mem (w := w) (ps := ps) n1 (fun p hp => (hs.ob p hp).2)
  have el : lsk w ps = 1 + k := by unfold lsk; rw [hfr]; rfl
  have hfd : (List.range w.length).find? (fun i => ps.all (fitB w (1 + i))) = some k := by
    rw [← List.head?_filter, hfr]
    rfl
  rw [hfd] at hf
  have e : g__law_first (startD 7 [.str (tx w), .str (tx al), sD ps]) [] = some (.rt (.int (1 + (k : Nat))) [some (TL B)]) := by
    refine s_seq (r1 := eF w al ps none none) (st1 := [some (TL [])]) (s_set (v_toR (v_smallN v_nil (by show 0 ≤ _; omega)))) ?_
    refine s_seq (s_for (v_iE (d := TL (txs al w.length)) (v_N (v_cons (v_var rfl) (v_one (v_N (v_one (v_var rfl)) (zLenT h.wz)))) (v_gF rfl (v_V (by simp) (run_texts ha n7)))) rfl) k1) ?_
    exact s_seqRt (s_for (v_iR (v_cons rfl (v_one (v_op (v_N (v_one (v_var rfl)) (zLenT h.wz)) rfl zAddI))) (rg_one (by omega))) hf)
  rw [el]
  exact fV_of (b_rt e) (deref_no rfl)
end
end K81

set_option Elab.async false
set_option linter.all false
set_option maxRecDepth 100000
set_option maxHeartbeats 1000000
namespace K81
open PySem PySem.Spec PyProof.Rows L2 HB
section
variable {w al ord : List Nat}
abbrev eQ (w ord al : List Nat) (v5 v6 v7 v8 : Option Dt) : Evr := [some (.str (tx w)), some (OD ord), some (.str (tx al)), some (tabD (st0 w ord) (srw w al ord)), some (.ref 0), v5, v6, v7, v8]
/-- what has been seen: places of the word, each once, signs of the text's -/
structure SeenA (w al : List Nat) (ps : List (Nat × Nat)) : Prop where
  s : Seen w ps
  nd : (ps.map (·.1)).Nodup
  al : ∀ q ∈ ps, q.2 ∈ al
  z : ps.length ≤ 7
theorem SeenA.snoc {ps : List (Nat × Nat)} {p c : Nat} (h : SeenA w al ps) (hp : 1 ≤ p ∧ p ≤ w.length) (hn : p ∉ ps.map (·.1)) (hc : c ∈ al) (hz : ps.length < 7) : SeenA w al (ps ++ [(p, c)]) := by
  refine ⟨⟨fun q hq => ?_, by rw [List.length_append]; simp; omega⟩, nd_app h.nd hn, fun q hq => ?_, by rw [List.length_append]; simp; omega⟩
  · rcases List.mem_append.mp hq with hq | hq
    · exact h.s.ob q hq
    · simp at hq; rw [hq]; exact hp
  · rcases List.mem_append.mp hq with hq | hq
    · exact h.al q hq
    · simp at hq; rw [hq]; exact hc
theorem wAt_al (h : Win w al ord) {p : Nat} (hp : 1 ≤ p ∧ p ≤ w.length) : wAt w p ∈ al := by
  refine h.sub _ ?_
  unfold wAt
  exact getD_mem (by omega)
theorem small_inner (h : Win w al ord) (ha : al.length ≤ 5) (h4 : w.length ≤ 4) {i p : Nat} (hp : 1 ≤ p ∧ p ≤ w.length) {seen : List (Nat × Nat)} (hs : SeenA w al seen) (hps : p ∉ seen.map (·.1)) (hz : seen.length < 7) (hr : (srw w al ord)[i]? = some (oth w (sl al) p, fun c => lsk w (seen ++ [(p, c)]))) : ∀ (cs : List Nat) (st : Sto) (v7 v8 : Option Dt), (∀ c ∈ cs, c ∈ al) → st[0]? = some (some (sD seen)) →
    ∃ st' v7' v8', sForGo (kName 7) b1__law_small_right (cs.map fun c => .str (sg c)) (eQ w ord al (some (.int i)) (some (.int p)) v7 v8) st = some (.nx (eQ w ord al (some (.int i)) (some (.int p)) v7' v8') st') ∧ st'[0]? = some (some (sD seen))
  | [], st, v7, v8, _, h0 => ⟨st, v7, v8, rfl, h0⟩
  | c :: cs, st, v7, v8, hc, h0 => by
    have hsl := line_ge
    have hca := hc c (by simp)
    have c0 : cB (eOp2 gNeB (eVar 7) (eOp2 gIx (eVar 0) (eOp2 gMin (eVar 6) (eC (.int 1))))) (eQ w ord al (some (.int i)) (some (.int p)) (some (.str (sg c))) v8) st = some (!decide (c = wAt w p), st) :=
      t_B (v_op (v_var rfl) (v_op (v_var rfl) (v_op (v_var rfl) rfl zMin) (ix_w h rfl hp.1 hp.2)) (by rw [zNeS]; simp only [sg_inj]))
    rw [List.map_cons]
    by_cases hcw : c = wAt w p
    · rw [decide_eq_true hcw] at c0
      obtain ⟨st', v7', v8', e1, e2⟩ := small_inner h ha h4 hp hs hps hz hr cs st (some (.str (sg c))) v8 (fun d hd => hc d (by simp [hd])) h0
      exact ⟨st', v7', v8', for_cons (r1 := eQ w ord al (some (.int i)) (some (.int p)) (some (.str (sg c))) v8) rfl (s_ifF c0 rfl) e1, e2⟩
    · rw [decide_eq_false hcw] at c0
      have hl : 0 < st.length := (List.getElem?_eq_some_iff.mp h0).1
      have hs2 := hs.snoc (c := c) hp hps hca hz
      have hlv := run_first h ha h4 hs2.s hs2.nd hs2.al
      let S1 : Sto := st ++ [some (sD seen)]
      let S2 : Sto := S1.set st.length (some (sD (seen ++ [(p, c)])))
      let S3 : Sto := S2.set st.length none
      let E : Evr := eQ w ord al (some (.int i)) (some (.int p)) (some (.str (sg c))) (some (.ref st.length))
      have a1 : sSet 8 (eN gDictAR (aCons (eVar 4) aNil)) (eQ w ord al (some (.int i)) (some (.int p)) (some (.str (sg c))) v8) st = some (.nx E S1) := by
        refine s_set (v_N (v_one (v_var rfl)) ?_)
        show (match asD st (.ref 0) with | some p => some (Dt.ref st.length, st ++ [some (Dt.dic p.1 p.2)]) | none => gDictPR st [.ref 0]) = _
        have : asD st (.ref 0) = some (seen.map fun p => (Sum.inl (p.1 : Int) : Key), seen.map fun p => Dt.str (sg p.2)) := by unfold asD; dsimp only; rw [h0]; rfl
        rw [this]
        rfl
      have a2 : sDP (eVar 8) (eVar 6) (eVar 7) E S1 = some (.nx E S2) := by
        have e := s_DP (r := E) (st := S1) (fd := eVar 8) (fk := eVar 6) (fv := eVar 7) (v_var rfl) (v_var rfl) (v_var rfl) (ks := seen.map fun p => (Sum.inl (p.1 : Int) : Key)) (es := seen.map fun p => Dt.str (sg p.2)) (k := Sum.inl (p : Int)) (by simp [S1]; rfl) (by rw [List.length_map]; omega) rfl
        rw [e, pPut_sD hps]
        rfl
      have hco : c ∈ (oth w (sl al) p, fun c => lsk w (seen ++ [(p, c)])).1 := by
        show c ∈ oth w (sl al) p
        unfold oth
        rw [List.mem_filter, (sl_perm al).mem_iff]
        exact ⟨hca, by simp [hcw]⟩
      have a3 : cB (eOp2 gNeB (eOp2 gIx (eOp2 gIx (eVar 3) (eOp2 gAdd (eVar 5) (eC (.int 1)))) (eVar 7)) (eN (gF 3 (liftV (fV F__law_first))) (aCons (eVar 0) (aCons (eVar 2) (aCons (eFrz (eVar 8)) aNil))))) E S2 = some (false, S3) := by
        refine t_B (v_op (x := .int (lsk w (seen ++ [(p, c)]) : Nat)) (st1 := S2) (v_op (v_op (v_var rfl) (v_op (v_var rfl) rfl zAddI) (ixL (i + 1) rfl (by simp [hr]))) (v_var rfl) (ix_row hco)) (v_N (v_cons (v_var rfl) (v_cons (v_var rfl) (v_one (v_frz (v_var rfl) (by simp [S2, S1]))))) (v_gF rfl (v_V (by simp) hlv))) ?_)
        rw [zNeI]
        simp
        rfl
      have g0 : S3[0]? = some (some (sD seen)) := by
        simp only [S3, S2, S1]
        rw [List.getElem?_set_ne (by omega), List.getElem?_set_ne (by omega), List.getElem?_append_left hl]
        exact h0
      obtain ⟨st', v7', v8', e1, e2⟩ := small_inner h ha h4 hp hs hps hz hr cs S3 (some (.str (sg c))) (some (.ref st.length)) (fun d hd => hc d (by simp [hd])) g0
      exact ⟨st', v7', v8', for_cons (r1 := eQ w ord al (some (.int i)) (some (.int p)) (some (.str (sg c))) v8) rfl (s_ifT c0 (s_seq a1 (s_seq a2 (s_ifF a3 rfl)))) e1, e2⟩
theorem sn_fst (w l : List Nat) : (sn w l).map (·.1) = l := by unfold sn; rw [List.map_map]; exact List.map_id' l
theorem seenA_take (h : Win w al ord) (k : Nat) : SeenA w al (sn w (ord.take k)) := by
  have hol := h.ol
  have n7 := h.n7
  have hz : (sn w (ord.take k)).length ≤ 7 := by unfold sn; rw [List.length_map, List.length_take]; omega
  have hm : ∀ q ∈ sn w (ord.take k), ∃ p ∈ ord, q = (p, wAt w p) := fun q hq => by
    unfold sn at hq
    obtain ⟨p, hp, rfl⟩ := List.mem_map.mp hq
    exact ⟨p, List.mem_of_mem_take hp, rfl⟩
  refine ⟨⟨fun q hq => ?_, by omega⟩, ?_, fun q hq => ?_, hz⟩
  · obtain ⟨p, hp, rfl⟩ := hm q hq; exact h.ob p hp
  · rw [sn_fst]; exact h.on.sublist (List.take_sublist _ _)
  · obtain ⟨p, hp, rfl⟩ := hm q hq; exact wAt_al h (h.ob p hp)
theorem small_outer (h : Win w al ord) (ha : al.length ≤ 5) (h4 : w.length ≤ 4) : ∀ (ps : List Nat) (k : Nat) (st : Sto) (v5 v6 v7 v8 : Option Dt), ord.drop k = ps → st[0]? = some (some (sD (sn w (ord.take k)))) →
    ∃ st' v5' v6' v7' v8', sForGo (HB.kTup (ksCons (kName 5) (ksCons (kName 6) ksNil))) b2__law_small_right ((ps.zipIdx k).map fun x : Nat × Nat => Dt.tup [.int x.2, .int x.1]) (eQ w ord al v5 v6 v7 v8) st = some (.nx (eQ w ord al v5' v6' v7' v8') st') ∧ st'[0]? = some (some (sD (sn w ord)))
  | [], k, st, v5, v6, v7, v8, hd, h0 => ⟨st, v5, v6, v7, v8, rfl, by
    have : ord.take k = ord := List.take_of_length_le (List.drop_eq_nil_iff.mp hd)
    rw [this] at h0
    exact h0⟩
  | p :: ps, k, st, v5, v6, v7, v8, hd, h0 => by
    have hsl := line_ge
    have hk : k < ord.length := by
      rcases Nat.lt_or_ge k ord.length with z | z
      · exact z
      · rw [List.drop_of_length_le z] at hd; cases hd
    rw [List.drop_eq_getElem_cons hk] at hd
    injection hd with hp1 hd2
    have hpk : ord[k]? = some p := by rw [List.getElem?_eq_getElem hk, hp1]
    have hp := h.ob p (List.mem_of_getElem? hpk)
    have hps : p ∉ (sn w (ord.take k)).map (·.1) := by rw [sn_fst]; exact not_mem_take h.on hpk
    have hs := seenA_take h k
    have hz : (sn w (ord.take k)).length < 7 := by
      have := h.ol; have := h.n7
      unfold sn; rw [List.length_map, List.length_take]; omega
    have hr : (srw w al ord)[k]? = some (oth w (sl al) p, fun c => lsk w (sn w (ord.take k) ++ [(p, c)])) := by
      have := srows_get (w := w) (al := sl al) ord [] k p hpk
      unfold srw
      rw [this, List.nil_append]
    obtain ⟨S1, u7, u8, e1, e2⟩ := small_inner h ha h4 hp hs hps hz hr al st v7 v8 (fun _ z => z) h0
    let S2 : Sto := S1.set 0 (some (sD (sn w (ord.take k) ++ [(p, wAt w p)])))
    have hl : 0 < S1.length := (List.getElem?_eq_some_iff.mp e2).1
    have s3 : sDP (eVar 4) (eVar 6) (eOp2 gIx (eVar 0) (eOp2 gMin (eVar 6) (eC (.int 1)))) (eQ w ord al (some (.int k)) (some (.int p)) u7 u8) S1 = some (.nx (eQ w ord al (some (.int k)) (some (.int p)) u7 u8) S2) := by
      have e := s_DP (r := eQ w ord al (some (.int k)) (some (.int p)) u7 u8) (st := S1) (fd := eVar 4) (fk := eVar 6) (fv := eOp2 gIx (eVar 0) (eOp2 gMin (eVar 6) (eC (.int 1)))) (v := .str (sg (wAt w p))) (v_op (v_var rfl) (v_op (v_var rfl) rfl zMin) (ix_w h rfl hp.1 hp.2)) (v_var rfl) (v_var rfl) (ks := (sn w (ord.take k)).map fun p : Nat × Nat => (Sum.inl (p.1 : Int) : Key)) (es := (sn w (ord.take k)).map fun p : Nat × Nat => Dt.str (sg p.2)) (k := Sum.inl (p : Int)) e2 (by rw [List.length_map]; omega) rfl
      rw [e, pPut_sD hps]
      rfl
    have et : sn w (ord.take (k + 1)) = sn w (ord.take k) ++ [(p, wAt w p)] := by
      rw [List.take_succ_eq_append_getElem hk, hp1]
      unfold sn
      rw [List.map_append]
      rfl
    obtain ⟨st', v5', v6', v7', v8', e3, e4⟩ := small_outer h ha h4 ps (k + 1) S2 (some (.int k)) (some (.int p)) u7 u8 hd2 (by rw [et]; simp only [S2]; rw [List.getElem?_set_self hl])
    refine ⟨st', v5', v6', v7', v8', ?_, e4⟩
    rw [List.zipIdx_cons, List.map_cons]
    refine for_cons (r1 := eQ w ord al (some (.int k)) (some (.int p)) v7 v8) rfl ?_ e3
    exact s_seq (s_for (v_iE (v_var rfl) (show itS st (.str (tx al)) = some (al.map fun c => .str (sg c)) by rw [zItS]; rfl)) e1) s3
theorem run_small (h : Win w al ord) (ha : al.length ≤ 5) (h4 : w.length ≤ 4) : fV F__law_small_right [.str (tx w), OD ord, .str (tx al)] = some (.bl true) := by
  obtain ⟨st', v5, v6, v7, v8, e1, e2⟩ := small_outer h ha h4 ord 0 [some (sD [])] none none none none rfl rfl
  have hs := seenA_take h ord.length
  rw [List.take_length] at hs
  have hlv := run_first h ha h4 hs.s hs.nd hs.al
  have en1 : en [OD ord] = some ((ord.zipIdx 0).map fun x : Nat × Nat => Dt.tup [.int x.2, .int x.1]) := by
    show some (enumL (ord.map fun p : Nat => Dt.int p)) = _
    unfold enumL
    congr 1
    rw [List.zipIdx_map, List.map_map]
    rfl
  have e : g__law_small_right (startD 9 [.str (tx w), OD ord, .str (tx al)]) [] = some (.rt (.bl true) (st'.set 0 none)) := by
    refine s_seq (r1 := [some (.str (tx w)), some (OD ord), some (.str (tx al)), some (tabD (st0 w ord) (srw w al ord)), none, none, none, none, none]) (st1 := []) (s_set (v_N (v_cons (v_var rfl) (v_cons (v_var rfl) (v_one (v_var rfl)))) (v_gF rfl (v_V (by simp) (run_skipsW h))))) ?_
    refine s_seq (r1 := eQ w ord al none none none none) (st1 := [some (sD [])]) (s_set rfl) ?_
    refine s_seq (s_for (v_iR (v_one (v_var rfl)) en1) e1) ?_
    refine s_ret (v_op (x := .int (st0 w ord : Nat)) (st1 := st') (v_op (v_var rfl) rfl (ixL 0 rfl rfl)) (v_N (v_cons (v_var rfl) (v_cons (v_var rfl) (v_one (v_frz (v_var rfl) e2)))) (v_gF rfl (v_V (by simp) hlv))) ?_)
    rw [zEqI]
    simp [st0]
  exact fV_of (b_rt e) (deref_no rfl)
end
end K81

set_option Elab.async false
set_option linter.all false
set_option maxRecDepth 100000
set_option maxHeartbeats 1000000
namespace K81
open PySem PySem.Spec PyProof.Rows L2 HB
theorem eqB_of {st : Sto} {x y : Dt} (nx : noRef x = true) (ny : noRef y = true) (hk : alikeD x y = true) (hq : eqQ 8 x y = some true) : gEqB st x y = some (.bl true, st) ∧ gNeB st x y = some (.bl false, st) := by
  have e : eqB st x y = some true := by
    unfold eqB
    rw [deref_no nx, Option.bind_some, deref_no ny, Option.bind_some, if_pos hk, if_pos ⟨nx, ny⟩]
    exact hq
  unfold gEqB gNeB
  rw [e]
  exact ⟨rfl, rfl⟩
theorem ix_told {st : Sto} {k : Nat} {ds : List Dt} {d : Dt} (i : Nat) (hk : st[k]? = some (some (.lst ds))) (hd : ds[i]? = some d) : gIx st (.ref k) (.int i) = some (d, st) := by
  have ea : asL st (.ref k) = some ds := by unfold asL; dsimp only; rw [hk]
  show (match asL st (.ref k) with
    | some ds => (atI ds (i : Int)).map fun d => (d, st)
    | none => _) = _
  rw [ea]
  show (atI ds (i : Int)).map _ = _
  rw [HB.atI_nat, hd]
  rfl
theorem sl_told {st : Sto} {k : Nat} {ds : List Dt} (i : Nat) (hk : st[k]? = some (some (.lst ds))) : gSl st (.ref k) (some (i : Int)) none = some (.lst (ds.drop i)) := by
  have ea : asL st (.ref k) = some ds := by unfold asL; dsimp only; rw [hk]
  show (asL st (.ref k)).map _ = _
  rw [ea]
  show some (Dt.lst (cutL ds (some (i : Int)) none)) = _
  rw [cutL_from]
section
variable {w al ord : List Nat}
abbrev eR (w ord al : List Nat) (v4 v5 v6 v7 v8 v9 v10 v11 : Option Dt) : Evr := [some (.ref 0), some (.str (tx w)), some (OD ord), some (.str (tx al)), v4, v5, v6, v7, v8, v9, v10, v11]
theorem num_inner {v4 v5 v6 v9 v10 : Option Dt} {st : Sto} {r : Row} (hb : ∀ c ∈ r.1, r.2 c ≤ 7) : ∀ (cs : List Nat) (N : Nat) (v11 : Option Dt), (∀ c ∈ cs, c ∈ r.1) → ∃ v11', sForGo (kName 11) b1__law_right (cs.map fun c => .str (sg c)) (eR w ord al v4 v5 v6 (some (.int (N : Nat))) (some (rowD r)) v9 v10 v11) st = some (.nx (eR w ord al v4 v5 v6 (some (.int (N * prd (cs.map r.2) : Nat))) (some (rowD r)) v9 v10 v11') st)
  | [], N, v11, _ => ⟨v11, by simp [prd]; rfl⟩
  | c :: cs, N, v11, h => by
    have hc := h c (by simp)
    obtain ⟨v11', e⟩ := num_inner hb cs (N * r.2 c) (some (.str (sg c))) fun d hd => h d (by simp [hd])
    refine ⟨v11', ?_⟩
    rw [List.map_cons, List.map_cons]
    rw [show N * prd (r.2 c :: cs.map r.2) = N * r.2 c * prd (cs.map r.2) by show N * (r.2 c * _) = _; rw [Nat.mul_assoc]]
    refine for_cons (r1 := eR w ord al v4 v5 v6 (some (.int (N : Nat))) (some (rowD r)) v9 v10 (some (.str (sg c)))) rfl ?_ e
    refine s_set (v_op (v_var rfl) (v_op (v_var rfl) (v_var rfl) (ix_row hc)) ?_)
    rw [zMulZ (cmul_small (hb c hc)), Int.natCast_mul]
theorem num_outer {v4 v5 v6 v9 v10 : Option Dt} {st : Sto} : ∀ (rows : List Row) (N : Nat) (v8 v11 : Option Dt), (∀ r ∈ rows, ∀ c ∈ r.1, r.2 c ≤ 7) → ∃ v8' v11', sForGo (kName 8) b2__law_right (rows.map rowD) (eR w ord al v4 v5 v6 (some (.int (N : Nat))) v8 v9 v10 v11) st = some (.nx (eR w ord al v4 v5 v6 (some (.int (N * prdL rows : Nat))) v8' v9 v10 v11') st)
  | [], N, v8, v11, _ => ⟨v8, v11, by simp [prdL]; rfl⟩
  | r :: rows, N, v8, v11, h => by
    obtain ⟨u11, e1⟩ := num_inner (w := w) (ord := ord) (al := al) (v4 := v4) (v5 := v5) (v6 := v6) (v9 := v9) (v10 := v10) (st := st) (h r (by simp)) r.1 N v11 fun _ z => z
    obtain ⟨v8', v11', e2⟩ := num_outer (v4 := v4) (v5 := v5) (v6 := v6) (v9 := v9) (v10 := v10) (st := st) rows (N * prd (r.1.map r.2)) (some (rowD r)) u11 fun q hq => h q (by simp [hq])
    refine ⟨v8', v11', ?_⟩
    rw [List.map_cons]
    rw [show N * prdL (r :: rows) = N * prd (r.1.map r.2) * prdL rows by show N * (prd _ * prdL rows) = _; rw [Nat.mul_assoc]]
    refine for_cons (r1 := eR w ord al v4 v5 v6 (some (.int (N : Nat))) (some (rowD r)) v9 v10 v11) rfl ?_ e2
    exact s_for (v_iE (v_var rfl) (show itK st (rowD r) = some (r.1.map fun c => .str (sg c)) by unfold rowD; rw [zItK, List.map_map]; rfl)) e1
/-! the keys -/
def kyD (l : List Nat) : Dt := .lst (l.map fun c => .str (sg c))
theorem keys_live {v4 v5 v6 v7 v9 v10 v11 : Option Dt} {st : Sto} : ∀ (rows : List Row) (a : Nat), At st rows a → lcGo (kName 8) cYes e3__law_right (eR w ord al v4 v5 v6 v7 none v9 v10 v11) (rfs a rows.length) st = some (rows.map fun r => kyD r.1, st)
  | [], a, _ => rfl
  | r :: rows, a, h => by
    have ih := keys_live (v4 := v4) (v5 := v5) (v6 := v6) (v7 := v7) (v9 := v9) (v10 := v10) (v11 := v11) rows (a + 1) h.tail
    have hg : st[a]? = some (some (rowD r)) := by simpa using h 0 r (by simp)
    rw [List.length_cons, rfs_cons, List.map_cons]
    have he : e3__law_right (eR w ord al v4 v5 v6 v7 (some (.ref a)) v9 v10 v11) st = some (kyD r.1, st) := by
      refine v_N (v_one (v_var rfl)) ?_
      show (match asL st (.ref a) with
        | some ds => some (Dt.lst ds, st)
        | none => (asD st (.ref a)).map fun p : List Key × List Dt => (Dt.lst (p.1.map keyDt), st)) = _
      have e1 : asL st (.ref a) = none := by unfold asL; dsimp only; rw [hg]; rfl
      have e2 : asD st (.ref a) = some (r.1.map fun c => (Sum.inr (sg c) : Key), r.1.map fun c => Dt.int (r.2 c)) := by unfold asD; dsimp only; rw [hg]; rfl
      rw [e1, e2]
      show some (Dt.lst _, st) = _
      rw [List.map_map]
      rfl
    exact lcGo_cons (kt := kName 8) (c := cYes) (r1 := eR w ord al v4 v5 v6 v7 (some (.ref a)) v9 v10 v11) (st1 := st) rfl rfl he ih
theorem keys_due {v4 v5 v6 v7 v9 v10 v11 : Option Dt} {st : Sto} (rows : List Row) : lcGo (kName 8) cYes e4__law_right (eR w ord al v4 v5 v6 v7 none v9 v10 v11) (rows.map rowD) st = some (rows.map fun r => kyD (sl r.1), st) :=
  lcGo_map _ _ _ fun r _ => ⟨_, rfl, v_N (v_one (v_var rfl)) gSort_row⟩
theorem sl_oth (w al : List Nat) (p : Nat) : sl (oth w al p) = oth w (sl al) p := by
  have := sort_oth w al p
  unfold sl at this ⊢
  rw [this, List.map_map]
  exact List.map_id' _
theorem keys_same : ∀ (ps : List Nat) (s : List (Nat × Nat)), ((srows w (sl al) s ps).map fun r => kyD r.1) = (srows w al s ps).map fun r => kyD (sl r.1)
  | [], _ => rfl
  | p :: ps, s => by
    show kyD (oth w (sl al) p) :: ((srows w (sl al) (s ++ [(p, wAt w p)]) ps).map fun r => kyD r.1) = kyD (sl (oth w al p)) :: ((srows w al (s ++ [(p, wAt w p)]) ps).map fun r => kyD (sl r.1))
    rw [sl_oth, keys_same ps]
/-! the greatest -/
theorem ints_map {α : Type} (f : α → Nat) : ∀ l : List α, intsD (l.map fun a => .int (f a)) = some (l.map fun a => (f a : Int))
  | [] => rfl
  | a :: l => by
    rw [List.map_cons]
    show (intsD (l.map fun a => Dt.int (f a : Int))).map _ = _
    rw [ints_map f l]
    rfl
theorem vals_due {v4 v5 v6 v7 v9 v10 v11 : Option Dt} {st : Sto} (rows : List Row) : lcGo (kName 8) cYes e5__law_right (eR w ord al v4 v5 v6 v7 none v9 v10 v11) (rows.map rowD) st = some (rows.map fun r => .lst (r.1.map fun c => .int (r.2 c)), st) :=
  lcGo_map _ _ _ fun r _ => ⟨_, rfl, by
    show ((eVar 8 (eR w ord al v4 v5 v6 v7 (some (rowD r)) v9 v10 v11) st).bind fun x => (asD x.2 x.1).map fun p => (Dt.lst p.2, x.2)) = _
    rw [v_var (d := rowD r) rfl, Option.bind_some]
    rfl⟩
theorem vals_flat (rows : List Row) : (rows.map fun r => r.1.map fun c => Dt.int (r.2 c)).flatten = (vals rows).map fun v : Nat => Dt.int v := by
  unfold vals
  induction rows with
  | nil => rfl
  | cons r rows ih => rw [List.map_cons, List.flatten_cons, List.flatMap_cons, List.map_append, ih, List.map_map]; rfl
theorem max_le {st : Sto} {t0 n : Nat} {vs : List Nat} (h0 : t0 ≤ n) (hv : ∀ v ∈ vs, v ≤ n) : ∃ m : Nat, m ≤ n ∧ gMaxL st [.lst (.int (t0 : Nat) :: vs.map fun v : Nat => .int v)] = some (.int (m : Nat), st) := by
  have hi := ints_map (fun v : Nat => v) (t0 :: vs)
  have hm := topI_mem ((t0 :: vs).map fun v : Nat => (v : Int)) (by simp)
  obtain ⟨m, hm1, hm2⟩ := List.mem_map.mp hm
  refine ⟨m, ?_, ?_⟩
  · rcases List.mem_cons.mp hm1 with rfl | z
    · exact h0
    · exact hv m z
  · show ((intsD (.int (t0 : Nat) :: vs.map fun v : Nat => .int v)).map fun r => (Dt.int (topI r), st)) = _
    rw [show (.int (t0 : Nat) :: vs.map fun v : Nat => Dt.int v) = (t0 :: vs).map fun v : Nat => Dt.int v from rfl, hi]
    show some (Dt.int (topI ((t0 :: vs).map fun v : Nat => (v : Int))), st) = _
    rw [← hm2]
theorem neC_S {st : Sto} {x : Str} : gNeC st (.str x) (.str x) = some (.bl false, st) := by
  have h := eqB_S (st := st) (x := x) (y := x)
  unfold eqB at h
  rw [deref_no rfl, Option.bind_some, Option.bind_some, if_neg (by unfold alikeD; simp)] at h
  unfold gNeC eqC
  rw [deref_no rfl, Option.bind_some, Option.bind_some, if_neg (by unfold alikeD; simp), h]
  simp
theorem win_perm (h : Win w al ord) {ord' : List Nat} (hp : ord'.Perm ord) : Win w al ord' :=
  ⟨h.n1, h.n7, h.la, h.na, h.a5, h.sub, by rw [hp.length_eq, h.ol], hp.nodup_iff.mpr h.on, fun p hq => h.ob p (hp.mem_iff.mp hq), fun q h1 h2 => hp.mem_iff.mpr (h.cov q h1 h2)⟩
end
end K81

set_option Elab.async false
set_option linter.all false
set_option maxRecDepth 100000
set_option maxHeartbeats 4000000
namespace K81
open PySem PySem.Spec PyProof.Rows L2 HB
theorem sm_sg {c : Nat} (h : letB (sg c) = true) : Sm (sg c) := ⟨by show 1 ≤ 7; omega, fun d hd => by simp at hd; rw [hd]; exact letB_lt h⟩
theorem neSS {st : Sto} {z : Str} : gNeB st (.str z) (.str z) = some (.bl false, st) := by rw [zNeS, decide_eq_true rfl]; rfl
theorem neII {st : Sto} {i : Int} : gNeB st (.int i) (.int i) = some (.bl false, st) := by rw [zNeI, decide_eq_true rfl]; rfl
theorem eqII {st : Sto} {i : Int} : gEqB st (.int i) (.int i) = some (.bl true, st) := by rw [zEqI, decide_eq_true rfl]
theorem twice {st : Sto} {d : Dt} : gMulZ st (.lst [d]) (.int 2) = some (.lst [d, d], st) := by
  have hz := line_ge
  show ((asL st (.lst [d])).bind fun ds => if -(2 ^ 63) ≤ (2 : Int) ∧ (2 : Int) < 2 ^ 63 ∧ ds.length * (2 : Int).toNat ≤ sizeLine then some (Dt.lst (List.replicate (2 : Int).toNat ds).flatten, st) else none) = _
  rw [show asL st (.lst [d]) = some [d] from rfl, Option.bind_some, if_pos ⟨by decide, by decide, by show 1 * 2 ≤ _; omega⟩]
  rfl
section
variable {w al ord : List Nat}
theorem run_right (h : Win w al ord) (ha : al.length ≤ 5) (x : Drw) (hx : x.k ≤ 5000) : ∃ x' : Drw, fE F__law_right x.dt [.str (tx w), OD ord, .str (tx al)] = some (.bl true, x'.dt) ∧ x'.k ≤ x.k + 100 := by
  have hz := line_ge
  have hol := h.ol
  have n7 := h.n7
  have n1 := h.n1
  have ts := tb_safe h
  have tl := tb_law h
  let n := ord.length
  have hn1 : 1 ≤ n := by show 1 ≤ ord.length; omega
  have hn7 : n ≤ 7 := by show ord.length ≤ 7; omega
  have srl : (srw w al ord).length = n := srw_len w al ord
  have lrl : (lrw w al ord).length = n := by unfold lrw; rw [srows_len]
  obtain ⟨p0, ps, eo⟩ : ∃ p0 ps, ord = p0 :: ps := by
    cases ho : ord with
    | nil => simp [n, ho] at hn1
    | cons a l => exact ⟨a, l, rfl⟩
  let KS : Dt := .str (repT (OD ord))
  let DU : Dt := tabD (lsk w (sn w ord)) (lrw w al ord)
  let TS : Dt := tabD (st0 w ord) (srw w al ord)
  let TD : Dt := .lst [.ref (3 + n), TS]
  let S0 : Sto := [some x.dt]
  let S1 : Sto := aft w al ord S0
  have A1 : At S1 (srw w al ord) 3 := aft_At S0
  have g1 : S1[3 + n]? = some (some (.lst (.int (st0 w ord) :: rfs 3 n))) := aft_last S0
  have d1 : deref S1 100 TD = some (.lst [TS, TS]) := deref_lst (k := 99) (derefs_cons (deref_aft h S0 (by omega)) (derefs_cons (deref_no nr_tabD) (by rfl)))
  have z1 : S1[0]? = some (some x.dt) := aft_old S0 rfl
  have rbO : RB 1 100000 (OD ord) := rb_IL (l := ord) (fun p hp => by have := (h.ob p hp).2; omega) (by rw [h.ol]; omega)
  have kept : ∀ (v4 v5 v6 v7 v8 v9 v10 v11 : Option Dt) (st : Sto), eN gRep (aCons (eVar 2) aNil) (eR w ord al v4 v5 v6 v7 v8 v9 v10 v11) st = some (KS, st) := fun v4 v5 v6 v7 v8 v9 v10 v11 st => v_N (v_one (v_var rfl)) (v_rep (deref_no nrOD) rbO (by omega) (by omega))
  -- the calls
  have sk1 : eN (gF 3 F_safe_skips) (aCons (eVar 1) (aCons (eVar 2) (aCons (eVar 3) aNil))) (eR w ord al (some KS) (some DU) none none none none none none) S0 = some (.ref (3 + n), S1) := v_N (v_cons (v_var rfl) (v_cons (v_var rfl) (v_one (v_var rfl)))) (v_gF rfl (run_skips h S0))
  have sk2 : eN (gFk 3 [2, 1, 0] (liftV (fW F_safe_skips))) (aCons (eVar 3) (aCons (eVar 2) (aCons (eVar 1) aNil))) (eR w ord al (some KS) (some DU) none none none none none none) S1 = some (TS, S1) := v_N (v_cons (v_var rfl) (v_cons (v_var rfl) (v_one (v_var rfl)))) (by rw [gFk_rev3]; exact v_V (by simp) (run_skipsW h))
  have c1 : eOp2 gNeC (eVar 6) (toV (small (aCons (eVar 5) (aCons (eVar 5) aNil)))) (eR w ord al (some KS) (some DU) (some TD) none none none none none) S1 = some (.bl false, S1) := by
    refine v_op (v_var rfl) (v_toV (v_smallN (v_cons (v_var rfl) (v_one (v_var rfl))) (by show 2 ≤ _; omega))) (eqC_of d1 (deref_no (d := .lst [DU, DU]) (by simp [DU])) (by simp [TS]) (by simp [DU]) rfl ?_).2
    exact eqQ_cons (tab_eq h 3) (eqQ_cons (tab_eq h 3) rfl)
  -- the number
  let N := st0 w ord * prdL (srw w al ord)
  have eN : lsk w (sn w ord) * prdL (lrw w al ord) = N := by
    show _ = st0 w ord * prdL (srw w al ord)
    unfold lrw srw st0
    rw [prdL_perm (sl_perm al)]
  have bl : ∀ r ∈ lrw w al ord, ∀ c ∈ r.1, r.2 c ≤ 7 := fun r hr c hc => by have := row_bd tl hr hc; omega
  obtain ⟨u8, u11, nu⟩ := num_outer (w := w) (ord := ord) (al := al) (v4 := some KS) (v5 := some DU) (v6 := some TD) (v9 := none) (v10 := none) (st := S1) (lrw w al ord) (lsk w (sn w ord)) none none bl
  rw [eN] at nu
  let E (v6 v8 v9 v10 v11 : Option Dt) : Evr := eR w ord al (some KS) (some DU) v6 (some (.int (N : Nat))) v8 v9 v10 v11
  have sDU : ∀ (i : Nat) (v6 v7 v8 v9 v10 v11 : Option Dt) (st : Sto), eSl (eVar 5) (oE (eC (.int (i : Nat)))) oNo (eR w ord al (some KS) (some DU) v6 v7 v8 v9 v10 v11) st = some (.lst ((.int (lsk w (sn w ord)) :: (lrw w al ord).map rowD).drop i), st) := fun i v6 v7 v8 v9 v10 v11 st => v_sl (v_var rfl) (v_oE (i := ((i : Nat) : Int)) rfl) rfl (by show some (Dt.lst (cutL _ (some ((i : Nat) : Int)) none)) = _; rw [cutL_from])
  have dueZ : ∀ (v6 v7 v8 v9 v10 v11 : Option Dt) (st : Sto), eOp2 gIx (eVar 5) (eC (.int 0)) (eR w ord al (some KS) (some DU) v6 v7 v8 v9 v10 v11) st = some (.int (lsk w (sn w ord)), st) := fun v6 v7 v8 v9 v10 v11 st => v_op (v_var rfl) rfl (ixL 0 rfl rfl)
  have toldZ : ∀ (v5 v7 v8 v9 v10 v11 : Option Dt) (st : Sto), eOp2 gIx (eVar 6) (eC (.int 0)) (eR w ord al (some KS) v5 (some TD) v7 v8 v9 v10 v11) st = some (.ref (3 + n), st) := fun v5 v7 v8 v9 v10 v11 st => v_op (v_var rfl) rfl (ixL 0 rfl rfl)
  have rbN : RB 1 10000 (.lst [.int (N : Nat), .int (N : Nat)]) := (rb_L (e := 0) (k := 1000) (m := 2) (fun d hd => by simp at hd; rw [hd]; exact rb_big (num_lt h ha)) (by simp)).mono (by omega) (by omega)
  have c2 : eOp2 gNeB (HB.eN gRep (aCons (eOp2 gMulZ (toV (small (aCons (HB.eN (gF 3 (liftV (fV F_count_right_skips))) (aCons (eVar 1) (aCons (eVar 2) (aCons (eVar 3) aNil)))) aNil))) (eC (.int 2))) aNil)) (HB.eN gRep (aCons (toV (small (aCons (eVar 7) (aCons (eVar 7) aNil)))) aNil)) (E (some TD) u8 none none u11) S1 = some (.bl false, S1) :=
    v_op (v_N (v_one (v_op (v_toV (v_smallN (v_one (v_N (v_cons (v_var rfl) (v_cons (v_var rfl) (v_one (v_var rfl)))) (v_gF rfl (v_V (by simp) (run_count h))))) (by show 1 ≤ _; omega))) rfl twice)) (v_rep (deref_no rbN.nr) rbN (by omega) (by omega))) (v_N (v_one (v_toV (v_smallN (v_cons (v_var rfl) (v_one (v_var rfl))) (by show 2 ≤ _; omega)))) (v_rep (deref_no rbN.nr) rbN (by omega) (by omega))) neSS
  have c3 : eOp2 gNeB (HB.eN (gFk 3 [2, 1, 0] (liftV (fV F_count_right_skips))) (aCons (eVar 3) (aCons (eVar 2) (aCons (eVar 1) aNil)))) (eVar 7) (E (some TD) u8 none none u11) S1 = some (.bl false, S1) :=
    v_op (v_N (v_cons (v_var rfl) (v_cons (v_var rfl) (v_one (v_var rfl)))) (by rw [gFk_rev3]; exact v_V (by simp) (run_count h))) (v_var rfl) neII
  -- the keys
  have c4 : eOp2 gNeB (toV (lc (iE itL (eSl (eOp2 gIx (eVar 6) (eC (.int 0))) (oE (eC (.int 1))) oNo)) [8] (kName 8) cYes e3__law_right)) (toV (lc (iE itL (eSl (eVar 5) (oE (eC (.int 1))) oNo)) [8] (kName 8) cYes e4__law_right)) (E (some TD) u8 none none u11) S1 = some (.bl false, S1) := by
    let KL : Dt := .lst ((lrw w al ord).map fun r => kyD (sl r.1))
    have nK : noRef KL = true := by
      simp only [KL]
      rw [nrL]
      exact noRefs_map fun r _ => by unfold kyD; rw [nrL]; exact noRefs_map fun _ _ => rfl
    have k1 := keys_live (w := w) (ord := ord) (al := al) (v4 := some KS) (v5 := some DU) (v6 := some TD) (v7 := some (.int (N : Nat))) (v9 := none) (v10 := none) (v11 := u11) (srw w al ord) 3 A1
    rw [srl] at k1
    have k3 : ((srw w al ord).map fun r => kyD r.1) = (lrw w al ord).map fun r => kyD (sl r.1) := keys_same ord []
    rw [k3] at k1
    have hsl : eSl (eOp2 gIx (eVar 6) (eC (.int 0))) (oE (eC (.int 1))) oNo (E (some TD) u8 none none u11) S1 = some (.lst (rfs 3 n), S1) := v_sl (toldZ _ _ _ _ _ _ _) (v_oE (i := ((1 : Nat) : Int)) rfl) rfl (sl_told 1 g1)
    refine v_op (v_toV (v_lc (own := [8]) (v_iE hsl rfl) k1 (by rw [List.length_map, lrl]; omega))) (v_toV (v_lc (own := [8]) (v_iE (sDU 1 _ _ _ _ _ _ _) rfl) (keys_due (lrw w al ord)) (by rw [List.length_map, lrl]; omega))) (eq_same (d := KL) (deref_no nK) (deref_no nK) nK rfl ?_).2
    refine okQ_L fun d hd => ?_
    obtain ⟨r, hr, rfl⟩ := List.mem_map.mp hd
    refine okQ_L fun d hd => ?_
    obtain ⟨c, hc, rfl⟩ := List.mem_map.mp hd
    obtain ⟨i, hi, er⟩ := List.mem_iff_getElem.mp hr
    have hi' : i < ord.length := by rw [lrl] at hi; exact hi
    have hc2 := (tl.mem i r _ (by rw [List.getElem?_eq_getElem hi, er]) (List.getElem?_eq_getElem hi') c).mp ((sl_perm _).mem_iff.mp hc)
    exact okQ_S (sm_sg (h.la c hc2.1))
  -- the change
  have srw0 : srw w al ord = (oth w (sl al) p0, fun c => lsk w ([] ++ [(p0, c)])) :: srows w (sl al) ([] ++ [(p0, wAt w p0)]) ps := by unfold srw; rw [eo]; rfl
  have lrw0 : lrw w al ord = (oth w al p0, fun c => lsk w ([] ++ [(p0, c)])) :: srows w al ([] ++ [(p0, wAt w p0)]) ps := by unfold lrw; rw [eo]; rfl
  have psl : ps.length + 1 = n := by show _ = ord.length; rw [eo]; rfl
  have r0 : S1[3]? = some (some (rowD (oth w (sl al) p0, fun c => lsk w ([] ++ [(p0, c)])))) := by simpa using A1 0 _ (by rw [srw0]; rfl)
  let ks0 := (oth w (sl al) p0).map fun c => (Sum.inr (sg c) : Key)
  let es0 := (oth w (sl al) p0).map fun c => Dt.int ((fun c => lsk w ([] ++ [(p0, c)])) c : Nat)
  let X0 : Dt := .dic (pPut (Sum.inr "x") .non ks0 es0).1 (pPut (Sum.inr "x") .non ks0 es0).2
  let S2 : Sto := S1.set 3 (some X0)
  have er : rfs 3 n = .ref 3 :: rfs 4 ps.length := by rw [← psl, rfs_cons]
  have s5 : sDP (eOp2 gIx (eOp2 gIx (eVar 6) (eC (.int 0))) (eC (.int 1))) (eC (.str "x")) (eC .non) (E (some TD) u8 none none u11) S1 = some (.nx (E (some TD) u8 none none u11) S2) :=
    s_DP (st1 := S1) (st2 := S1) (st3 := S1) (i := 3) (ks := ks0) (es := es0) rfl (v_op (toldZ _ _ _ _ _ _ _) rfl (ix_told 1 g1 (by rw [er]; rfl))) rfl r0 (by simp only [ks0]; rw [List.length_map]; have := oth_len h p0; omega) rfl
  have g2 : S2[3 + n]? = some (some (.lst (.int (st0 w ord) :: rfs 3 n))) := by simp only [S2]; rw [List.getElem?_set_ne (by omega)]; exact g1
  have A2 : At S2 (srows w (sl al) ([] ++ [(p0, wAt w p0)]) ps) 4 := fun i r hr => by
    simp only [S2]
    rw [List.getElem?_set_ne (by omega), show 4 + i = 3 + (i + 1) by omega]
    exact A1 (i + 1) r (by rw [srw0, List.getElem?_cons_succ]; exact hr)
  have nd := (sl_perm al).nodup_iff.mpr h.na
  have c6 : eOp2 gNeC (eSl (eOp2 gIx (eVar 6) (eC (.int 0))) (oE (eC (.int 2))) oNo) (eSl (eVar 5) (oE (eC (.int 2))) oNo) (E (some TD) u8 none none u11) S2 = some (.bl false, S2) := by
    have hq := rows_eq (w := w) 5 (sl_perm al) nd ps ([] ++ [(p0, wAt w p0)]) ([] ++ [(p0, wAt w p0)]) (.refl _)
    have nr : ∀ rows : List Row, noRef (.lst (rows.map rowD)) = true := fun rows => by rw [nrL]; exact noRefs_map fun _ _ => nr_rowD
    have dr := derefs_rfs (st := S2) (srows w (sl al) ([] ++ [(p0, wAt w p0)]) ps) 4 99 A2 (by rw [srows_len]; omega)
    rw [srows_len] at dr
    have hs2 := sDU 2 (some TD) (some (.int (N : Nat))) u8 none none u11 S2
    rw [lrw0] at hs2
    exact v_op (v_sl (d := .lst (rfs 4 ps.length)) (toldZ _ _ _ _ _ _ _) (v_oE (i := ((2 : Nat) : Int)) rfl) rfl (by rw [sl_told 2 g2, er]; rfl)) hs2 (eqC_of (deref_lst (k := 99) dr) (deref_no (nr _)) (nr _) (nr _) rfl hq).2
  let S3 : Sto := S2.set (3 + n) (some (.lst ((.int (st0 w ord) :: rfs 3 n) ++ [.non])))
  have s7 : sEx (eM isL gApp (eOp2 gIx (eVar 6) (eC (.int 0))) (aCons (eC .non) aNil)) (E (some TD) u8 none none u11) S2 = some (.nx (E (some TD) u8 none none u11) S3) :=
    s_ex (v_app (k := 3 + n) (ds := .int (st0 w ord) :: rfs 3 n) (y := .non) (st1 := S2) (st2 := S2) (toldZ _ _ _ _ _ _ _) g2 (v_one rfl) g2 (by rw [List.length_cons, rfs_len]; omega))
  have c8 : eOp2 gNeB (HB.eN (gF 3 (liftV (fW F_safe_skips))) (aCons (eVar 1) (aCons (eVar 2) (aCons (eVar 3) aNil)))) (eVar 5) (E (some TD) u8 none none u11) S3 = some (.bl false, S3) :=
    v_op (v_N (v_cons (v_var rfl) (v_cons (v_var rfl) (v_one (v_var rfl)))) (v_gF rfl (v_V (by simp) (run_skipsW h)))) (v_var rfl) (eqB_of nr_tabD nr_tabD rfl (tab_eq h 4)).2
  -- the greatest
  obtain ⟨m, hm1, hm2⟩ := max_le (st := S3) (n := w.length) (vs := vals (lrw w al ord)) tl.t2 fun v hv => by
    unfold vals at hv
    obtain ⟨r, hr, hc⟩ := List.mem_flatMap.mp hv
    obtain ⟨c, hc2, rfl⟩ := List.mem_map.mp hc
    exact (row_bd tl hr hc2).2
  have vlen : (vals (lrw w al ord)).length ≤ 35 := by
    have := vals_len h ha (.refl al) [] ord []
    unfold lrw
    omega
  have c9 : eOp2 gGt (HB.eN gMaxL (aCons (eOp2 gAdd (toV (small (aCons (eOp2 gIx (eVar 5) (eC (.int 0))) aNil))) (HB.eN gSumL (aCons (toV (lc (iE itL (eSl (eVar 5) (oE (eC (.int 1))) oNo)) [8] (kName 8) cYes e5__law_right)) (aCons (toV (small aNil)) aNil)))) aNil)) (HB.eN gLen (aCons (eVar 1) aNil)) (E (some TD) u8 none none u11) S3 = some (.bl false, S3) := by
    have hsum := sum_lists (st := S3) (fun r : Row => r.1.map fun c => Dt.int (r.2 c)) (lrw w al ord) (by rw [vals_flat, List.length_map]; omega)
    rw [vals_flat] at hsum
    refine v_op (v_N (v_one (v_op (v_toV (v_smallN (v_one (dueZ _ _ _ _ _ _ _)) (by show 1 ≤ _; omega))) (v_N (v_cons (v_toV (v_lc (own := [8]) (v_iE (sDU 1 _ _ _ _ _ _ _) rfl) (vals_due (lrw w al ord)) (by rw [List.length_map, lrl]; omega))) (v_one (v_toV (v_smallN v_nil (by show 0 ≤ _; omega))))) hsum) ?_)) hm2) (v_N (v_one (v_var rfl)) (zLenT h.wz)) ?_
    · show (if [Dt.int (lsk w (sn w ord))].length + ((vals (lrw w al ord)).map fun v : Nat => Dt.int v).length ≤ sizeLine then some (Dt.lst ([Dt.int (lsk w (sn w ord))] ++ (vals (lrw w al ord)).map fun v : Nat => Dt.int v), S3) else none) = _
      rw [if_pos (by rw [List.length_map]; simp; omega)]
      rfl
    · rw [zGt]
      congr 3
      rw [decide_eq_false_iff_not]
      omega
  -- another order
  have z3 : S3[0]? = some (some x.dt) := by
    simp only [S3, S2]
    rw [List.getElem?_set_ne (by omega), List.getElem?_set_ne (by omega)]
    exact z1
  obtain ⟨q, hq, hqn⟩ := modN x (m := n) hn1
  let x1 := (nextN x).2
  have kx1 : x1.k = x.k + 1 := next_k x
  let S4 : Sto := S3.set 0 (some x1.dt)
  have l3 : 0 < S3.length := (List.getElem?_eq_some_iff.mp z3).1
  have z4 : S4[0]? = some (some x1.dt) := by simp only [S4]; rw [List.getElem?_set_self l3]
  obtain ⟨sh, x2, s1, s2, s3⟩ := shuf_int (ord.take q) (by rw [List.length_take]; omega) x1 (by omega)
  let S5 : Sto := S4.set 0 (some x2.dt)
  have z5 : S5[0]? = some (some x2.dt) := by simp only [S5]; rw [List.getElem?_set_self (by simp only [S4]; rw [List.length_set]; exact l3)]
  let ord' := sh ++ ord.drop q
  have hp : ord'.Perm ord := by
    have := s2.append_right (ord.drop q)
    rw [List.take_append_drop] at this
    exact this
  have h' := win_perm h hp
  have e13 : eOp2 gMod (HB.eN gInt (aCons (HB.eN (gF 1 (liftE (fE F__law_next))) (aCons (eVar 0) aNil)) aNil)) (HB.eN gLen (aCons (eVar 2) aNil)) (E (some TD) u8 none none u11) S3 = some (.int (q : Nat), S4) :=
    call_mod (m := n) (v := q) rfl z3 (by omega) (v_N (v_one (v_var rfl)) (by show gLen _ [.lst (ord.map fun p : Nat => .int p)] = _; rw [zLenL, List.length_map])) hn1 hq
  have et : eSl (eVar 2) oNo (oE (eVar 9)) (E (some TD) u8 (some (.int (q : Nat))) none u11) S4 = some (OD (ord.take q), S4) := v_sl (v_var rfl) rfl (v_oE (i := ((q : Nat) : Int)) (v_var rfl)) (by show some (Dt.lst (cutL _ none (some ((q : Nat) : Int)))) = _; rw [cutL_to, ← List.map_take]; rfl)
  have ed : eSl (eVar 2) (oE (eVar 9)) oNo (E (some TD) u8 (some (.int (q : Nat))) none u11) S5 = some (OD (ord.drop q), S5) := v_sl (v_var rfl) (v_oE (i := ((q : Nat) : Int)) (v_var rfl)) rfl (by show some (Dt.lst (cutL _ (some ((q : Nat) : Int)) none)) = _; rw [cutL_from, ← List.map_drop]; rfl)
  have esh : HB.eN (gF 2 (liftE (fE F__law_shuffled))) (aCons (eVar 0) (aCons (eSl (eVar 2) oNo (oE (eVar 9))) aNil)) (E (some TD) u8 (some (.int (q : Nat))) none u11) S4 = some (OD sh, S5) :=
    v_N (v_cons (v_var rfl) (v_one et)) (v_gF rfl (v_Ee (ds := [OD (ord.take q)]) (c := x1.dt) (by simp) z4 rfl s1))
  have e14 : eOp2 gAdd (HB.eN (gF 2 (liftE (fE F__law_shuffled))) (aCons (eVar 0) (aCons (eSl (eVar 2) oNo (oE (eVar 9))) aNil))) (eSl (eVar 2) (oE (eVar 9)) oNo) (E (some TD) u8 (some (.int (q : Nat))) none u11) S4 = some (OD ord', S5) := by
    refine v_op esh ed ?_
    show (if (sh.map fun p : Nat => Dt.int p).length + ((ord.drop q).map fun p : Nat => Dt.int p).length ≤ sizeLine then some (Dt.lst ((sh.map fun p : Nat => Dt.int p) ++ (ord.drop q).map fun p : Nat => Dt.int p), S5) else none) = _
    have hl := hp.length_eq
    simp only [ord'] at hl
    rw [List.length_append] at hl
    rw [if_pos (by rw [List.length_map, List.length_map]; omega), ← List.map_append]
    rfl
  let TS' : Dt := tabD (st0 w ord') (srw w al ord')
  have shl : sh.length = q := by rw [s2.length_eq, List.length_take]; omega
  have dq1 : (srw w al ord').drop q = srows w (sl al) (sn w sh) (ord.drop q) := by
    unfold srw
    rw [srows_drop, List.nil_append]
    simp only [ord']
    rw [List.take_left' shl, List.drop_left' shl]
  have dq2 : (lrw w al ord).drop q = srows w al (sn w (ord.take q)) (ord.drop q) := by
    unfold lrw
    rw [srows_drop, List.nil_append]
  have hsn : (sn w sh).Perm (sn w (ord.take q)) := s2.map _
  have hrq := rows_eq (w := w) 5 (sl_perm al) nd (ord.drop q) (sn w sh) (sn w (ord.take q)) hsn
  have nr : ∀ rows : List Row, noRef (.lst (rows.map rowD)) = true := fun rows => by rw [nrL]; exact noRefs_map fun _ _ => nr_rowD
  have f1 : eOp2 gEqB (eSl (eVar 6) (oE (eOp2 gAdd (eVar 9) (eC (.int 1)))) oNo) (eSl (eVar 5) (oE (eOp2 gAdd (eVar 9) (eC (.int 1)))) oNo) (E (some TS') u8 (some (.int (q : Nat))) (some (OD ord')) u11) S5 = some (.bl true, S5) := by
    refine v_op (x := .lst ((srows w (sl al) (sn w sh) (ord.drop q)).map rowD)) (st1 := S5) (v_sl (v_var rfl) (v_oE (i := ((q + 1 : Nat) : Int)) (v_op (v_var rfl) rfl zAddI)) rfl ?_) (y := .lst ((srows w al (sn w (ord.take q)) (ord.drop q)).map rowD)) (st2 := S5) (v_sl (v_var rfl) (v_oE (i := ((q + 1 : Nat) : Int)) (v_op (v_var rfl) rfl zAddI)) rfl ?_) (eqB_of (nr _) (nr _) rfl hrq).1
    · show some (Dt.lst (cutL (.int (st0 w ord') :: (srw w al ord').map rowD) (some ((q + 1 : Nat) : Int)) none)) = _
      rw [cutL_from, List.drop_succ_cons, ← List.map_drop, dq1]
    · show some (Dt.lst (cutL (.int (lsk w (sn w ord)) :: (lrw w al ord).map rowD) (some ((q + 1 : Nat) : Int)) none)) = _
      rw [cutL_from, List.drop_succ_cons, ← List.map_drop, dq2]
  have f2 : eOp2 gEqB (eOp2 gIx (eVar 6) (eC (.int 0))) (eOp2 gIx (eVar 5) (eC (.int 0))) (E (some TS') u8 (some (.int (q : Nat))) (some (OD ord')) u11) S5 = some (.bl true, S5) := by
    have hl : st0 w ord' = lsk w (sn w ord) := lsk_perm (hp.map _)
    refine v_op (x := .int (st0 w ord' : Nat)) (st1 := S5) (v_op (v_var rfl) rfl (ixL 0 rfl rfl)) (dueZ _ _ _ _ _ _ _) ?_
    rw [hl]
    exact eqII
  have e : g__law_right (startD 12 [.ref 0, .str (tx w), OD ord, .str (tx al)]) [some x.dt] = some (.rt (.bl true) S5) := by
    refine s_seq (r1 := eR w ord al (some KS) none none none none none none none) (st1 := S0) (by exact s_set (kept _ _ _ _ _ _ _ _ _)) ?_
    refine s_seq (r1 := eR w ord al (some KS) (some DU) none none none none none none) (st1 := S0) (by exact s_set (v_N (v_cons (v_var rfl) (v_cons (v_var rfl) (v_one (v_var rfl)))) (v_gF rfl (v_V (by simp) (run_law_safeX h))))) ?_
    refine s_seq (r1 := eR w ord al (some KS) (some DU) (some TD) none none none none none) (st1 := S1) (by exact s_set (v_toV (v_smallN (v_cons sk1 (v_one sk2)) (by show 2 ≤ _; omega)))) ?_
    refine s_seq (s_ifF (t_orF (t_B c1) (t_B (v_op (kept _ _ _ _ _ _ _ _ _) (v_var rfl) neC_S))) rfl) ?_
    refine s_seq (r1 := eR w ord al (some KS) (some DU) (some TD) (some (.int (lsk w (sn w ord)))) none none none none) (st1 := S1) (by exact s_set (dueZ _ _ _ _ _ _ _)) ?_
    refine s_seq (s_for (v_iE (sDU 1 _ _ _ _ _ _ _) rfl) nu) ?_
    refine s_seq (s_ifF (t_B c2) rfl) ?_
    refine s_seq (s_ifF (t_B c3) rfl) ?_
    refine s_seq (s_ifF (t_B c4) rfl) ?_
    refine s_seq s5 ?_
    refine s_seq (s_ifF (t_B c6) rfl) ?_
    refine s_seq s7 ?_
    refine s_seq (s_ifF (t_B c8) rfl) ?_
    refine s_seq (s_ifF (t_B c9) rfl) ?_
    refine s_seq (r1 := E (some TD) u8 (some (.int (q : Nat))) none u11) (st1 := S4) (by exact s_set e13) ?_
    refine s_seq (r1 := E (some TD) u8 (some (.int (q : Nat))) (some (OD ord')) u11) (st1 := S5) (by exact s_set e14) ?_
    refine s_seq (r1 := E (some TS') u8 (some (.int (q : Nat))) (some (OD ord')) u11) (st1 := S5) (by exact s_set (v_N (v_cons (v_var rfl) (v_cons (v_var rfl) (v_one (v_var rfl)))) (v_gF rfl (v_V (by simp) (run_skipsW h'))))) ?_
    exact s_ret (v_and f1 f2)
  refine ⟨x2, fE_of (b_rt0 e) z5 rfl (deref_no rfl), ?_⟩
  rw [s3, List.length_take]
  omega
end
end K81

set_option Elab.async false
set_option linter.all false
set_option maxRecDepth 100000
set_option maxHeartbeats 1000000
namespace K81
open PySem PySem.Spec PyProof.Rows L2 HB
def dst (cs : List Int) : Sto := cs.map fun c => some (drw0 c).dt
theorem draws_lc {r0 r1 r2 r3 r4 r5 : Option Dt} : ∀ (cs done : List Int), lcGo (kName 6) cYes fd_law [r0, r1, r2, r3, r4, r5, none] (cs.map Dt.int) (dst done) = some ((List.range' done.length cs.length).map Dt.ref, dst (done ++ cs))
  | [], done => by rw [List.append_nil]; rfl
  | c :: cs, done => by
    have ih := draws_lc (r0 := r0) (r1 := r1) (r2 := r2) (r3 := r3) (r4 := r4) (r5 := r5) cs (done ++ [c])
    rw [List.length_append, List.append_assoc] at ih
    rw [List.map_cons, List.length_cons, List.range'_succ, List.map_cons]
    have e : fd_law [r0, r1, r2, r3, r4, r5, some (.int c)] (dst done) = some (.ref (dst done).length, dst done ++ [some (drw0 c).dt]) := v_N (v_one (v_var rfl)) (v_gF rfl (v_R (m := fR F__law_draws) (d := (drw0 c).dt) rfl (run_draws c)))
    have e2 : dst done ++ [some (drw0 c).dt] = dst (done ++ [c]) := by simp [dst]
    rw [e2, show (dst done).length = done.length by unfold dst; rw [List.length_map]] at e
    exact lcGo_cons rfl rfl e ih
/-- only slot i of the store is another -/
def Oth (i : Nat) (st st' : Sto) (x' : Drw) : Prop := st'[i]? = some (some x'.dt) ∧ ∀ j, j ≠ i → st'[j]? = st[j]?
theorem Oth.trans {i : Nat} {st st1 st2 : Sto} {x1 x2 : Drw} (h1 : Oth i st st1 x1) (h2 : Oth i st1 st2 x2) : Oth i st st2 x2 := ⟨h2.1, fun j hj => (h2.2 j hj).trans (h1.2 j hj)⟩
theorem Oth.of {i : Nat} {st : Sto} {x x' : Drw} (h : st[i]? = some (some x.dt)) : Oth i st (st.set i (some x'.dt)) x' := ⟨by rw [List.getElem?_set_self (List.getElem?_eq_some_iff.mp h).1], fun j hj => by rw [List.getElem?_set_ne (fun z => hj z.symm)]⟩
theorem body_law {r0 r2 v3 v4 v5 : Option Dt} {i : Nat} {st : Sto} {x : Drw} (hx : x.k = 0) (hi : st[i]? = some (some x.dt)) : ∃ v3' v4' v5' st', gb_law [r0, some (.ref i), r2, v3, v4, v5, none] st = some (.nx [r0, some (.ref i), r2, v3', v4', v5', none] st') ∧ ∀ j, j ≠ i → st'[j]? = st[j]? := by
  obtain ⟨w, al, ord, x1, e1, h, a5, -, k1⟩ := run_window 7 (by omega) (by omega) x (by omega)
  have o1 := Oth.of (x' := x1) hi
  obtain ⟨x2, e2, k2⟩ := run_right h a5 x1 (by omega)
  have o2 := Oth.of (x' := x2) o1.1
  obtain ⟨w', al', ord', x3, e3, h', a5', w4, k3⟩ := run_window 4 (by omega) (by omega) x2 (by omega)
  have o3 := Oth.of (x' := x3) o2.1
  obtain ⟨x4, e4, k4⟩ := run_right h' a5' x3 (by omega)
  have o4 := Oth.of (x' := x4) o3.1
  let E1 : Evr := [r0, some (.ref i), r2, some (.str (tx w)), some (OD ord), some (.str (tx al)), none]
  let E2 : Evr := [r0, some (.ref i), r2, some (.str (tx w')), some (OD ord'), some (.str (tx al')), none]
  let S1 : Sto := st.set i (some x1.dt)
  let S2 : Sto := S1.set i (some x2.dt)
  let S3 : Sto := S2.set i (some x3.dt)
  let S4 : Sto := S3.set i (some x4.dt)
  refine ⟨some (.str (tx w')), some (OD ord'), some (.str (tx al')), S4, ?_, (((o1.trans o2).trans o3).trans o4).2⟩
  have w1 : eN (gF 2 (liftE (fE F__law_window))) (aCons (eVar 1) (aCons (eC (.int 7)) aNil)) [r0, some (.ref i), r2, v3, v4, v5, none] st = some (.tup [.str (tx w), OD ord, .str (tx al)], S1) := v_N (v_cons (v_var rfl) (v_one rfl)) (v_gF rfl (v_Ee (ds := [.int 7]) (c := x.dt) rfl hi rfl e1))
  have w2 : eN (gF 2 (liftE (fE F__law_window))) (aCons (eVar 1) (aCons (eC (.int 4)) aNil)) E1 S2 = some (.tup [.str (tx w'), OD ord', .str (tx al')], S3) := v_N (v_cons (v_var rfl) (v_one rfl)) (v_gF rfl (v_Ee (ds := [.int 4]) (c := x2.dt) rfl o2.1 rfl e3))
  have c1 : eN (gF 4 (liftE (fE F__law_right))) (aCons (eVar 1) (aCons (eVar 3) (aCons (eVar 4) (aCons (eVar 5) aNil)))) E1 S1 = some (.bl true, S2) :=
    v_N (v_cons (v_var rfl) (v_cons (v_var rfl) (v_cons (v_var rfl) (v_one (v_var rfl))))) (v_gF rfl (v_Ee (ds := [.str (tx w), OD ord, .str (tx al)]) (c := x1.dt) (by simp) o1.1 rfl e2))
  have c2 : eN (gF 4 (liftE (fE F__law_right))) (aCons (eVar 1) (aCons (eVar 3) (aCons (eVar 4) (aCons (eVar 5) aNil)))) E2 S3 = some (.bl true, S4) :=
    v_N (v_cons (v_var rfl) (v_cons (v_var rfl) (v_cons (v_var rfl) (v_one (v_var rfl))))) (v_gF rfl (v_Ee (ds := [.str (tx w'), OD ord', .str (tx al')]) (c := x3.dt) (by simp) o3.1 rfl e4))
  have c3 : eN (gF 3 (liftV (fV F__law_small_right))) (aCons (eVar 3) (aCons (eVar 4) (aCons (eVar 5) aNil))) E2 S4 = some (.bl true, S4) :=
    v_N (v_cons (v_var rfl) (v_cons (v_var rfl) (v_one (v_var rfl)))) (v_gF rfl (v_V (by simp) (run_small h' a5' w4)))
  refine s_seq (r1 := E1) (st1 := S1) (s_asg w1 rfl) ?_
  refine s_seq (s_ifF (t_nT (t_B c1)) rfl) ?_
  refine s_seq (r1 := E2) (st1 := S3) (s_asg w2 rfl) ?_
  exact s_ifF (t_orF (t_nT (t_B c2)) (t_nT (t_B c3))) rfl
theorem loop_law {r0 r2 : Option Dt} : ∀ (k i : Nat) (st : Sto) (y z3 z4 z5 : Option Dt), (∀ j, i ≤ j → j < i + k → ∃ x : Drw, x.k = 0 ∧ st[j]? = some (some x.dt)) → ∃ y' z3' z4' z5' st', sForGo (kName 1) gb_law ((List.range' i k).map Dt.ref) [r0, y, r2, z3, z4, z5, none] st = some (.nx [r0, y', r2, z3', z4', z5', none] st')
  | 0, i, st, y, z3, z4, z5, _ => ⟨y, z3, z4, z5, st, rfl⟩
  | k + 1, i, st, y, z3, z4, z5, h => by
    obtain ⟨x, hx, hi⟩ := h i (Nat.le_refl _) (by omega)
    obtain ⟨u3, u4, u5, st1, e1, e2⟩ := body_law (r0 := r0) (r2 := r2) (v3 := z3) (v4 := z4) (v5 := z5) hx hi
    obtain ⟨y', q3, q4, q5, st', e3⟩ := loop_law (r0 := r0) (r2 := r2) k (i + 1) st1 (some (.ref i)) u3 u4 u5 fun j h1 h2 => by
      obtain ⟨w, hw, hj⟩ := h j (by omega) (by omega)
      exact ⟨w, hw, by rw [e2 j (by omega)]; exact hj⟩
    refine ⟨y', q3, q4, q5, st', ?_⟩
    rw [List.range'_succ, List.map_cons]
    exact for_cons (r1 := [r0, some (.ref i), r2, z3, z4, z5, none]) rfl e1 e3
/-! the examples -/
theorem tab_of {t0 t1 : Nat} {rows rows' : List Row} (h0 : t0 = t1) (hk : rows.map (·.1) = rows'.map (·.1)) (hv : rows.map (fun r => r.1.map r.2) = rows'.map (fun r => r.1.map r.2)) : tabD t0 rows = tabD t1 rows' := by
  subst h0
  unfold tabD
  congr 2
  have e : ∀ r : Row, rowD r = (fun q : List Nat × List Nat => Dt.dic (q.1.map fun c => (Sum.inr (sg c) : Key)) (q.2.map fun v : Nat => Dt.int v)) (r.1, r.1.map r.2) := fun r => by
    unfold rowD
    dsimp only
    rw [List.map_map]
    rfl
  have z : ∀ l : List Row, l.map rowD = ((l.map (·.1)).zip (l.map fun r => r.1.map r.2)).map (fun q : List Nat × List Nat => Dt.dic (q.1.map fun c => (Sum.inr (sg c) : Key)) (q.2.map fun v : Nat => Dt.int v)) := fun l => by
    rw [List.zip_map', List.map_map]
    exact List.map_congr_left fun r _ => e r
  rw [z, z, hk, hv]
theorem rows_self (n : Nat) {rows : List Row} (h : ∀ r ∈ rows, r.1.Nodup) : eqQ (n + 3) (.lst (rows.map rowD)) (.lst (rows.map rowD)) = some true := eqQ_maps rows fun r hr => row_eq n (.refl _) (h r hr) fun _ _ => rfl
theorem tab_self {st : Sto} {t : Nat} {rows : List Row} (h : ∀ r ∈ rows, r.1.Nodup) : gEqB st (tabD t rows) (tabD t rows) = some (.bl true, st) ∧ gNeB st (tabD t rows) (tabD t rows) = some (.bl false, st) := eqB_of nr_tabD nr_tabD rfl (eqQ_cons okQ_I (rows_self 5 h))
theorem covA (q : Nat) (h1 : 1 ≤ q) (h2 : q ≤ 3) : q ∈ [3, 2, 1] := by
  have : q = 1 ∨ q = 2 ∨ q = 3 := by omega
  rcases this with z | z | z <;> subst z <;> decide
theorem covB (q : Nat) (h1 : 1 ≤ q) (h2 : q ≤ 4) : q ∈ [2, 4, 1, 3] := by
  have : q = 1 ∨ q = 2 ∨ q = 3 ∨ q = 4 := by omega
  rcases this with z | z | z | z <;> subst z <;> decide
theorem covC (q : Nat) (h1 : 1 ≤ q) (h2 : q ≤ 1) : q ∈ [1] := by
  have : q = 1 := by omega
  subst this
  decide
theorem winA : Win [97, 98, 97] [97, 98] [3, 2, 1] := ⟨by decide, by decide, by decide +kernel, by decide, by decide, by decide, rfl, by decide, by decide, covA⟩
theorem winB : Win [97, 98, 97, 98] [99, 97, 98] [2, 4, 1, 3] := ⟨by decide, by decide, by decide +kernel, by decide, by decide, by decide, rfl, by decide, by decide, covB⟩
theorem winB2 : Win [97, 98, 97, 98] [97, 98, 99] [2, 4, 1, 3] := ⟨by decide, by decide, by decide +kernel, by decide, by decide, by decide, rfl, by decide, by decide, covB⟩
theorem winC : Win [97] [97] [1] := ⟨by decide, by decide, by decide +kernel, by decide, by decide, by decide, rfl, by decide, by decide, covC⟩
theorem slA : sl [97, 98] = [97, 98] := by
  unfold sl sortS
  rw [List.mergeSort_of_pairwise (by decide +kernel)]
  rfl
theorem slB2 : sl [97, 98, 99] = [97, 98, 99] := by
  unfold sl sortS
  rw [List.mergeSort_of_pairwise (by decide +kernel)]
  rfl
theorem slB : sl [99, 97, 98] = [97, 98, 99] := by
  have hp : ([99, 97, 98] : List Nat).Perm [97, 98, 99] := by decide
  have e : sortS (([99, 97, 98] : List Nat).map sg) = sortS (([97, 98, 99] : List Nat).map sg) := sortS_of_perm (hp.map sg)
  have := slB2
  unfold sl at this ⊢
  rw [e]
  exact this
theorem slC : sl [97] = [97] := by
  unfold sl sortS
  rw [List.mergeSort_of_pairwise (by decide +kernel)]
  rfl
def rA : List Row := [([98], fun _ => 1), ([97], fun _ => 2), ([98], fun _ => 2)]
def rB : List Row := [([97, 99], fun c => if c = 97 then 1 else 2), ([97, 99], fun c => if c = 97 then 3 else 4), ([98, 99], fun _ => 2), ([98, 99], fun _ => 4)]
def rC : List Row := [([], fun _ => 0)]
theorem tA : tabD (st0 [97, 98, 97] [3, 2, 1]) (srw [97, 98, 97] [97, 98] [3, 2, 1]) = tabD 2 rA := by
  unfold srw
  rw [slA]
  exact tab_of (by decide +kernel) (by decide +kernel) (by decide +kernel)
theorem tB : tabD (st0 [97, 98, 97, 98] [2, 4, 1, 3]) (srw [97, 98, 97, 98] [99, 97, 98] [2, 4, 1, 3]) = tabD 2 rB := by
  unfold srw
  rw [slB]
  exact tab_of (by decide +kernel) (by decide +kernel) (by decide +kernel)
theorem tC : tabD (st0 [97] [1]) (srw [97] [97] [1]) = tabD 1 rC := by
  unfold srw
  rw [slC]
  exact tab_of (by decide +kernel) (by decide +kernel) (by decide +kernel)
theorem nB : st0 [97, 98, 97, 98] [2, 4, 1, 3] * prdL (srw [97, 98, 97, 98] [97, 98, 99] [2, 4, 1, 3]) = 3072 := by
  unfold srw
  rw [slB2]
  decide +kernel
theorem nA : st0 [97, 98, 97] [3, 2, 1] * prdL (srw [97, 98, 97] [97, 98] [3, 2, 1]) = 8 := by
  unfold srw
  rw [slA]
  decide +kernel
section
variable {E : Evr} {st : Sto}
theorem ab0 : aCons (eC (.str "aba")) (aCons (toV (small (aCons (eC (.int 3)) (aCons (eC (.int 2)) (aCons (eC (.int 1)) aNil))))) (aCons (eC (.str "ab")) aNil)) E st = some ([.str (tx [97, 98, 97]), OD [3, 2, 1], .str (tx [97, 98])], st) := by
  have hz := line_ge
  exact v_cons rfl (v_cons (v_toV (v_smallN (v_cons rfl (v_cons rfl (v_one rfl))) (by show 3 ≤ _; omega))) (v_one rfl))
theorem ab1 {z : Str} {l : List Nat} (hl : z = tx l) : aCons (eC (.str "abab")) (aCons (toV (small (aCons (eC (.int 2)) (aCons (eC (.int 4)) (aCons (eC (.int 1)) (aCons (eC (.int 3)) aNil)))))) (aCons (eC (.str z)) aNil)) E st = some ([.str (tx [97, 98, 97, 98]), OD [2, 4, 1, 3], .str (tx l)], st) := by
  have hz := line_ge
  subst hl
  exact v_cons rfl (v_cons (v_toV (v_smallN (v_cons rfl (v_cons rfl (v_cons rfl (v_one rfl)))) (by show 4 ≤ _; omega))) (v_one rfl))
theorem ab2 : aCons (eC (.str "a")) (aCons (toV (small (aCons (eC (.int 1)) aNil))) (aCons (eC (.str "a")) aNil)) E st = some ([.str (tx [97]), OD [1], .str (tx [97])], st) := by
  have hz := line_ge
  exact v_cons rfl (v_cons (v_toV (v_smallN (v_one rfl) (by show 1 ≤ _; omega))) (v_one rfl))
theorem d1b : dToV (eDisp [((eC (.str "b")), (eC (.int 1)))]) E st = some (rowD ([98], fun _ => 1), st) := rfl
theorem d2a : dToV (eDisp [((eC (.str "a")), (eC (.int 2)))]) E st = some (rowD ([97], fun _ => 2), st) := rfl
theorem d2b : dToV (eDisp [((eC (.str "b")), (eC (.int 2)))]) E st = some (rowD ([98], fun _ => 2), st) := rfl
theorem e1 : dToV (eDisp [((eC (.str "a")), (eC (.int 1))), ((eC (.str "c")), (eC (.int 2)))]) E st = some (rowD ([97, 99], fun c => if c = 97 then 1 else 2), st) := rfl
theorem e2 : dToV (eDisp [((eC (.str "a")), (eC (.int 3))), ((eC (.str "c")), (eC (.int 4)))]) E st = some (rowD ([97, 99], fun c => if c = 97 then 3 else 4), st) := rfl
theorem e3 : dToV (eDisp [((eC (.str "b")), (eC (.int 2))), ((eC (.str "c")), (eC (.int 2)))]) E st = some (rowD ([98, 99], fun _ => 2), st) := rfl
theorem e4 : dToV (eDisp [((eC (.str "b")), (eC (.int 4))), ((eC (.str "c")), (eC (.int 4)))]) E st = some (rowD ([98, 99], fun _ => 4), st) := rfl
theorem and2 {fa fb : SE} {st1 : Sto} (a1 : fa E st = some (.bl true, st1)) (a2 : fb E st1 = some (.bl true, st1)) : sRet (eAndV fa fb) E st = some (.rt (.bl true) st1) := s_ret (v_and a1 a2)
end
theorem gr_ok (r0 r1 r2 r3 r4 r5 : Option Dt) (st : Sto) : ∃ st', gr_law [r0, r1, r2, r3, r4, r5, none] st = some (.rt (.bl true) st') := by
  have hz := line_ge
  let E : Evr := [r0, r1, r2, r3, r4, r5, none]
  let E2 : Evr := [r0, r1, some (tabD 2 rB), r3, r4, r5, none]
  have fA := run_skipsW winA
  rw [tA] at fA
  have fB := run_skipsW winB
  rw [tB] at fB
  have fC := run_skipsW winC
  rw [tC] at fC
  have cA := run_count winA
  rw [nA] at cA
  have cB2 := run_count winB2
  rw [nB] at cB2
  have a1 : eOp2 gNeB (eN (gF 3 (liftV (fW F_safe_skips))) (aCons (eC (.str "aba")) (aCons (toV (small (aCons (eC (.int 3)) (aCons (eC (.int 2)) (aCons (eC (.int 1)) aNil))))) (aCons (eC (.str "ab")) aNil)))) (toV (small (aCons (eC (.int 2)) (aCons (dToV (eDisp [((eC (.str "b")), (eC (.int 1)))])) (aCons (dToV (eDisp [((eC (.str "a")), (eC (.int 2)))])) (aCons (dToV (eDisp [((eC (.str "b")), (eC (.int 2)))])) aNil)))))) E st = some (.bl false, st) :=
    v_op (x := tabD 2 rA) (y := tabD 2 rA) (st1 := st) (st2 := st) (v_N ab0 (v_gF rfl (v_V (by simp) fA))) (v_toV (v_smallN (v_cons rfl (v_cons d1b (v_cons d2a (v_one d2b)))) (by show 4 ≤ _; omega))) (tab_self (by unfold rA; simp)).2
  have a2 : toV (small (aCons (eC (.int 2)) (aCons (dToV (eDisp [((eC (.str "a")), (eC (.int 1))), ((eC (.str "c")), (eC (.int 2)))])) (aCons (dToV (eDisp [((eC (.str "a")), (eC (.int 3))), ((eC (.str "c")), (eC (.int 4)))])) (aCons (dToV (eDisp [((eC (.str "b")), (eC (.int 2))), ((eC (.str "c")), (eC (.int 2)))])) (aCons (dToV (eDisp [((eC (.str "b")), (eC (.int 4))), ((eC (.str "c")), (eC (.int 4)))])) aNil)))))) E st = some (tabD 2 rB, st) :=
    v_toV (v_smallN (v_cons rfl (v_cons K81.e1 (v_cons K81.e2 (v_cons K81.e3 (v_one K81.e4))))) (by show 5 ≤ _; omega))
  have a3 : eOp2 gNeB (eN (gF 3 (liftV (fW F_safe_skips))) (aCons (eC (.str "abab")) (aCons (toV (small (aCons (eC (.int 2)) (aCons (eC (.int 4)) (aCons (eC (.int 1)) (aCons (eC (.int 3)) aNil)))))) (aCons (eC (.str "cab")) aNil)))) (eVar 2) E2 st = some (.bl false, st) :=
    v_op (x := tabD 2 rB) (y := tabD 2 rB) (st1 := st) (st2 := st) (v_N (ab1 (l := [99, 97, 98]) rfl) (v_gF rfl (v_V (by simp) fB))) (v_var rfl) (tab_self (by unfold rB; simp)).2
  have a4 : eOp2 gNeB (eN (gF 3 (liftV (fV F_count_right_skips))) (aCons (eC (.str "abab")) (aCons (toV (small (aCons (eC (.int 2)) (aCons (eC (.int 4)) (aCons (eC (.int 1)) (aCons (eC (.int 3)) aNil)))))) (aCons (eC (.str "abc")) aNil)))) (eC (.int 3072)) E2 st = some (.bl false, st) :=
    v_op (x := .int (3072 : Nat)) (y := .int 3072) (st1 := st) (st2 := st) (v_N (ab1 (l := [97, 98, 99]) rfl) (v_gF rfl (v_V (by simp) cB2))) rfl neII
  let S1 : Sto := (st ++ [some (Dt.dic [] [])]).set st.length none
  have a5 : eOp2 gEqB (eN (gF 3 (liftV (fW F_safe_skips))) (aCons (eC (.str "a")) (aCons (toV (small (aCons (eC (.int 1)) aNil))) (aCons (eC (.str "a")) aNil)))) (toV (small (aCons (eC (.int 1)) (aCons (eFrz eDR) aNil)))) E2 st = some (.bl true, S1) := by
    have hf : eFrz eDR E2 st = some (.dic [] [], S1) := v_frz (k := st.length) (d := .dic [] []) (st1 := st ++ [some (.dic [] [])]) rfl (by simp)
    exact v_op (x := tabD 1 rC) (y := tabD 1 rC) (st1 := st) (st2 := S1) (v_N ab2 (v_gF rfl (v_V (by simp) fC))) (v_toV (v_smallN (v_cons rfl (v_one hf)) (by show 2 ≤ _; omega))) (tab_self (by unfold rC; simp)).1
  have a6 : eOp2 gEqB (eN (gF 3 (liftV (fV F_count_right_skips))) (aCons (eC (.str "aba")) (aCons (toV (small (aCons (eC (.int 3)) (aCons (eC (.int 2)) (aCons (eC (.int 1)) aNil))))) (aCons (eC (.str "ab")) aNil)))) (eC (.int 8)) E2 S1 = some (.bl true, S1) :=
    v_op (x := .int (8 : Nat)) (y := .int 8) (st1 := S1) (st2 := S1) (v_N ab0 (v_gF rfl (v_V (by simp) cA))) rfl eqII
  refine ⟨S1, ?_⟩
  refine s_seq (s_ifF (t_B a1) rfl) ?_
  refine s_seq (r1 := E2) (st1 := st) (s_set a2) ?_
  refine s_seq (s_ifF (t_orF (t_B a3) (t_B a4)) rfl) ?_
  exact and2 a5 a6
theorem law_ok (ns : List Int) : ∃ st', gLaw 1 6 4 fz_law fd_law gb_law gr_law ns (List.replicate 7 none) [] = some (.rt (.bl true) st') := by
  let cs : List Int := ns.take 4 ++ [0]
  have hl : cs.length ≤ 5 := by show (ns.take 4 ++ [0]).length ≤ 5; simp; omega
  have hz := line_ge
  rw [show List.replicate 7 (none : Option Dt) = [none, none, none, none, none, none, none] from rfl]
  have e1 : eOp2 gAdd (eScr 4 ns) fz_law [none, none, none, none, none, none, none] [] = some (.lst (cs.map Dt.int), []) := by
    have c : cutL (ns.map Dt.int) none (some 4) = (ns.take 4).map Dt.int := cutL_map Dt.int ns 4
    refine v_op (x := .lst ((ns.take 4).map Dt.int)) (st1 := []) (by unfold eScr; rw [c]) (y := .lst [.int 0]) (st2 := []) rfl ?_
    show (if ((ns.take 4).map Dt.int).length + [Dt.int 0].length ≤ sizeLine then some (Dt.lst ((ns.take 4).map Dt.int ++ [Dt.int 0]), ([] : Sto)) else none) = _
    rw [if_pos (by rw [List.length_map, List.length_take]; show _ + 1 ≤ _; omega)]
    show _ = some (Dt.lst ((ns.take 4 ++ [0]).map Dt.int), [])
    rw [List.map_append]
    rfl
  have e2 : lc (iE itL (eOp2 gAdd (eScr 4 ns) fz_law)) [6] (kName 6) cYes fd_law [none, none, none, none, none, none, none] [] = some ((List.range' 0 cs.length).map Dt.ref, dst cs) := by
    unfold lc
    rw [v_iE e1 (xs := cs.map Dt.int) rfl]
    have d := draws_lc (r0 := none) (r1 := none) (r2 := none) (r3 := none) (r4 := none) (r5 := none) cs []
    show ((lcGo (kName 6) cYes fd_law [none, none, none, none, none, none, none] (cs.map Dt.int) (dst [])).bind fun z => if z.1.length ≤ sizeLine then some z else none) = _
    rw [d]
    refine if_pos ?_
    rw [List.length_map, List.length_range']
    omega
  obtain ⟨y', z3, z4, z5, st', e3⟩ := loop_law (r0 := none) (r2 := none) cs.length 0 (dst cs) none none none none fun j _ h2 => by
    have hj : j < cs.length := by omega
    refine ⟨drw0 cs[j], rfl, ?_⟩
    unfold dst
    rw [List.getElem?_map, List.getElem?_eq_getElem hj]
    rfl
  obtain ⟨st'', e4⟩ := gr_ok none y' none z3 z4 z5 st'
  refine ⟨st'', ?_⟩
  unfold gLaw
  exact s_seq (s_for (v_iE (v_toV e2) rfl) e3) e4
end K81

set_option Elab.async false
set_option linter.all false
set_option maxRecDepth 100000
set_option maxHeartbeats 0
/-! printed by ph.py: the head's facts by names, the defs joined. -/
namespace K81
open PySem PySem.Spec PyProof.Rows L2 HB
def d_is_whole : He.DefD := ⟨("is_whole", none), "is_whole", "is_whole", defArgs s_is_whole, defBody s_is_whole, defScope s_is_whole, [], []⟩
def d_is_letter : He.DefD := ⟨("is_letter", none), "is_letter", "is_letter", defArgs s_is_letter, defBody s_is_letter, defScope s_is_letter, [], []⟩
def d_check_words : He.DefD := ⟨("check_words", none), "check_words", "check_words", defArgs s_check_words, defBody s_check_words, defScope s_check_words, [], []⟩
def d_check_letters : He.DefD := ⟨("check_letters", none), "check_letters", "check_letters", defArgs s_check_letters, defBody s_check_letters, defScope s_check_letters, [], []⟩
def d_check_order : He.DefD := ⟨("check_order", none), "check_order", "check_order", defArgs s_check_order, defBody s_check_order, defScope s_check_order, [], []⟩
def d_check_window : He.DefD := ⟨("check_window", none), "check_window", "check_window", defArgs s_check_window, defBody s_check_window, defScope s_check_window, [], []⟩
def d_fits : He.DefD := ⟨("fits", none), "fits", "fits", defArgs s_fits, defBody s_fits, defScope s_fits, [], []⟩
def d_safe_skip : He.DefD := ⟨("safe_skip", none), "safe_skip", "safe_skip", defArgs s_safe_skip, defBody s_safe_skip, defScope s_safe_skip, [], []⟩
def d_safe_in : He.DefD := ⟨("safe_in", none), "safe_in", "safe_in", defArgs s_safe_in, defBody s_safe_in, defScope s_safe_in, [], []⟩
def d_entries_of : He.DefD := ⟨("entries_of", none), "entries_of", "entries_of", defArgs s_entries_of, defBody s_entries_of, defScope s_entries_of, [], []⟩
def d_safe_skips : He.DefD := ⟨("safe_skips", none), "safe_skips", "safe_skips", defArgs s_safe_skips, defBody s_safe_skips, defScope s_safe_skips, [], []⟩
def d_count_right_skips : He.DefD := ⟨("count_right_skips", none), "count_right_skips", "count_right_skips", defArgs s_count_right_skips, defBody s_count_right_skips, defScope s_count_right_skips, [], []⟩
def d__law_draws : He.DefD := ⟨("_law_draws", none), "_law_draws", "_law_draws", defArgs s__law_draws, defBody s__law_draws, defScope s__law_draws, [], []⟩
def d__law_next : He.DefD := ⟨("_law_next", none), "_law_next", "_law_next", defArgs s__law_next, defBody s__law_next, defScope s__law_next, [], []⟩
def d__law_shuffled : He.DefD := ⟨("_law_shuffled", none), "_law_shuffled", "_law_shuffled", defArgs s__law_shuffled, defBody s__law_shuffled, defScope s__law_shuffled, [], []⟩
def d__law_window : He.DefD := ⟨("_law_window", none), "_law_window", "_law_window", defArgs s__law_window, defBody s__law_window, defScope s__law_window, [], []⟩
def d__law_least : He.DefD := ⟨("_law_least", none), "_law_least", "_law_least", defArgs s__law_least, defBody s__law_least, defScope s__law_least, [], []⟩
def d__law_safe : He.DefD := ⟨("_law_safe", none), "_law_safe", "_law_safe", defArgs s__law_safe, defBody s__law_safe, defScope s__law_safe, [], []⟩
def d__law_texts : He.DefD := ⟨("_law_texts", none), "_law_texts", "_law_texts", defArgs s__law_texts, defBody s__law_texts, defScope s__law_texts, [], []⟩
def d__law_first : He.DefD := ⟨("_law_first", none), "_law_first", "_law_first", defArgs s__law_first, defBody s__law_first, defScope s__law_first, [], []⟩
def d__law_small_right : He.DefD := ⟨("_law_small_right", none), "_law_small_right", "_law_small_right", defArgs s__law_small_right, defBody s__law_small_right, defScope s__law_small_right, [], []⟩
def d__law_right : He.DefD := ⟨("_law_right", none), "_law_right", "_law_right", defArgs s__law_right, defBody s__law_right, defScope s__law_right, [], []⟩
def d_law : He.DefD := ⟨("law", none), "law", "law", defArgs s_law, defBody s_law, defScope s_law, [], []⟩
def fns : List He.DefD := [d_is_whole, d_is_letter, d_check_words, d_check_letters, d_check_order, d_check_window, d_fits, d_safe_skip, d_safe_in, d_entries_of, d_safe_skips, d_count_right_skips, d__law_draws, d__law_next, d__law_shuffled, d__law_window, d__law_least, d__law_safe, d__law_texts, d__law_first, d__law_small_right, d__law_right, d_law]
def fas : List He.Fa := [.glo "is_whole", .glo "is_letter", .glo "check_words", .glo "check_letters", .glo "check_order", .glo "check_window", .glo "fits", .glo "safe_skip", .glo "safe_in", .glo "entries_of", .glo "safe_skips", .glo "count_right_skips", .glo "_law_draws", .glo "_law_next", .glo "_law_shuffled", .glo "_law_window", .glo "_law_least", .glo "_law_safe", .glo "_law_texts", .glo "_law_first", .glo "_law_small_right", .glo "_law_right", .glo "law", .free "all", .free "bool", .free "dict", .free "enumerate", .free "int", .free "isinstance", .free "len", .free "list", .free "max", .free "range", .free "repr", .free "sorted", .free "str", .free "sum", .int "MOST_LETTERS" 7, .int "MOST_WORDS" 5]
abbrev hk : PySem.W.Hook := hookT 2 fas fns []
def ob (s : PySem.W.SharedT) : He.AlD × Bool := obT 2 fas fns [] (HandSHeadRun.getT s)
theorem ob_eq (s : PySem.W.SharedT) : ob s = hk.obs s.abs := obT_eq (HandSHeadRun.getT_eq s)
abbrev R : PySem.W.OpenRow := PySem.W.OpenLaw.row PySem.Challenge.rw_halfback_k81_whole_safe_skips
def loose : List Str := (["InvalidWords", "InvalidLetters", "InvalidOrder", "MOST_WORDS", "MOST_LETTERS", "is_whole", "is_letter", "check_words", "check_letters", "check_order", "check_window", "fits", "safe_skip", "safe_in", "entries_of", "safe_skips", "count_right_skips", "_law_draws", "_law_next", "_law_shuffled"] : List Str) ++ (["_law_window", "_law_least", "_law_safe", "_law_rows", "_law_texts", "_law_first", "_law_small_right", "_law_right"] : List Str)
theorem run (w : World) : HandSHeadRun.RunEq R (PySem.W.view R.prog [32]) hk ob 4000 loose w := by
  intro os
  kernel_rfl
theorem facts {w : World} {K : PySem.W.Frag} {h : Heap} {mg : Str → Option Value} {f : Addr} (X : K.In h) (G : h.Ns mainGlobals mg) (hfa : mg ("law" : Str) = some (.ref f)) (c : He.SaysD fas fns K) (tb : ∀ x ∈ ([] : List Str), ∃ c R, TabD K h x c R) :
    LawAt PySem.Challenge.rw_halfback_k81_whole_safe_skips w K 6 63 "_law_script" mg f h := by
  obtain ⟨fd_is_whole, D_is_whole⟩ := c.def_ 0 (d := d_is_whole) rfl
  obtain ⟨fd_is_letter, D_is_letter⟩ := c.def_ 1 (d := d_is_letter) rfl
  obtain ⟨fd_check_words, D_check_words⟩ := c.def_ 2 (d := d_check_words) rfl
  obtain ⟨fd_check_letters, D_check_letters⟩ := c.def_ 3 (d := d_check_letters) rfl
  obtain ⟨fd_check_order, D_check_order⟩ := c.def_ 4 (d := d_check_order) rfl
  obtain ⟨fd_check_window, D_check_window⟩ := c.def_ 5 (d := d_check_window) rfl
  obtain ⟨fd_fits, D_fits⟩ := c.def_ 6 (d := d_fits) rfl
  obtain ⟨fd_safe_skip, D_safe_skip⟩ := c.def_ 7 (d := d_safe_skip) rfl
  obtain ⟨fd_safe_in, D_safe_in⟩ := c.def_ 8 (d := d_safe_in) rfl
  obtain ⟨fd_entries_of, D_entries_of⟩ := c.def_ 9 (d := d_entries_of) rfl
  obtain ⟨fd_safe_skips, D_safe_skips⟩ := c.def_ 10 (d := d_safe_skips) rfl
  obtain ⟨fd_count_right_skips, D_count_right_skips⟩ := c.def_ 11 (d := d_count_right_skips) rfl
  obtain ⟨fd__law_draws, D__law_draws⟩ := c.def_ 12 (d := d__law_draws) rfl
  obtain ⟨fd__law_next, D__law_next⟩ := c.def_ 13 (d := d__law_next) rfl
  obtain ⟨fd__law_shuffled, D__law_shuffled⟩ := c.def_ 14 (d := d__law_shuffled) rfl
  obtain ⟨fd__law_window, D__law_window⟩ := c.def_ 15 (d := d__law_window) rfl
  obtain ⟨fd__law_least, D__law_least⟩ := c.def_ 16 (d := d__law_least) rfl
  obtain ⟨fd__law_safe, D__law_safe⟩ := c.def_ 17 (d := d__law_safe) rfl
  obtain ⟨fd__law_texts, D__law_texts⟩ := c.def_ 18 (d := d__law_texts) rfl
  obtain ⟨fd__law_first, D__law_first⟩ := c.def_ 19 (d := d__law_first) rfl
  obtain ⟨fd__law_small_right, D__law_small_right⟩ := c.def_ 20 (d := d__law_small_right) rfl
  obtain ⟨fd__law_right, D__law_right⟩ := c.def_ 21 (d := d__law_right) rfl
  obtain ⟨fd_law, D_law⟩ := c.def_ 22 (d := d_law) rfl
  have m_is_whole_ : mg "is_whole" = some (.ref (He.ga K "is_whole")) := He.glo_ok X G (c.fact 0 (f := .glo "is_whole") rfl)
  have m_is_letter_ : mg "is_letter" = some (.ref (He.ga K "is_letter")) := He.glo_ok X G (c.fact 1 (f := .glo "is_letter") rfl)
  have m_check_words_ : mg "check_words" = some (.ref (He.ga K "check_words")) := He.glo_ok X G (c.fact 2 (f := .glo "check_words") rfl)
  have m_check_letters_ : mg "check_letters" = some (.ref (He.ga K "check_letters")) := He.glo_ok X G (c.fact 3 (f := .glo "check_letters") rfl)
  have m_check_order_ : mg "check_order" = some (.ref (He.ga K "check_order")) := He.glo_ok X G (c.fact 4 (f := .glo "check_order") rfl)
  have m_check_window_ : mg "check_window" = some (.ref (He.ga K "check_window")) := He.glo_ok X G (c.fact 5 (f := .glo "check_window") rfl)
  have m_fits_ : mg "fits" = some (.ref (He.ga K "fits")) := He.glo_ok X G (c.fact 6 (f := .glo "fits") rfl)
  have m_safe_skip_ : mg "safe_skip" = some (.ref (He.ga K "safe_skip")) := He.glo_ok X G (c.fact 7 (f := .glo "safe_skip") rfl)
  have m_safe_in_ : mg "safe_in" = some (.ref (He.ga K "safe_in")) := He.glo_ok X G (c.fact 8 (f := .glo "safe_in") rfl)
  have m_entries_of_ : mg "entries_of" = some (.ref (He.ga K "entries_of")) := He.glo_ok X G (c.fact 9 (f := .glo "entries_of") rfl)
  have m_safe_skips_ : mg "safe_skips" = some (.ref (He.ga K "safe_skips")) := He.glo_ok X G (c.fact 10 (f := .glo "safe_skips") rfl)
  have m_count_right_skips_ : mg "count_right_skips" = some (.ref (He.ga K "count_right_skips")) := He.glo_ok X G (c.fact 11 (f := .glo "count_right_skips") rfl)
  have m__law_draws_ : mg "_law_draws" = some (.ref (He.ga K "_law_draws")) := He.glo_ok X G (c.fact 12 (f := .glo "_law_draws") rfl)
  have m__law_next_ : mg "_law_next" = some (.ref (He.ga K "_law_next")) := He.glo_ok X G (c.fact 13 (f := .glo "_law_next") rfl)
  have m__law_shuffled_ : mg "_law_shuffled" = some (.ref (He.ga K "_law_shuffled")) := He.glo_ok X G (c.fact 14 (f := .glo "_law_shuffled") rfl)
  have m__law_window_ : mg "_law_window" = some (.ref (He.ga K "_law_window")) := He.glo_ok X G (c.fact 15 (f := .glo "_law_window") rfl)
  have m__law_least_ : mg "_law_least" = some (.ref (He.ga K "_law_least")) := He.glo_ok X G (c.fact 16 (f := .glo "_law_least") rfl)
  have m__law_safe_ : mg "_law_safe" = some (.ref (He.ga K "_law_safe")) := He.glo_ok X G (c.fact 17 (f := .glo "_law_safe") rfl)
  have m__law_texts_ : mg "_law_texts" = some (.ref (He.ga K "_law_texts")) := He.glo_ok X G (c.fact 18 (f := .glo "_law_texts") rfl)
  have m__law_first_ : mg "_law_first" = some (.ref (He.ga K "_law_first")) := He.glo_ok X G (c.fact 19 (f := .glo "_law_first") rfl)
  have m__law_small_right_ : mg "_law_small_right" = some (.ref (He.ga K "_law_small_right")) := He.glo_ok X G (c.fact 20 (f := .glo "_law_small_right") rfl)
  have m__law_right_ : mg "_law_right" = some (.ref (He.ga K "_law_right")) := He.glo_ok X G (c.fact 21 (f := .glo "_law_right") rfl)
  have m_law_ : mg "law" = some (.ref (He.ga K "law")) := He.glo_ok X G (c.fact 22 (f := .glo "law") rfl)
  have n_all : mg "all" = none := He.free_ok X G (c.fact 23 (f := .free "all") rfl)
  have n_bool : mg "bool" = none := He.free_ok X G (c.fact 24 (f := .free "bool") rfl)
  have n_dict : mg "dict" = none := He.free_ok X G (c.fact 25 (f := .free "dict") rfl)
  have n_enumerate : mg "enumerate" = none := He.free_ok X G (c.fact 26 (f := .free "enumerate") rfl)
  have n_int : mg "int" = none := He.free_ok X G (c.fact 27 (f := .free "int") rfl)
  have n_isinstance : mg "isinstance" = none := He.free_ok X G (c.fact 28 (f := .free "isinstance") rfl)
  have n_len : mg "len" = none := He.free_ok X G (c.fact 29 (f := .free "len") rfl)
  have n_list : mg "list" = none := He.free_ok X G (c.fact 30 (f := .free "list") rfl)
  have n_max : mg "max" = none := He.free_ok X G (c.fact 31 (f := .free "max") rfl)
  have n_range : mg "range" = none := He.free_ok X G (c.fact 32 (f := .free "range") rfl)
  have n_repr : mg "repr" = none := He.free_ok X G (c.fact 33 (f := .free "repr") rfl)
  have n_sorted : mg "sorted" = none := He.free_ok X G (c.fact 34 (f := .free "sorted") rfl)
  have n_str : mg "str" = none := He.free_ok X G (c.fact 35 (f := .free "str") rfl)
  have n_sum : mg "sum" = none := He.free_ok X G (c.fact 36 (f := .free "sum") rfl)
  obtain ⟨t_MOST_LETTERS, i_MOST_LETTERS⟩ := He.int_ok X G (c.fact 37 (f := .int "MOST_LETTERS" 7) rfl)
  obtain ⟨t_MOST_WORDS, i_MOST_WORDS⟩ := He.int_ok X G (c.fact 38 (f := .int "MOST_WORDS" 5) rfl)
  have e := hfa.symm.trans m_law_
  cases e
  have bl := FunD.bindsA (ps := ["_law_script"]) D_law fun _ _ _ _ _ _ us hl => match us, hl with | [_], _ => rfl
  refine ⟨fd_law, [], SpL [] K fun _ => True, ?_, ?_, ?_, fun s u => bl s [u] rfl, fun H a ns _ _ hH hS => ⟨a, ns, rfl, ?_, hS, trivial, fun _ => rfl⟩, fun base KB GB TB => ?_⟩
  · intro p hp; simp at hp
  · intro p hp; simp at hp
  · intro p hp; simp at hp
  · intro p hp; simp at hp
  have G_is_whole := ok_is_whole (T := []) (P := PySem.Challenge.pw_halfback_k81_whole_safe_skips) (w := w) (mg := mg) (base := base) D_is_whole n_bool n_int n_isinstance
  have cV_is_whole := GP.of D_is_whole m_is_whole_ (gfn_V G_is_whole) (fun _ _ _ _ _ _ us hl => match us, hl with | [_], _ => rfl)
  have G_is_letter := ok_is_letter (T := []) (P := PySem.Challenge.pw_halfback_k81_whole_safe_skips) (w := w) (mg := mg) (base := base) D_is_letter 
  have cV_is_letter := GP.of D_is_letter m_is_letter_ (gfn_V G_is_letter) (fun _ _ _ _ _ _ us hl => match us, hl with | [_], _ => rfl)
  have G_check_words := ok_check_words (T := []) (P := PySem.Challenge.pw_halfback_k81_whole_safe_skips) (w := w) (mg := mg) (base := base) D_check_words cV_is_letter n_all n_enumerate n_isinstance n_len n_list n_str i_MOST_LETTERS i_MOST_WORDS
  have cV_check_words := GP.of D_check_words m_check_words_ (gfn_V G_check_words) (fun _ _ _ _ _ _ us hl => match us, hl with | [_], _ => rfl)
  have G_check_letters := ok_check_letters (T := []) (P := PySem.Challenge.pw_halfback_k81_whole_safe_skips) (w := w) (mg := mg) (base := base) D_check_letters cV_is_letter n_all n_enumerate n_isinstance n_str
  have cV_check_letters := GP.of D_check_letters m_check_letters_ (gfn_V G_check_letters) (fun _ _ _ _ _ _ us hl => match us, hl with | [_, _], _ => rfl)
  have G_check_order := ok_check_order (T := []) (P := PySem.Challenge.pw_halfback_k81_whole_safe_skips) (w := w) (mg := mg) (base := base) D_check_order cV_is_whole n_enumerate n_isinstance n_len n_list
  have cV_check_order := GP.of D_check_order m_check_order_ (gfn_V G_check_order) (fun _ _ _ _ _ _ us hl => match us, hl with | [_, _], _ => rfl)
  have G_check_window := ok_check_window (T := []) (P := PySem.Challenge.pw_halfback_k81_whole_safe_skips) (w := w) (mg := mg) (base := base) D_check_window cV_check_words cV_check_order cV_check_letters
  have cV_check_window := GP.of D_check_window m_check_window_ (gfn_V G_check_window) (fun _ _ _ _ _ _ us hl => match us, hl with | [_, _, _], _ => rfl)
  have G_fits := ok_fits (T := []) (P := PySem.Challenge.pw_halfback_k81_whole_safe_skips) (w := w) (mg := mg) (base := base) D_fits n_all
  have cV_fits := GP.of D_fits m_fits_ (gfn_V G_fits) (fun _ _ _ _ _ _ us hl => match us, hl with | [_, _, _], _ => rfl)
  have G_safe_skip := ok_safe_skip (T := []) (P := PySem.Challenge.pw_halfback_k81_whole_safe_skips) (w := w) (mg := mg) (base := base) D_safe_skip cV_fits n_len n_range
  have cV_safe_skip := GP.of D_safe_skip m_safe_skip_ (gfn_V G_safe_skip) (fun _ _ _ _ _ _ us hl => match us, hl with | [_, _], _ => rfl)
  have G_safe_in := ok_safe_in (T := []) (P := PySem.Challenge.pw_halfback_k81_whole_safe_skips) (w := w) (mg := mg) (base := base) D_safe_in cV_safe_skip n_sorted
  have cW_safe_in := GP.of D_safe_in m_safe_in_ (gfn_W G_safe_in) (fun _ _ _ _ _ _ us hl => match us, hl with | [_, _, _], _ => rfl)
  have craw_safe_in := GP.of D_safe_in m_safe_in_ G_safe_in (fun _ _ _ _ _ _ us hl => match us, hl with | [_, _, _], _ => rfl)
  have G_entries_of := ok_entries_of (T := []) (P := PySem.Challenge.pw_halfback_k81_whole_safe_skips) (w := w) (mg := mg) (base := base) D_entries_of n_enumerate n_sorted
  have cV_entries_of := GP.of D_entries_of m_entries_of_ (gfn_V G_entries_of) (fun _ _ _ _ _ _ us hl => match us, hl with | [_], _ => rfl)
  have G_safe_skips := ok_safe_skips (T := []) (P := PySem.Challenge.pw_halfback_k81_whole_safe_skips) (w := w) (mg := mg) (base := base) D_safe_skips cV_check_window craw_safe_in
  have cW_safe_skips := GP.of D_safe_skips m_safe_skips_ (gfn_W G_safe_skips) (fun _ _ _ _ _ _ us hl => match us, hl with | [_, _, _], _ => rfl)
  have craw_safe_skips := GP.of D_safe_skips m_safe_skips_ G_safe_skips (fun _ _ _ _ _ _ us hl => match us, hl with | [_, _, _], _ => rfl)
  have qW210_safe_skips := GCq.of (q := [2, 1, 0]) D_safe_skips m_safe_skips_ (gfn_W G_safe_skips) (fun _ _ _ _ _ _ ws hl => match ws, hl with | [_, _, _], _ => rfl)
  have G_count_right_skips := ok_count_right_skips (T := []) (P := PySem.Challenge.pw_halfback_k81_whole_safe_skips) (w := w) (mg := mg) (base := base) D_count_right_skips cV_check_window cV_entries_of cW_safe_in
  have cV_count_right_skips := GP.of D_count_right_skips m_count_right_skips_ (gfn_V G_count_right_skips) (fun _ _ _ _ _ _ us hl => match us, hl with | [_, _, _], _ => rfl)
  have qV210_count_right_skips := GCq.of (q := [2, 1, 0]) D_count_right_skips m_count_right_skips_ (gfn_V G_count_right_skips) (fun _ _ _ _ _ _ ws hl => match ws, hl with | [_, _, _], _ => rfl)
  have G__law_draws := ok__law_draws (T := []) (P := PySem.Challenge.pw_halfback_k81_whole_safe_skips) (w := w) (mg := mg) (base := base) D__law_draws n_int
  have cR__law_draws := GP.of D__law_draws m__law_draws_ (gfn_R G__law_draws) (fun _ _ _ _ _ _ us hl => match us, hl with | [_], _ => rfl)
  have G__law_next := ok__law_next (T := []) (P := PySem.Challenge.pw_halfback_k81_whole_safe_skips) (w := w) (mg := mg) (base := base) D__law_next n_int
  have cE__law_next := GP.of D__law_next m__law_next_ (gfn_E G__law_next) (fun _ _ _ _ _ _ us hl => match us, hl with | [_], _ => rfl)
  have G__law_shuffled := ok__law_shuffled (T := []) (P := PySem.Challenge.pw_halfback_k81_whole_safe_skips) (w := w) (mg := mg) (base := base) D__law_shuffled cE__law_next n_int n_len n_list
  have cE__law_shuffled := GP.of D__law_shuffled m__law_shuffled_ (gfn_E G__law_shuffled) (fun _ _ _ _ _ _ us hl => match us, hl with | [_, _], _ => rfl)
  have G__law_window := ok__law_window (T := []) (P := PySem.Challenge.pw_halfback_k81_whole_safe_skips) (w := w) (mg := mg) (base := base) D__law_window cE__law_next cE__law_shuffled n_int n_len n_list n_range
  have cE__law_window := GP.of D__law_window m__law_window_ (gfn_E G__law_window) (fun _ _ _ _ _ _ us hl => match us, hl with | [_, _], _ => rfl)
  have G__law_least := ok__law_least (T := []) (P := PySem.Challenge.pw_halfback_k81_whole_safe_skips) (w := w) (mg := mg) (base := base) D__law_least n_len n_range
  have cV__law_least := GP.of D__law_least m__law_least_ (gfn_V G__law_least) (fun _ _ _ _ _ _ us hl => match us, hl with | [_, _], _ => rfl)
  have G__law_safe := ok__law_safe (T := []) (P := PySem.Challenge.pw_halfback_k81_whole_safe_skips) (w := w) (mg := mg) (base := base) D__law_safe cV__law_least n_dict
  have cV__law_safe := GP.of D__law_safe m__law_safe_ (gfn_V G__law_safe) (fun _ _ _ _ _ _ us hl => match us, hl with | [_, _, _], _ => rfl)
  have G__law_texts := ok__law_texts (T := []) (P := PySem.Challenge.pw_halfback_k81_whole_safe_skips) (w := w) (mg := mg) (base := base) D__law_texts n_range n_sum
  have cV__law_texts := GP.of D__law_texts m__law_texts_ (gfn_V G__law_texts) (fun _ _ _ _ _ _ us hl => match us, hl with | [_, _], _ => rfl)
  have G__law_first := ok__law_first (T := []) (P := PySem.Challenge.pw_halfback_k81_whole_safe_skips) (w := w) (mg := mg) (base := base) D__law_first cV__law_texts n_len n_range
  have cV__law_first := GP.of D__law_first m__law_first_ (gfn_V G__law_first) (fun _ _ _ _ _ _ us hl => match us, hl with | [_, _, _], _ => rfl)
  have G__law_small_right := ok__law_small_right (T := []) (P := PySem.Challenge.pw_halfback_k81_whole_safe_skips) (w := w) (mg := mg) (base := base) D__law_small_right cW_safe_skips cV__law_first n_dict n_enumerate
  have cV__law_small_right := GP.of D__law_small_right m__law_small_right_ (gfn_V G__law_small_right) (fun _ _ _ _ _ _ us hl => match us, hl with | [_, _, _], _ => rfl)
  have G__law_right := ok__law_right (T := []) (P := PySem.Challenge.pw_halfback_k81_whole_safe_skips) (w := w) (mg := mg) (base := base) D__law_right cV__law_safe craw_safe_skips cV_count_right_skips cW_safe_skips cE__law_next cE__law_shuffled qW210_safe_skips qV210_count_right_skips n_int n_len n_list n_max n_repr n_sorted n_sum
  have cE__law_right := GP.of D__law_right m__law_right_ (gfn_E G__law_right) (fun _ _ _ _ _ _ us hl => match us, hl with | [_, _, _, _], _ => rfl)
  exact ok_law D_law cR__law_draws cE__law_window cE__law_right cV__law_small_right cW_safe_skips cV_count_right_skips fun ns _ => law_ok ns
end K81
open PySem PySem.W PySem.Calls PyProof.Rows
theorem PySem.Challenge.cw_halfback_k81_whole_safe_skips_holds : PySem.Challenge.rw_halfback_k81_whole_safe_skips.Holds := by
  w_on; o_law
  refine HandSHeadRun.head_any (r := OpenLaw.row PySem.Challenge.rw_halfback_k81_whole_safe_skips) (q := view (OpenLaw.row PySem.Challenge.rw_halfback_k81_whole_safe_skips).prog [32]) (H := K81.hk) (ob := K81.ob) (M := 4000) (loose := K81.loose) (d := HandSHeadRun.topDef (OpenLaw.row PySem.Challenge.rw_halfback_k81_whole_safe_skips).prog 32) (kwd := []) K81.ob_eq
    (by kernel_rfl) (fun s => by kernel_rfl) K81.run (by kernel_rfl) (by kernel_rfl) (by kernel_rfl) (by rfl) (by first | assumption | decide +kernel) (by decide +kernel) ⟨rfl, rfl, rfl, rfl, rfl, by decide +kernel⟩ ?hw ?hc
  case hw => w_witness2
  case hc =>
    refine HB.walk_goE (l := PySem.Challenge.rw_halfback_k81_whole_safe_skips) (n := 63) (k := 6) (x := "_law_script") rfl (by decide) (by kernel_rfl) ⟨rfl, by decide, by decide⟩ ?F
    intro w mg fa h Y G hmg0
    obtain ⟨K, KX, c, tb⟩ := Y
    have hmg : mg ("law" : PySem.Str) = some (.ref fa) := by
      have e : (HandSHeadRun.topDef (OpenLaw.row PySem.Challenge.rw_halfback_k81_whole_safe_skips).prog 32).name = ("law" : PySem.Str) := by kernel_rfl
      rw [← e]
      exact hmg0
    exact ⟨K, KX, K81.facts KX G hmg c tb⟩

