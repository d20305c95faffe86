import PyProof.Rows.All
import Wide.All
import OpenK.AllK
import Wide.FinOn
import HandS.ForMost
import HandS.TupAny
import HandS.TupMul
import HandS.SortInts
import HandS.IsInst
import HandS.Wide
import HandS.Deep
import HandS.TupLe
import HandS.Small
import HandS.SetFor
import HandS.RaiseMore
import PyProof.ReprRoads
import KE.GoesNew
import HandS.NoneIn
import HandS.DictComp
import HandS.ReCall
import PyProof.DictUpdate
import HandS.Style
import HandS.Words
import HandS.Ends
import HandS.Conv
import HandS.Strs
import HandS.Zip
import KE.KIntText
import PyProof.Rows.StrBin
import PyProof.ReprReads
import PySem.Challenge.RW_eachstreet_k10_whole_towns_and_their_pie
set_option Elab.async false
section
set_option Elab.async false
set_option linter.all false
set_option maxRecDepth 100000
set_option maxHeartbeats 4000000
/-! Data with a store of changing objects; what a Python value stands for. -/
namespace Fd
open PySem PySem.Spec PyProof.Rows L2

/-- data: a tuple is its items, an object that may change is its place in the store, a list that never changes is its items -/
inductive D where
  | non
  | bl (b : Bool)
  | int (i : Int)
  | str (x : Str)
  | tup (xs : List D)
  | rol (xs : List D)
  | ref (n : Nat)
  deriving Inhabited
/-- what changes -/
inductive O where
  | lst (xs : List D)
  | dct (kvs : List (Key × D))
  deriving Inhabited
abbrev Sto := List O

/-- an outcome -/
inductive R (α : Type) where
  | ok (a : α) (st : Sto)
  | ex (c : Str) (w : D) (st : Sto)
  | bad
def R.bind {α β : Type} (r : R α) (k : α → Sto → R β) : R β :=
  match r with
  | .ok a st => k a st
  | .ex c w st => .ex c w st
  | .bad => .bad
@[simp] theorem R.bind_ok {α β : Type} (a : α) (st : Sto) (k : α → Sto → R β) : (R.ok a st).bind k = k a st := rfl
@[simp] theorem R.bind_ex {α β : Type} (c : Str) (w : D) (st : Sto) (k : α → Sto → R β) : (R.ex c w st : R α).bind k = .ex c w st := rfl
@[simp] theorem R.bind_bad {α β : Type} (k : α → Sto → R β) : (R.bad : R α).bind k = .bad := rfl

theorem R.bind_assoc {α β γ : Type} (r : R α) (k : α → Sto → R β) (l : β → Sto → R γ) : (r.bind k).bind l = r.bind fun a st => (k a st).bind l := by
  cases r <;> rfl

/-- a list that is read only -/
def SqR (K : PySem.W.Frag) (H : Hp) (a : Addr) (xs : List V) : Prop :=
  (∃ o, H a = some (.frz o (.lst xs))) ∨
    ∃ (o : Obj) (its : Array Value) (n : Nat), K.lookup a = some o ∧ o.cls = .type "list" ∧ o.dict = none ∧ o.data = .seq its n ∧ its.size ≤ sizeLine ∧ Vals xs its.toList
theorem SqR.sq {K : PySem.W.Frag} {H : Hp} {a : Addr} {xs : List V} (h : SqR K H a xs) : SqL K H a xs := by
  rcases h with ⟨o, h⟩ | h
  · exact .inl (.inr ⟨o, h⟩)
  · exact .inr h

mutual
/-- a value stands for a datum -/
inductive RV (K : PySem.W.Frag) (H : Hp) (ι : List Addr) : V → D → Prop where
  | non : RV K H ι .non .non
  | bl (b : Bool) : RV K H ι (.bl b) (.bl b)
  | int (i : Int) : RV K H ι (.int i) (.int i)
  | str (x : Str) : RV K H ι (.str x) (.str x)
  | tup {a : Addr} {ys : List V} {xs : List D} (h : SqT K H a ys) (r : RVs K H ι ys xs) : RV K H ι (.ref a) (.tup xs)
  | rol {a : Addr} {ys : List V} {xs : List D} (h : SqR K H a ys) (r : RVs K H ι ys xs) : RV K H ι (.ref a) (.rol xs)
  | ref {a : Addr} {n : Nat} (h : ι[n]? = some a) : RV K H ι (.ref a) (.ref n)
inductive RVs (K : PySem.W.Frag) (H : Hp) (ι : List Addr) : List V → List D → Prop where
  | nil : RVs K H ι [] []
  | cons {v : V} {d : D} {vs : List V} {ds : List D} (h : RV K H ι v d) (t : RVs K H ι vs ds) : RVs K H ι (v :: vs) (d :: ds)
end

/-- time passes: objects come, what never changes stands -/
structure Grow (ι : List Addr) (H : Hp) (ι' : List Addr) (H' : Hp) : Prop where
  pre : ι <+: ι'
  tup : ∀ a xs, H a = some (.tup xs) → H' a = some (.tup xs)
  frz : ∀ a o u, H a = some (.frz o u) → H' a = some (.frz o u)

section
variable {K : PySem.W.Frag} {H H' H1 : Hp} {ι ι' ι1 : List Addr}
theorem Grow.refl : Grow ι H ι H := ⟨List.prefix_refl _, fun _ _ h => h, fun _ _ _ h => h⟩
theorem Grow.trans (a : Grow ι H ι1 H1) (b : Grow ι1 H1 ι' H') : Grow ι H ι' H' :=
  ⟨a.pre.trans b.pre, fun p xs h => b.tup p xs (a.tup p xs h), fun p o u h => b.frz p o u (a.frz p o u h)⟩
theorem Grow.at (g : Grow ι H ι' H') {n : Nat} {a : Addr} (h : ι[n]? = some a) : ι'[n]? = some a := by
  obtain ⟨t, rfl⟩ := g.pre
  rw [List.getElem?_append_left (List.getElem?_eq_some_iff.mp h).1]
  exact h
theorem Grow.sqT (g : Grow ι H ι' H') {a : Addr} {xs : List V} (h : SqT K H a xs) : SqT K H' a xs := by
  rcases h with (h | ⟨o, h⟩) | h
  · exact .inl (.inl (g.tup _ _ h))
  · exact .inl (.inr ⟨o, g.frz _ _ _ h⟩)
  · exact .inr h
theorem Grow.sqR (g : Grow ι H ι' H') {a : Addr} {xs : List V} (h : SqR K H a xs) : SqR K H' a xs := by
  rcases h with ⟨o, h⟩ | h
  · exact .inl ⟨o, g.frz _ _ _ h⟩
  · exact .inr h
mutual
theorem RV.grow (g : Grow ι H ι' H') : ∀ {v : V} {d : D}, RV K H ι v d → RV K H' ι' v d
  | _, _, .non => .non
  | _, _, .bl b => .bl b
  | _, _, .int i => .int i
  | _, _, .str x => .str x
  | _, _, .tup h r => .tup (g.sqT h) (RVs.grow g r)
  | _, _, .rol h r => .rol (g.sqR h) (RVs.grow g r)
  | _, _, .ref h => .ref (g.at h)
theorem RVs.grow (g : Grow ι H ι' H') : ∀ {vs : List V} {ds : List D}, RVs K H ι vs ds → RVs K H' ι' vs ds
  | _, _, .nil => .nil
  | _, _, .cons h t => .cons (RV.grow g h) (RVs.grow g t)
end
theorem RVs.length : ∀ {vs : List V} {ds : List D}, RVs K H ι vs ds → vs.length = ds.length
  | _, _, .nil => rfl
  | _, _, .cons _ t => by rw [List.length_cons, List.length_cons, RVs.length t]
theorem RVs.get : ∀ {vs : List V} {ds : List D} {i : Nat} {d : D}, RVs K H ι vs ds → ds[i]? = some d → ∃ v, vs[i]? = some v ∧ RV K H ι v d
  | _, _, _, _, .nil, e => by simp at e
  | _, _, 0, _, .cons h _, e => by simp at e; subst e; exact ⟨_, rfl, h⟩
  | _, _, i + 1, d, .cons _ t, e => by
    obtain ⟨v, h1, h2⟩ := RVs.get (i := i) (d := d) t (by simpa using e)
    exact ⟨v, by simpa using h1, h2⟩
theorem RVs.get' : ∀ {vs : List V} {ds : List D} {i : Nat} {v : V}, RVs K H ι vs ds → vs[i]? = some v → ∃ d, ds[i]? = some d ∧ RV K H ι v d
  | _, _, _, _, .nil, e => by simp at e
  | _, _, 0, _, .cons h _, e => by simp at e; subst e; exact ⟨_, rfl, h⟩
  | _, _, i + 1, v, .cons _ t, e => by
    obtain ⟨d, h1, h2⟩ := RVs.get' (i := i) (v := v) t (by simpa using e)
    exact ⟨d, by simpa using h1, h2⟩
theorem RVs.append : ∀ {vs ws : List V} {ds es : List D}, RVs K H ι vs ds → RVs K H ι ws es → RVs K H ι (vs ++ ws) (ds ++ es)
  | _, _, _, _, .nil, s => s
  | _, _, _, _, .cons h t, s => .cons h (RVs.append t s)
theorem RVs.take : ∀ {vs : List V} {ds : List D} (n : Nat), RVs K H ι vs ds → RVs K H ι (vs.take n) (ds.take n)
  | _, _, 0, _ => .nil
  | _, _, _ + 1, .nil => .nil
  | _, _, n + 1, .cons h t => .cons h (RVs.take n t)
theorem RVs.drop : ∀ {vs : List V} {ds : List D} (n : Nat), RVs K H ι vs ds → RVs K H ι (vs.drop n) (ds.drop n)
  | _, _, 0, r => r
  | _, _, _ + 1, .nil => .nil
  | _, _, n + 1, .cons _ t => RVs.drop n t
theorem RVs.reverse {vs : List V} {ds : List D} (r : RVs K H ι vs ds) : RVs K H ι vs.reverse ds.reverse := by
  induction vs generalizing ds with
  | nil => cases r; exact .nil
  | cons v vs ih =>
    cases r with
    | cons h t =>
      rw [List.reverse_cons, List.reverse_cons]
      exact (ih t).append (.cons h .nil)
theorem RVs.set {v : V} {d : D} (h : RV K H ι v d) : ∀ {vs : List V} {ds : List D} (i : Nat), RVs K H ι vs ds → RVs K H ι (vs.set i v) (ds.set i d)
  | _, _, _, .nil => .nil
  | _, _, 0, .cons _ t => .cons h t
  | _, _, i + 1, .cons q t => .cons q (RVs.set h i t)
theorem RVs.ints : ∀ (is : List Int), RVs K H ι (is.map V.int) (is.map D.int)
  | [] => .nil
  | i :: is => .cons (.int i) (RVs.ints is)
theorem RVs.strs : ∀ (is : List Str), RVs K H ι (is.map V.str) (is.map D.str)
  | [] => .nil
  | i :: is => .cons (.str i) (RVs.strs is)
theorem RVs.flat {vs : List V} : ∀ {vss : List V} {ds : List D} (k : Nat), RVs K H ι vss ds → RVs K H ι (List.replicate k vss).flatten (List.replicate k ds).flatten
  | vss, ds, 0, _ => .nil
  | vss, ds, k + 1, r => by
    rw [List.replicate_succ, List.replicate_succ, List.flatten_cons, List.flatten_cons]
    exact r.append (RVs.flat (vs := vs) k r)
/-- ints all through -/
theorem RVs.of_ints : ∀ {is : List Int} {vs : List V}, RVs K H ι vs (is.map D.int) → vs = is.map V.int
  | [], _, .nil => rfl
  | i :: is, _, .cons (.int _) t => by rw [RVs.of_ints t]; rfl
theorem RVs.of_strs : ∀ {is : List Str} {vs : List V}, RVs K H ι vs (is.map D.str) → vs = is.map V.str
  | [], _, .nil => rfl
  | i :: is, _, .cons (.str _) t => by rw [RVs.of_strs t]; rfl

/-- what stands at an object's address -/
def RO (K : PySem.W.Frag) (H : Hp) (ι : List Addr) (a : Addr) : O → Prop
  | .lst xs => ∃ ys, H a = some (.lst ys) ∧ RVs K H ι ys xs
  | .dct kvs => ∃ ws, H a = some (.dK ws) ∧ ws.map (·.1) = kvs.map (·.1) ∧ RVs K H ι (ws.map (·.2)) (kvs.map (·.2))
theorem RO.some {a : Addr} {o : O} (h : RO K H ι a o) : ∃ u, H a = some u ∧ Mut (some u) := by
  cases o with
  | lst xs => obtain ⟨ys, e, _⟩ := h; exact ⟨_, e, trivial⟩
  | dct kvs => obtain ⟨ws, e, _⟩ := h; exact ⟨_, e, trivial⟩
/-- the store is held -/
structure Rel (K : PySem.W.Frag) (H : Hp) (ι : List Addr) (st : Sto) : Prop where
  len : ι.length = st.length
  nd : ι.Nodup
  obj : ∀ (n : Nat) a o, ι[n]? = some a → st[n]? = some o → RO K H ι a o
theorem RO.grow {a : Addr} {o : O} (g : Grow ι H ι' H') (e : H' a = H a) (h : RO K H ι a o) : RO K H' ι' a o := by
  cases o with
  | lst xs => obtain ⟨ys, e1, r⟩ := h; exact ⟨ys, e.trans e1, r.grow g⟩
  | dct kvs => obtain ⟨ws, e1, e2, r⟩ := h; exact ⟨ws, e.trans e1, e2, r.grow g⟩
variable {st : Sto}
theorem Rel.get (r : Rel K H ι st) {n : Nat} {o : O} (h : st[n]? = some o) : ∃ a, ι[n]? = some a ∧ RO K H ι a o := by
  have hl : n < ι.length := by rw [r.len]; exact (List.getElem?_eq_some_iff.mp h).1
  exact ⟨ι[n], List.getElem?_eq_getElem hl, r.obj n _ o (List.getElem?_eq_getElem hl) h⟩
theorem Rel.at (r : Rel K H ι st) {n : Nat} {a : Addr} {o : O} (h : ι[n]? = some a) (e : st[n]? = some o) : RO K H ι a o := r.obj n a o h e
theorem Rel.mem (r : Rel K H ι st) {a : Addr} (h : a ∈ ι) : ∃ u, H a = some u ∧ Mut (some u) := by
  obtain ⟨n, hn, e⟩ := List.getElem_of_mem h
  have hl : n < st.length := by rw [← r.len]; exact hn
  exact (r.obj n a st[n] (by rw [List.getElem?_eq_getElem hn, e]) (List.getElem?_eq_getElem hl)).some
theorem Rel.notin (r : Rel K H ι st) {p : Addr} (h : H p = none) : p ∉ ι := fun hm => by
  obtain ⟨u, e, _⟩ := r.mem hm
  rw [h] at e; cases e
/-- a tuple is laid (or anything that is no object of ours) -/
theorem grow_new {p : Addr} {u : HO} (h : H p = none) : Grow ι H ι (upd H p u) :=
  ⟨List.prefix_refl _, fun a xs e => by rw [upd_ne (ne_of_none e h)]; exact e, fun a o v e => by rw [upd_ne (ne_of_none e h)]; exact e⟩
theorem Rel.side (r : Rel K H ι st) {p : Addr} {u : HO} (h : H p = none) : Rel K (upd H p u) ι st :=
  ⟨r.len, r.nd, fun n a o e1 e2 => (r.obj n a o e1 e2).grow (grow_new h) (upd_ne fun z => r.notin h (z ▸ List.mem_of_getElem? e1))⟩
/-- an object is laid -/
theorem grow_obj {p : Addr} {u : HO} (h : H p = none) : Grow ι H (ι ++ [p]) (upd H p u) :=
  ⟨List.prefix_append _ _, (grow_new (ι := ι) h).tup, (grow_new (ι := ι) h).frz⟩
theorem Rel.new (r : Rel K H ι st) {p : Addr} {u : HO} {o : O} (h : H p = none) (ho : RO K (upd H p u) (ι ++ [p]) p o) : Rel K (upd H p u) (ι ++ [p]) (st ++ [o]) := by
  refine ⟨by rw [List.length_append, List.length_append, r.len]; rfl, ?_, fun n a o' e1 e2 => ?_⟩
  · rw [List.nodup_append]
    refine ⟨r.nd, by simp, fun a ha b hb => ?_⟩
    have e : b = p := by simpa using hb
    rw [e]
    exact fun z => r.notin h (z ▸ ha)
  · by_cases hn : n < ι.length
    · rw [List.getElem?_append_left hn] at e1
      rw [List.getElem?_append_left (by rw [← r.len]; exact hn)] at e2
      exact (r.obj n a o' e1 e2).grow (grow_obj h) (upd_ne fun z => r.notin h (z ▸ List.mem_of_getElem? e1))
    · have hn' : n = ι.length := by
        have := (List.getElem?_eq_some_iff.mp e1).1
        rw [List.length_append] at this
        simp at this
        omega
      subst hn'
      rw [List.getElem?_append_right (Nat.le_refl _), Nat.sub_self] at e1
      rw [r.len, List.getElem?_append_right (Nat.le_refl _), Nat.sub_self] at e2
      simp at e1 e2
      subst e1; subst e2
      exact ho
/-- an object is written -/
theorem Rel.grow_set (r : Rel K H ι st) {n : Nat} {a : Addr} {u : HO} (h : ι[n]? = some a) : Grow ι H ι (upd H a u) := by
  obtain ⟨w, e, m⟩ := r.mem (List.mem_of_getElem? h)
  refine ⟨List.prefix_refl _, fun b xs q => ?_, fun b o v q => ?_⟩
  · rw [upd_ne]; · exact q
    rintro rfl; rw [e] at q; cases q; exact m
  · rw [upd_ne]; · exact q
    rintro rfl; rw [e] at q; cases q; exact m
theorem Rel.set (r : Rel K H ι st) {n : Nat} {a : Addr} {u : HO} {o : O} (h : ι[n]? = some a) (ho : RO K (upd H a u) ι a o) : Rel K (upd H a u) ι (st.set n o) := by
  refine ⟨by rw [List.length_set]; exact r.len, r.nd, fun m b o' e1 e2 => ?_⟩
  by_cases hm : n = m
  · subst hm
    rw [h] at e1; cases e1
    have hl : n < st.length := by
      have := (List.getElem?_eq_some_iff.mp e2).1
      rw [List.length_set] at this; exact this
    rw [List.getElem?_set_self hl] at e2; cases e2
    exact ho
  · rw [List.getElem?_set_ne hm] at e2
    refine (r.obj m b o' e1 e2).grow (r.grow_set h) (upd_ne fun z => hm ?_)
    subst z
    obtain ⟨h1, h2⟩ := List.getElem?_eq_some_iff.mp h
    obtain ⟨h3, h4⟩ := List.getElem?_eq_some_iff.mp e1
    exact (List.getElem_inj r.nd).mp (h2.trans h4.symm)
end

/-- slots -/
abbrev Mu := List (Option D)
def Sig (K : PySem.W.Frag) (H : Hp) (ι : List Addr) (σ : L2.St) (μ : Mu) : Prop :=
  σ.length = μ.length ∧ ∀ (i : Nat) d, μ[i]? = some (some d) → ∃ v, σ[i]? = some (some v) ∧ RV K H ι v d
section
variable {K : PySem.W.Frag} {H H' : Hp} {ι ι' : List Addr} {σ : L2.St} {μ : Mu}
theorem Sig.grow (s : Sig K H ι σ μ) (g : Grow ι H ι' H') : Sig K H' ι' σ μ := ⟨s.1, fun i d e => by
  obtain ⟨v, e1, r⟩ := s.2 i d e
  exact ⟨v, e1, r.grow g⟩⟩
theorem Sig.set (s : Sig K H ι σ μ) {i : Nat} {v : V} {d : D} (r : RV K H ι v d) : Sig K H ι (σ.set i (some v)) (μ.set i (some d)) := by
  refine ⟨by rw [List.length_set, List.length_set]; exact s.1, fun j e q => ?_⟩
  by_cases hj : i = j
  · subst hj
    have hl : i < μ.length := by
      have := (List.getElem?_eq_some_iff.mp q).1
      rw [List.length_set] at this; exact this
    rw [List.getElem?_set_self hl] at q; cases q
    exact ⟨v, by rw [List.getElem?_set_self (by rw [s.1]; exact hl)], r⟩
  · rw [List.getElem?_set_ne hj] at q
    obtain ⟨w, e1, r1⟩ := s.2 j e q
    exact ⟨w, by rw [List.getElem?_set_ne hj]; exact e1, r1⟩
end

/-- what is wanted of an outcome -/
def Post {α β : Type} (K : PySem.W.Frag) (mg : Str → Option Value) (E : XK) (RR : Hp → List Addr → β → α → Prop) (ι : List Addr) (H : Hp) (Q : β → Hp → Prop) : R α → Prop
  | .ok d st => ∀ ι' H' v, Grow ι H ι' H' → Rel K H' ι' st → RR H' ι' v d → Q v H'
  | .ex c w st => ∀ ι' H' (C dd : Addr) v, Grow ι H ι' H' → Rel K H' ι' st → mg c = some (.ref C) → H' dd = some (.xd [("value", v)]) → RV K H' ι' v w → E (.ref C) (some dd) H'
  | .bad => False
section
variable {α β γ δ : Type} {K : PySem.W.Frag} {mg : Str → Option Value} {E : XK} {RR : Hp → List Addr → β → α → Prop} {R2 : Hp → List Addr → δ → γ → Prop} {ι ι1 : List Addr} {H H1 : Hp} {Q Q' : β → Hp → Prop} {r : R α}
theorem Post.mono (h : Post K mg E RR ι H Q r) (hq : ∀ v H', Q v H' → Q' v H') : Post K mg E RR ι H Q' r := by
  cases r with
  | ok d st => exact fun ι' H' v g r q => hq v H' (h ι' H' v g r q)
  | ex c w st => exact h
  | bad => exact h
theorem Post.grow (h : Post K mg E RR ι H Q r) (g : Grow ι H ι1 H1) : Post K mg E RR ι1 H1 Q r := by
  cases r with
  | ok d st => exact fun ι' H' v g' r q => h ι' H' v (g.trans g') r q
  | ex c w st => exact fun ι' H' C dd v g' => h ι' H' C dd v (g.trans g')
  | bad => exact h
theorem Post.bind {Q2 : δ → Hp → Prop} {k : α → Sto → R γ} (h : Post K mg E R2 ι H Q2 (r.bind k)) :
    Post K mg E RR ι H (fun v H1 => ∃ ι1 d st1, Grow ι H ι1 H1 ∧ Rel K H1 ι1 st1 ∧ RR H1 ι1 v d ∧ Post K mg E R2 ι1 H1 Q2 (k d st1)) r := by
  cases r with
  | ok d st => exact fun ι' H' v g rl rv => ⟨ι', d, st, g, rl, rv, Post.grow h g⟩
  | ex c w st => exact h
  | bad => exact h
end

/-- the readings -/
abbrev EE := Mu → Sto → R D
abbrev AE := Mu → Sto → R (List D)
abbrev BE := Mu → Sto → R Bool
def RB (_ : Hp) (_ : List Addr) (x y : Bool) : Prop := x = y
section
variable (K : PySem.W.Frag) (mg : Str → Option Value) (E : XK)
def tE (m : EE) : TE := fun σ H Q => ∃ ι μ st, Rel K H ι st ∧ Sig K H ι σ μ ∧ Post K mg E (RV K) ι H Q (m μ st)
def tA (m : AE) : TA := fun σ H Q => ∃ ι μ st, Rel K H ι st ∧ Sig K H ι σ μ ∧ Post K mg E (RVs K) ι H Q (m μ st)
def tT (m : BE) : TT := fun σ H Q => ∃ ι μ st, Rel K H ι st ∧ Sig K H ι σ μ ∧ Post K mg E RB ι H Q (m μ st)
end
section
variable {X : Cx} {e : Expr} {t t' : TE}
theorem PE.imp (h : PE X e t) (i : ∀ σ H Q, t' σ H Q → t σ H Q) : PE X e t' := ⟨fun pins s σ H Q I q => h.run pins s σ H Q I (i σ H Q q)⟩
theorem PT.imp {t t' : TT} (h : PT X e t) (i : ∀ σ H Q, t' σ H Q → t σ H Q) : PT X e t' := ⟨fun pins s σ H Q I q => h.run pins s σ H Q I (i σ H Q q)⟩
theorem PA.imp {es : List Expr} {t t' : TA} (h : PA X es t) (i : ∀ σ H Q, t' σ H Q → t σ H Q) : PA X es t' := ⟨fun pos pins s σ H Q I q => h.run pos pins s σ H Q I (i σ H Q q)⟩
end
end Fd
end
section
set_option Elab.async false
set_option linter.all false
set_option maxRecDepth 100000
set_option maxHeartbeats 4000000
/-! The readings of expressions: each a plain function of slots and store. -/
namespace Fd
open PySem PySem.Spec PyProof.Rows L2

structure Rm (k : Nat) (A : Around) : Prop where
  room : Room k A
  gd : A.guards = some []
theorem Rm.mono {j k : Nat} {A : Around} (r : Rm k A) (h : j ≤ k) : Rm j A := ⟨r.room.mono h, r.gd⟩
theorem Rm.u64 {k : Nat} {A : Around} (r : Rm k A) : A.units + 64 < cLine := r.room.units
theorem Rm.u65 {k : Nat} {A : Around} (r : Rm k A) : A.units + 65 < cLine := by have := r.room.un; omega
theorem Rm.u1 {k : Nat} {A : Around} (r : Rm k A) : A.units + 1 < cLine := by have := r.room.un; omega

abbrev PEd (X : Cx) (E : XK) (e : Expr) (m : EE) : Prop := PE X e (tE X.K X.mg E m)
abbrev PAd (X : Cx) (E : XK) (es : List Expr) (m : AE) : Prop := PA X es (tA X.K X.mg E m)
abbrev PTd (X : Cx) (E : XK) (e : Expr) (m : BE) : Prop := PT X e (tT X.K X.mg E m)
abbrev PWd (X : Cx) (E : XK) (e : Expr) (m : BE) : Prop := PW X e (tT X.K X.mg E m)

/-! ### the combinators -/
def getS (μ : Mu) (i : Nat) : Option D := (μ[i]?).bind id
def mVar (i : Nat) : EE := fun μ st => match getS μ i with
  | some d => .ok d st
  | none => .bad
def mC (d : D) : EE := fun _ st => .ok d st
def m1 (g : D → Sto → R D) (a : EE) : EE := fun μ st => (a μ st).bind g
def m2 (g : D → D → Sto → R D) (a b : EE) : EE := fun μ st => (a μ st).bind fun x st1 => (b μ st1).bind fun y st2 => g x y st2
def mN (g : List D → Sto → R D) (a : AE) : EE := fun μ st => (a μ st).bind g
def mNil : AE := fun _ st => .ok [] st
def mCons (a : EE) (r : AE) : AE := fun μ st => (a μ st).bind fun x st1 => (r μ st1).bind fun xs st2 => .ok (x :: xs) st2
def asB (d : D) (st : Sto) : R Bool := match d with
  | .bl b => .ok b st
  | _ => .bad
def mB (a : EE) : BE := fun μ st => (a μ st).bind asB
def mAndV (a b : EE) : EE := fun μ st => (mB a μ st).bind fun c st1 => if c = true then b μ st1 else .ok (.bl false) st1
def mOrV (a b : EE) : EE := fun μ st => (mB a μ st).bind fun c st1 => if c = true then .ok (.bl true) st1 else b μ st1
def mNotV (a : EE) : EE := fun μ st => (mB a μ st).bind fun c st1 => .ok (.bl (!c)) st1
def mAnd (a b : BE) : BE := fun μ st => (a μ st).bind fun c st1 => if c = true then b μ st1 else .ok false st1
def mOr (a b : BE) : BE := fun μ st => (a μ st).bind fun c st1 => if c = true then .ok true st1 else b μ st1
def mNot (a : BE) : BE := fun μ st => (a μ st).bind fun c st1 => .ok (!c) st1
def mIf (c : BE) (a b : EE) : EE := fun μ st => (c μ st).bind fun k st1 => if k = true then a μ st1 else b μ st1
/-- a chain: the middle one once -/
def mCh (g h : D → D → Sto → R D) (a b c : EE) : EE := fun μ st => (a μ st).bind fun x st1 => (b μ st1).bind fun y st2 => (g x y st2).bind fun z st3 => (asB z st3).bind fun k st4 =>
  if k = true then (c μ st4).bind fun w st5 => h y w st5 else .ok (.bl false) st4

section
variable {X : Cx} {E : XK} {e a b c : Expr} {es rest : List Expr} {pos p : Pos} {fa fb fc : EE} {fs : AE} {ta tb tc : BE}

theorem tE_ok {K : PySem.W.Frag} {mg : Str → Option Value} {ι : List Addr} {H : Hp} {Q : VK} {d : D} {st : Sto} {v : V} (rel : Rel K H ι st) (r : RV K H ι v d) (p : Post K mg E (RV K) ι H Q (.ok d st)) : Q v H := p ι H v Grow.refl rel r

theorem r_var (i : Nat) {x : Str} (hN : X.N[i]? = some x := by rfl) (hv : Vis X.env.scope x := by first | exact Or.inl rfl | exact Or.inr (Or.inl rfl) | exact Or.inr (Or.inr rfl)) (hd : (x == ("__debug__" : Str)) = false := by decide)
    (hcd : (x == ("__classdict__" : Str)) = false := by decide) : PEd X E (.Name x pos) (mVar i) := by
  refine PE.imp (pe_var hN hv hd hcd) fun σ H Q ⟨ι, μ, st, rel, sig, q⟩ => ?_
  unfold mVar at q
  split at q
  · rename_i d h
    unfold getS at h
    cases hm : μ[i]? with
    | none => rw [hm] at h; cases h
    | some o =>
      rw [hm] at h
      have h' : o = some d := h
      subst h'
      obtain ⟨v, e1, r⟩ := sig.2 i d hm
      exact ⟨v, e1, tE_ok rel r q⟩
  · exact q.elim
theorem r_int {i j} : PEd X E (.Constant (.int i) j pos) (mC (.int i)) := PE.imp pe_int fun σ H Q ⟨ι, μ, st, rel, sig, q⟩ => tE_ok rel (.int i) q
theorem r_bl {i j} : PEd X E (.Constant (.bool i) j pos) (mC (.bl i)) := PE.imp pe_bl fun σ H Q ⟨ι, μ, st, rel, sig, q⟩ => tE_ok rel (.bl i) q
theorem r_str {i j} : PEd X E (.Constant (.str i) j pos) (mC (.str i)) := PE.imp pe_str fun σ H Q ⟨ι, μ, st, rel, sig, q⟩ => tE_ok rel (.str i) q
theorem r_non {j} : PEd X E (.Constant .none j pos) (mC .non) := PE.imp pe_non fun σ H Q ⟨ι, μ, st, rel, sig, q⟩ => tE_ok rel .non q
theorem r_globI {x : Str} {i : Int} (hm : ∃ t, X.mg x = some (.int i t)) (hg : Gl X x := by rfl) (hd : (x == ("__debug__" : Str)) = false := by decide) : PEd X E (.Name x pos) (mC (.int i)) := by
  obtain ⟨t, hm⟩ := hm
  exact PE.imp (pe_glob (v := .int i) hg hm ⟨t, rfl⟩ hd) fun σ H Q ⟨ι, μ, st, rel, sig, q⟩ => tE_ok rel (.int i) q
theorem r_globS {x : Str} {i : Str} (hm : ∃ t, X.mg x = some (.str i t)) (hg : Gl X x := by rfl) (hd : (x == ("__debug__" : Str)) = false := by decide) : PEd X E (.Name x pos) (mC (.str i)) := by
  obtain ⟨t, hm⟩ := hm
  exact PE.imp (pe_glob (v := .str i) hg hm ⟨t, rfl⟩ hd) fun σ H Q ⟨ι, μ, st, rel, sig, q⟩ => tE_ok rel (.str i) q

/-! operations by values -/
def Op2 (X : Cx) (E : XK) (r : L2.R2) (g : D → D → Sto → R D) : Prop := ∀ (x y : V) (dx dy : D) (ι : List Addr) (H : Hp) (st : Sto) (Q : VK), Rel X.K H ι st → RV X.K H ι x dx → RV X.K H ι y dy → Post X.K X.mg E (RV X.K) ι H Q (g dx dy st) → r x y H Q
def Op1 (X : Cx) (E : XK) (r : V → Hp → VK → Prop) (g : D → Sto → R D) : Prop := ∀ (x : V) (dx : D) (ι : List Addr) (H : Hp) (st : Sto) (Q : VK), Rel X.K H ι st → RV X.K H ι x dx → Post X.K X.mg E (RV X.K) ι H Q (g dx st) → r x H Q
def OpL (X : Cx) (E : XK) (r : List V → Hp → VK → Prop) (g : List D → Sto → R D) : Prop := ∀ (xs : List V) (ds : List D) (ι : List Addr) (H : Hp) (st : Sto) (Q : VK), Rel X.K H ι st → RVs X.K H ι xs ds → Post X.K X.mg E (RV X.K) ι H Q (g ds st) → r xs H Q

theorem go2 {r : L2.R2} {g : D → D → Sto → R D} (h : Op2 X E r g) {σ : L2.St} {H : Hp} {Q : VK} (q : tE X.K X.mg E (m2 g fa fb) σ H Q) : tOp r (tE X.K X.mg E fa) (tE X.K X.mg E fb) σ H Q := by
  obtain ⟨ι, μ, st, rel, sig, q⟩ := q
  refine ⟨ι, μ, st, rel, sig, (Post.bind q).mono fun v H1 ⟨ι1, d, st1, g1, rel1, rv, q1⟩ => ?_⟩
  refine ⟨ι1, μ, st1, rel1, sig.grow g1, (Post.bind q1).mono fun w H2 ⟨ι2, e, st2, g2, rel2, rw, q2⟩ => ?_⟩
  exact h v w d e ι2 H2 st2 Q rel2 (rv.grow g2) rw q2
theorem r_op {op : Operator} {r : L2.R2} {g : D → D → Sto → R D} (ho : OpR X (binaryOp op) r) (h : Op2 X E r g) (ha : PEd X E a fa) (hb : PEd X E b fb) : PEd X E (.BinOp a op b pos) (m2 g fa fb) := PE.imp (pe_op ho ha hb) fun σ H Q q => go2 h q
theorem r_un {op : UnaryOp} {r : V → Hp → VK → Prop} {g : D → Sto → R D} (ho : UnR X (unaryOp op) r) (h : Op1 X E r g) (ha : PEd X E a fa) : PEd X E (.UnaryOp op a pos) (m1 g fa) := by
  refine PE.imp (pe_un ho ha) fun σ H Q ⟨ι, μ, st, rel, sig, q⟩ => ?_
  exact ⟨ι, μ, st, rel, sig, (Post.bind q).mono fun v H1 ⟨ι1, d, st1, g1, rel1, rv, q1⟩ => h v d ι1 H1 st1 Q rel1 rv q1⟩
theorem r_cmp {op : CmpOp} {r : L2.R2} {g : D → D → Sto → R D} (ho : OpR X (compareOp op) r) (h : Op2 X E r g) (ha : PEd X E a fa) (hb : PEd X E b fb) (hm : behindInMarks op b = false := by rfl) : PEd X E (.Compare a [op] [b] pos) (m2 g fa fb) :=
  PE.imp (pe_cmpR ho ha hb hm) fun σ H Q q => go2 h q
/-- a value that must be a bool, as a test -/
theorem goB {t : TE} {m : EE} (h : ∀ σ H Q, tE X.K X.mg E m σ H Q → t σ H Q) {σ : L2.St} {H : Hp} {Q : Bool → Hp → Prop} (q : tT X.K X.mg E (mB m) σ H Q) : t σ H fun x H' => ∃ k, x = .bl k ∧ Q k H' := by
  obtain ⟨ι, μ, st, rel, sig, q⟩ := q
  refine h σ H _ ⟨ι, μ, st, rel, sig, (Post.bind q).mono fun v H1 ⟨ι1, d, st1, g1, rel1, rv, q1⟩ => ?_⟩
  unfold asB at q1
  cases rv with
  | bl k => exact ⟨k, rfl, q1 ι1 H1 k Grow.refl rel1 rfl⟩
  | _ => exact q1.elim
theorem r_tcmp {op : CmpOp} {r : L2.R2} {g : D → D → Sto → R D} (ho : OpR X (compareOp op) r) (h : Op2 X E r g) (ha : PEd X E a fa) (hb : PEd X E b fb) (hm : behindInMarks op b = false := by rfl) : PTd X E (.Compare a [op] [b] pos) (mB (m2 g fa fb)) :=
  PT.imp (pt_cmpR ho ha hb hm) fun σ H Q q => goB (fun σ H Q q => go2 h q) q
theorem goCh {r r' : L2.R2} {g g' : D → D → Sto → R D} (h : Op2 X E r g) (h' : Op2 X E r' g') {σ : L2.St} {H : Hp} {Q : VK} (q : tE X.K X.mg E (mCh g g' fa fb fc) σ H Q) : tChain r r' (tE X.K X.mg E fa) (tE X.K X.mg E fb) (tE X.K X.mg E fc) σ H Q := by
  obtain ⟨ι, μ, st, rel, sig, q⟩ := q
  refine ⟨ι, μ, st, rel, sig, (Post.bind q).mono fun v H1 ⟨ι1, d, st1, g1, rel1, rv, q1⟩ => ?_⟩
  refine ⟨ι1, μ, st1, rel1, sig.grow g1, (Post.bind q1).mono fun w H2 ⟨ι2, e, st2, g2, rel2, rw, q2⟩ => ?_⟩
  refine h v w d e ι2 H2 st2 _ rel2 (rv.grow g2) rw ((Post.bind q2).mono fun z H3 ⟨ι3, f, st3, g3, rel3, rz, q3⟩ => ?_)
  unfold asB at q3
  cases rz with
  | bl k =>
    refine ⟨k, rfl, ?_⟩
    have q4 : Post X.K X.mg E (RV X.K) ι3 H3 Q (if k = true then (fc μ st3).bind fun w st5 => g' e w st5 else .ok (.bl false) st3) := q3
    cases k with
    | true =>
      rw [if_pos rfl] at q4 ⊢
      refine ⟨ι3, μ, st3, rel3, sig.grow ((g1.trans g2).trans g3), (Post.bind q4).mono fun u H4 ⟨ι4, e4, st4, g4, rel4, ru, q5⟩ => ?_⟩
      exact h' w u e e4 ι4 H4 st4 Q rel4 ((rw.grow g3).grow g4) ru q5
    | false =>
      rw [if_neg (by decide)] at q4 ⊢
      exact tE_ok rel3 (.bl false) q4
  | _ => exact q3.elim
theorem r_chain {op op' : CmpOp} {r r' : L2.R2} {g g' : D → D → Sto → R D} (ho : OpR X (compareOp op) r) (ho' : OpR X (compareOp op') r') (h : Op2 X E r g) (h' : Op2 X E r' g') (ha : PEd X E a fa) (hb : PEd X E b fb) (hc : PEd X E c fc)
    (hm : lastMarks [op, op'] [b, c] = false := by with_unfolding_all rfl) : PEd X E (.Compare a [op, op'] [b, c] pos) (mCh g g' fa fb fc) := PE.imp (pe_chain ho ho' ha hb hc hm) fun σ H Q q => goCh h h' q
theorem r_tchain {op op' : CmpOp} {r r' : L2.R2} {g g' : D → D → Sto → R D} (ho : OpR X (compareOp op) r) (ho' : OpR X (compareOp op') r') (h : Op2 X E r g) (h' : Op2 X E r' g') (ha : PEd X E a fa) (hb : PEd X E b fb) (hc : PEd X E c fc)
    (hm : lastMarks [op, op'] [b, c] = false := by with_unfolding_all rfl) : PTd X E (.Compare a [op, op'] [b, c] pos) (mB (mCh g g' fa fb fc)) := PT.imp (pt_chain ho ho' ha hb hc hm) fun σ H Q q => goB (fun σ H Q q => goCh h h' q) q

/-! and, or, not -/
theorem goBV {m : EE} {k : Bool → Sto → R D} {ι : List Addr} {H : Hp} {Q : VK} {μ : Mu} {st : Sto} (q : Post X.K X.mg E (RV X.K) ι H Q ((mB m μ st).bind k)) :
    Post X.K X.mg E (RV X.K) ι H (fun v H1 => ∃ ι1 c st1, Grow ι H ι1 H1 ∧ Rel X.K H1 ι1 st1 ∧ v = .bl c ∧ Post X.K X.mg E (RV X.K) ι1 H1 Q (k c st1)) (m μ st) := by
  unfold mB at q
  cases hm : m μ st with
  | ok d st1 =>
    rw [hm] at q
    intro ι' H' v g rel rv
    cases rv with
    | bl c => exact ⟨ι', c, st1, g, rel, rfl, Post.grow q g⟩
    | _ => exact q.elim
  | ex c w st1 => rw [hm] at q; exact q
  | bad => rw [hm] at q; exact q.elim
theorem r_one {op} (h : PEd X E a fa) : PEd X E (.BoolOp op [a] pos) fa := pe_one h
theorem r_and (ha : PEd X E a fa) (hb : PEd X E (.BoolOp .And (b :: rest) pos) fb) : PEd X E (.BoolOp .And (a :: b :: rest) pos) (mAndV fa fb) := by
  refine PE.imp (pe_and ha hb) fun σ H Q ⟨ι, μ, st, rel, sig, q⟩ => ⟨ι, μ, st, rel, sig, (goBV q).mono fun v H1 ⟨ι1, c, st1, g1, rel1, ev, q1⟩ => ⟨c, ev, ?_⟩⟩
  cases c with
  | true => exact ⟨ι1, μ, st1, rel1, sig.grow g1, q1⟩
  | false => exact tE_ok rel1 (.bl false) q1
theorem r_or (ha : PEd X E a fa) (hb : PEd X E (.BoolOp .Or (b :: rest) pos) fb) : PEd X E (.BoolOp .Or (a :: b :: rest) pos) (mOrV fa fb) := by
  refine PE.imp (pe_or ha hb) fun σ H Q ⟨ι, μ, st, rel, sig, q⟩ => ⟨ι, μ, st, rel, sig, (goBV q).mono fun v H1 ⟨ι1, c, st1, g1, rel1, ev, q1⟩ => ⟨c, ev, ?_⟩⟩
  cases c with
  | false => exact ⟨ι1, μ, st1, rel1, sig.grow g1, q1⟩
  | true => exact tE_ok rel1 (.bl true) q1
theorem r_not (ha : PEd X E a fa) : PEd X E (.UnaryOp .Not a pos) (mNotV fa) := by
  refine PE.imp (pe_not ha) fun σ H Q ⟨ι, μ, st, rel, sig, q⟩ => ⟨ι, μ, st, rel, sig, (goBV q).mono fun v H1 ⟨ι1, c, st1, g1, rel1, ev, q1⟩ => ⟨c, ev, tE_ok rel1 (.bl _) q1⟩⟩
theorem r_tval (h : PEd X E e fa) (he : ∀ whole, isTrue e X.env whole = (do let v ← whole; standAt e.pos; holding [v] (truthy v)) := by intro _; rfl) : PTd X E e (mB fa) := PT.imp (pt_val h he) fun σ H Q q => goB (fun _ _ _ q => q) q
theorem r_wand1 (h : PTd X E a ta) : PWd X E (.BoolOp .And [a] pos) ta := pw_and1 h
theorem r_wor1 (h : PTd X E a ta) : PWd X E (.BoolOp .Or [a] pos) ta := pw_or1 h
theorem PW.imp {t t' : TT} (h : PW X e t) (i : ∀ σ H Q, t' σ H Q → t σ H Q) : PW X e t' := ⟨fun wh pins s σ H Q I q => h.run wh pins s σ H Q I (i σ H Q q)⟩
theorem r_wand (ha : PTd X E a ta) (hb : PWd X E (.BoolOp .And (b :: rest) pos) tb) : PWd X E (.BoolOp .And (a :: b :: rest) pos) (mAnd ta tb) := by
  refine PW.imp (pw_and ha hb) fun σ H Q ⟨ι, μ, st, rel, sig, q⟩ => ⟨ι, μ, st, rel, sig, (Post.bind q).mono fun v H1 ⟨ι1, c, st1, g1, rel1, ev, q1⟩ => ?_⟩
  cases ev
  cases v with
  | true => rw [if_pos rfl]; exact ⟨ι1, μ, st1, rel1, sig.grow g1, q1⟩
  | false => rw [if_neg (by decide)]; exact q1 ι1 H1 false Grow.refl rel1 rfl
theorem r_wor (ha : PTd X E a ta) (hb : PWd X E (.BoolOp .Or (b :: rest) pos) tb) : PWd X E (.BoolOp .Or (a :: b :: rest) pos) (mOr ta tb) := by
  refine PW.imp (pw_or ha hb) fun σ H Q ⟨ι, μ, st, rel, sig, q⟩ => ⟨ι, μ, st, rel, sig, (Post.bind q).mono fun v H1 ⟨ι1, c, st1, g1, rel1, ev, q1⟩ => ?_⟩
  cases ev
  cases v with
  | false => rw [if_neg (by decide)]; exact ⟨ι1, μ, st1, rel1, sig.grow g1, q1⟩
  | true => rw [if_pos rfl]; exact q1 ι1 H1 true Grow.refl rel1 rfl
theorem r_tbool (h : PWd X E e ta) : PTd X E e ta := PW.pt h
theorem r_tnot (ha : PTd X E a ta) : PTd X E (.UnaryOp .Not a pos) (mNot ta) := by
  refine PT.imp (pt_not ha) fun σ H Q ⟨ι, μ, st, rel, sig, q⟩ => ⟨ι, μ, st, rel, sig, (Post.bind q).mono fun v H1 ⟨ι1, c, st1, g1, rel1, ev, q1⟩ => ?_⟩
  cases ev
  exact q1 ι1 H1 _ Grow.refl rel1 rfl
theorem r_if (hc : PTd X E c ta) (ha : PEd X E a fa) (hb : PEd X E b fb) : PEd X E (.IfExp c a b pos) (mIf ta fa fb) := by
  refine PE.imp (pe_ifExp hc ha hb) fun σ H Q ⟨ι, μ, st, rel, sig, q⟩ => ⟨ι, μ, st, rel, sig, (Post.bind q).mono fun v H1 ⟨ι1, k, st1, g1, rel1, ev, q1⟩ => ?_⟩
  cases ev
  cases v with
  | true => exact ⟨ι1, μ, st1, rel1, sig.grow g1, q1⟩
  | false => exact ⟨ι1, μ, st1, rel1, sig.grow g1, q1⟩

/-! arguments, displays -/
theorem r_nil : PAd X E [] mNil := PA.imp pa_nil fun σ H Q ⟨ι, μ, st, rel, sig, q⟩ => q ι H [] Grow.refl rel .nil
theorem r_cons (ha : PEd X E e fa) (hr : PAd X E es fs) (hs : starEach (e :: es) X.env = (false, eval e X.env) :: starEach es X.env := by rfl) : PAd X E (e :: es) (mCons fa fs) := by
  refine PA.imp (pa_cons ha hr hs) fun σ H Q ⟨ι, μ, st, rel, sig, q⟩ => ?_
  refine ⟨ι, μ, st, rel, sig, (Post.bind q).mono fun v H1 ⟨ι1, d, st1, g1, rel1, rv, q1⟩ => ?_⟩
  refine ⟨ι1, μ, st1, rel1, sig.grow g1, (Post.bind q1).mono fun vs H2 ⟨ι2, ds, st2, g2, rel2, rs, q2⟩ => ?_⟩
  exact q2 ι2 H2 (v :: vs) Grow.refl rel2 (.cons (rv.grow g2) rs)
end

section
variable {K : PySem.W.Frag} {mg : Str → Option Value} {E : XK} {ι : List Addr} {H : Hp} {Q : VK} {st : Sto} {p : Addr} {u : HO} {o : O} {xs : List D} {ys : List V}
theorem post_new (rel : Rel K H ι st) (hp : H p = none) (ho : RO K (upd H p u) (ι ++ [p]) p o) (q : Post K mg E (RV K) ι H Q (.ok (.ref st.length) (st ++ [o]))) : Q (.ref p) (upd H p u) :=
  q _ _ _ (grow_obj hp) (rel.new hp ho) (.ref (by rw [← rel.len, List.getElem?_append_right (Nat.le_refl _)]; simp))
theorem post_lst (rel : Rel K H ι st) (hp : H p = none) (r : RVs K H ι ys xs) (q : Post K mg E (RV K) ι H Q (.ok (.ref st.length) (st ++ [.lst xs]))) : Q (.ref p) (upd H p (.lst ys)) :=
  post_new (o := .lst xs) rel hp ⟨ys, upd_same, r.grow (grow_obj hp)⟩ q
theorem post_tup (rel : Rel K H ι st) (hp : H p = none) (r : RVs K H ι ys xs) (q : Post K mg E (RV K) ι H Q (.ok (.tup xs) st)) : Q (.ref p) (upd H p (.tup ys)) :=
  q _ _ _ (grow_new hp) (rel.side hp) (.tup (.inl (.inl upd_same)) (r.grow (grow_new hp)))
end
def newL (xs : List D) (st : Sto) : R D := if xs.length ≤ sizeLine then .ok (.ref st.length) (st ++ [.lst xs]) else .bad
def newT (xs : List D) (st : Sto) : R D := if xs.length ≤ sizeLine then .ok (.tup xs) st else .bad
section
variable {X : Cx} {E : XK} {es : List Expr} {pos : Pos} {fs : AE}
theorem r_tup {x1} (h : PAd X E es fs) : PEd X E (.Tuple es x1 pos) (mN newT fs) := by
  refine PE.imp (pe_tup h) fun σ H Q ⟨ι, μ, st, rel, sig, q⟩ => ⟨ι, μ, st, rel, sig, (Post.bind q).mono fun vs H1 ⟨ι1, ds, st1, g1, rel1, rs, q1⟩ => ?_⟩
  unfold newT at q1
  split at q1
  · rename_i hz
    exact ⟨by rw [rs.length]; exact hz, fun p hp => post_tup rel1 hp rs q1⟩
  · exact q1.elim
theorem r_lst (h : PAd X E es fs) : PEd X E (.List es pos) (mN newL fs) := by
  refine PE.imp (pe_lst h) fun σ H Q ⟨ι, μ, st, rel, sig, q⟩ => ⟨ι, μ, st, rel, sig, (Post.bind q).mono fun vs H1 ⟨ι1, ds, st1, g1, rel1, rs, q1⟩ => ?_⟩
  unfold newL at q1
  split at q1
  · rename_i hz
    exact ⟨by rw [rs.length]; exact hz, fun p hp => post_lst rel1 hp rs q1⟩
  · exact q1.elim
/-- calls of built-ins by values -/
theorem goL {r : List V → Hp → VK → Prop} {g : List D → Sto → R D} (h : OpL X E r g) {σ : L2.St} {H : Hp} {Q : VK} (q : tE X.K X.mg E (mN g fs) σ H Q) : tCB r (tA X.K X.mg E fs) σ H Q := by
  obtain ⟨ι, μ, st, rel, sig, q⟩ := q
  exact ⟨ι, μ, st, rel, sig, (Post.bind q).mono fun v H1 ⟨ι1, d, st1, g1, rel1, rv, q1⟩ => h v d ι1 H1 st1 Q rel1 rv q1⟩
variable {e : Expr} {x : Str} {p : Pos}
theorem r_callB {id : String} {r : List V → Hp → VK → Prop} {g : List D → Sto → R D} (hc : CallR X (.builtin id) r) (h : OpL X E r g) (hm : X.mg x = none) (hv : bootBuiltins x = some (.builtin id)) (ha : PAd X E (e :: es) fs) (hg : Gl X x := by rfl) (hn : x ≠ "__name__" := by decide) (hdb : (x == ("__debug__" : Str)) = false := by decide)
    (he : starEach (e :: es) X.env = (false, eval e X.env) :: starEach es X.env := by rfl) (hpl : (backTo pos (starEach es X.env)).any (·.1) = false := by rfl) : PEd X E (.Call (.Name x p) (e :: es) [] pos) (mN g fs) :=
  PE.imp (pe_callB hc hg hm hv ha hn hdb he hpl) fun σ H Q q => goL h q
theorem r_callT {T : String} {r : List V → Hp → VK → Prop} {g : List D → Sto → R D} (hc : CallR X (.type T) r) (h : OpL X E r g) (hm : X.mg x = none) (hv : bootBuiltins x = some (.type T)) (ha : PAd X E (e :: es) fs) (hg : Gl X x := by rfl) (hn : x ≠ "__name__" := by decide) (hdb : (x == ("__debug__" : Str)) = false := by decide)
    (he : starEach (e :: es) X.env = (false, eval e X.env) :: starEach es X.env := by rfl) (hpl : (backTo pos (starEach es X.env)).any (·.1) = false := by rfl) : PEd X E (.Call (.Name x p) (e :: es) [] pos) (mN g fs) :=
  PE.imp (pe_callTy hc hg hm hv ha hn hdb he hpl) fun σ H Q q => goL h q
end
end Fd
end
section
set_option Elab.async false
set_option linter.all false
set_option maxRecDepth 100000
set_option maxHeartbeats 4000000
/-! Operations by values. -/
namespace Fd
open PySem PySem.Spec PyProof.Rows L2

/-! ### what a sequence holds -/
def lstOf (d : D) (st : Sto) : Option (List D) := match d with
  | .rol xs => some xs
  | .ref n => match st[n]? with
    | some (.lst xs) => some xs
    | _ => none
  | _ => none
def seqOf (d : D) (st : Sto) : Option (List D) := match d with
  | .tup xs => some xs
  | d => lstOf d st
section
variable {K : PySem.W.Frag} {H : Hp} {ι : List Addr} {st : Sto} {v : V} {d : D} {xs : List D}
theorem lstOf_sq (rel : Rel K H ι st) (r : RV K H ι v d) (h : lstOf d st = some xs) : ∃ a ys, v = .ref a ∧ SqL K H a ys ∧ RVs K H ι ys xs := by
  unfold lstOf at h
  cases r with
  | rol hs r => cases h; exact ⟨_, _, rfl, hs.sq, r⟩
  | ref e =>
    rename_i a n
    simp only at h
    split at h
    · rename_i zs hz
      cases h
      obtain ⟨ys, e2, r⟩ := rel.at e hz
      exact ⟨_, ys, rfl, .of e2, r⟩
    · cases h
  | _ => cases h
theorem seqOf_sq (rel : Rel K H ι st) (r : RV K H ι v d) (h : seqOf d st = some xs) : ∃ a ys, v = .ref a ∧ (SqL K H a ys ∨ SqT K H a ys) ∧ RVs K H ι ys xs := by
  cases r with
  | tup hs r => cases h; exact ⟨_, _, rfl, .inr hs, r⟩
  | rol hs r => obtain ⟨a, ys, e, q, r⟩ := lstOf_sq rel (.rol hs r) h; exact ⟨a, ys, e, .inl q, r⟩
  | ref e => obtain ⟨a, ys, e, q, r⟩ := lstOf_sq rel (.ref e) h; exact ⟨a, ys, e, .inl q, r⟩
  | _ => cases h
end

/-! ### arithmetic -/
def mulOk (i j : Int) : Bool := decide (i.natAbs < 18446744073709551616) || decide (j.natAbs < 18446744073709551616) || decide (i.natAbs.log2 + j.natAbs.log2 < 1000000)
theorem mulOk.ok {i j : Int} (h : mulOk i j = true) : IntMulOk i j := by
  unfold mulOk at h
  simp only [Bool.or_eq_true, decide_eq_true_eq] at h
  rcases h with (h | h) | h
  · exact CMul.ok (.inl ⟨by omega, by omega⟩)
  · exact CMul.ok (.inr ⟨by omega, by omega⟩)
  · exact CMulW.ok h
theorem op_mulA {X : Cx} : OpR X (binaryOp .Mult) (rI (fun i j => mulOk i j = true) fun i j => .int (i * j)) := opI fun _ _ _ _ _ _ _ hc q => mul_int q (mulOk.ok hc)
def powOk (i j : Int) : Bool := decide (0 ≤ j) && decide (((i.natAbs.log2 + 1 : Nat) : Int) * j ≤ 134217728)
theorem op_powA {X : Cx} : OpR X (binaryOp .Pow) (rI (fun i j => powOk i j = true) fun i j => .int (i ^ j.toNat)) := opI fun i j _ _ _ _ _ hc q => by
  unfold powOk at hc
  simp only [Bool.and_eq_true, decide_eq_true_eq] at hc
  refine pow_int hc.1 (Int.le_trans (Int.mul_le_mul_of_nonneg_right ?_ hc.1) hc.2) q
  unfold Builtin.Int.intBits
  split <;> omega

def opAdd (x y : D) (st : Sto) : R D := match x, y with
  | .int i, .int j => .ok (.int (i + j)) st
  | .int i, .bl k => .ok (.int (i + b2i k)) st
  | .str a, .str b => if a.length + b.length ≤ sizeLine then .ok (.str (a ++ b)) st else .bad
  | .tup xs, .tup ys => if xs.length + ys.length ≤ sizeLine then .ok (.tup (xs ++ ys)) st else .bad
  | .ref n, .ref m => match st[n]?, st[m]? with
    | some (.lst xs), some (.lst ys) => newL (xs ++ ys) st
    | _, _ => .bad
  | _, _ => .bad
def rAddA (K : PySem.W.Frag) : L2.R2 := fun x y H Q => (((rI0 (fun i j => .int (i + j)) x y H Q ∨ (∃ i k, x = .int i ∧ y = .bl k ∧ Q (.int (i + b2i k)) H)) ∨ (∃ i j, x = .str i ∧ y = .str j ∧ i.length + j.length ≤ sizeLine ∧ Q (.str (i ++ j)) H)) ∨ rCatA K x y H Q) ∨ rCat x y H Q
theorem o_add {X : Cx} : OpR X (binaryOp .Add) (rAddA X.K) := (((op_add.or op_add_ib).or op_add_str).or op_catA).or op_cat
theorem v_add {X : Cx} {E : XK} : Op2 X E (rAddA X.K) opAdd := by
  intro x y dx dy ι H st Q rel rx ry q
  unfold opAdd at q
  split at q
  · cases rx; cases ry; exact .inl (.inl (.inl (.inl ⟨_, _, rfl, rfl, tE_ok rel (.int _) q⟩)))
  · cases rx; cases ry; exact .inl (.inl (.inl (.inr ⟨_, _, rfl, rfl, tE_ok rel (.int _) q⟩)))
  · cases rx; cases ry
    split at q
    · rename_i hz; exact .inl (.inl (.inr ⟨_, _, rfl, rfl, hz, tE_ok rel (.str _) q⟩))
    · exact q.elim
  · cases rx with
    | tup h1 r1 =>
    cases ry with
    | tup h2 r2 =>
    split at q
    · rename_i hz
      refine .inl (.inr ⟨_, _, _, _, rfl, rfl, h1, h2, by rw [r1.length, r2.length]; exact hz, fun e => ?_, fun _ e => ?_, fun _ _ p hp => post_tup rel hp (r1.append r2) q⟩)
      · subst e; cases r1; exact tE_ok rel (.tup h2 r2) q
      · subst e; cases r2; rw [List.append_nil] at q; exact tE_ok rel (.tup h1 r1) q
    · exact q.elim
  · cases rx with
    | ref h1 =>
    cases ry with
    | ref h2 =>
    split at q
    · rename_i xs ys e1 e2
      obtain ⟨zs, f1, r1⟩ := rel.at h1 e1
      obtain ⟨ws, f2, r2⟩ := rel.at h2 e2
      unfold newL at q
      split at q
      · rename_i hz
        refine .inr ⟨_, _, _, _, rfl, rfl, f1, f2, ?_, fun p hp => post_lst rel hp (r1.append r2) q⟩
        rw [r1.length, r2.length, ← List.length_append]; exact hz
      · exact q.elim
    · exact q.elim
  · exact q.elim

def opSub (x y : D) (st : Sto) : R D := match x, y with
  | .int i, .int j => .ok (.int (i - j)) st
  | _, _ => .bad
theorem v_sub {X : Cx} {E : XK} : Op2 X E (rI0 fun i j => .int (i - j)) opSub := by
  intro x y dx dy ι H st Q rel rx ry q
  unfold opSub at q
  split at q
  · cases rx; cases ry; exact ⟨_, _, rfl, rfl, tE_ok rel (.int _) q⟩
  · exact q.elim
/-- the list anew, k times over -/
def reps (k : Int) (xs : List D) : List D := (List.replicate k.toNat xs).flatten
def opMul (x y : D) (st : Sto) : R D := match x, y with
  | .int i, .int j => if mulOk i j = true then .ok (.int (i * j)) st else .bad
  | .ref n, .int k => match st[n]? with
    | some (.lst xs) => if -9223372036854775808 ≤ k ∧ k < 9223372036854775808 ∧ xs.length * k.toNat ≤ sizeLine then .ok (.ref st.length) (st ++ [.lst (reps k xs)]) else .bad
    | _ => .bad
  | .tup xs, .int k => if xs ≠ [] ∧ 2 ≤ k ∧ k ≤ 1000 ∧ xs.length ≤ 1000 then .ok (.tup (reps k xs)) st else .bad
  | _, _ => .bad
def rMulA (K : PySem.W.Frag) : L2.R2 := fun x y H Q => (rI (fun i j => mulOk i j = true) (fun i j => .int (i * j)) x y H Q ∨ rRep x y H Q) ∨ rRepT K x y H Q
theorem o_mul {X : Cx} : OpR X (binaryOp .Mult) (rMulA X.K) := (op_mulA.or op_rep).or op_repT
theorem v_mul {X : Cx} {E : XK} : Op2 X E (rMulA X.K) opMul := by
  intro x y dx dy ι H st Q rel rx ry q
  unfold opMul at q
  split at q
  · cases rx; cases ry
    split at q
    · rename_i hz; exact .inl (.inl ⟨_, _, rfl, rfl, hz, tE_ok rel (.int _) q⟩)
    · exact q.elim
  · cases rx with
    | ref h1 =>
    cases ry
    split at q
    · rename_i xs e1
      obtain ⟨zs, f1, r1⟩ := rel.at h1 e1
      split at q
      · rename_i hz
        refine .inl (.inr ⟨_, _, _, rfl, rfl, f1, hz.1, hz.2.1, by rw [r1.length]; exact hz.2.2, fun p hp => post_lst rel hp (r1.flat (vs := []) _) q⟩)
      · exact q.elim
    · exact q.elim
  · cases rx with
    | tup h1 r1 =>
    cases ry
    split at q
    · rename_i hz
      refine .inr ⟨_, _, _, rfl, rfl, h1, ?_, hz.2.1, hz.2.2.1, by rw [r1.length]; exact hz.2.2.2, fun p hp => post_tup rel hp (r1.flat (vs := []) _) q⟩
      intro e; subst e; cases r1; exact hz.1 rfl
    · exact q.elim
  · exact q.elim
def opMod (x y : D) (st : Sto) : R D := match x, y with
  | .int i, .int j => if 0 < j then .ok (.int (i % j)) st else .bad
  | _, _ => .bad
theorem v_mod {X : Cx} {E : XK} : Op2 X E (rI (fun _ j => 0 < j) fun i j => .int (i % j)) opMod := by
  intro x y dx dy ι H st Q rel rx ry q
  unfold opMod at q
  split at q
  · cases rx; cases ry
    split at q
    · rename_i hz; exact ⟨_, _, rfl, rfl, hz, tE_ok rel (.int _) q⟩
    · exact q.elim
  · exact q.elim
def opFdiv (x y : D) (st : Sto) : R D := match x, y with
  | .int i, .int j => if 0 < j ∧ j.natAbs.log2 < 9000 then .ok (.int (i / j)) st else .bad
  | _, _ => .bad
theorem v_fdiv {X : Cx} {E : XK} : Op2 X E (rI CDivW fun i j => .int (i / j)) opFdiv := by
  intro x y dx dy ι H st Q rel rx ry q
  unfold opFdiv at q
  split at q
  · cases rx; cases ry
    split at q
    · rename_i hz; exact ⟨_, _, rfl, rfl, hz, tE_ok rel (.int _) q⟩
    · exact q.elim
  · exact q.elim
def opPow (x y : D) (st : Sto) : R D := match x, y with
  | .int i, .int j => if powOk i j = true then .ok (.int (i ^ j.toNat)) st else .bad
  | _, _ => .bad
theorem v_pow {X : Cx} {E : XK} : Op2 X E (rI (fun i j => powOk i j = true) fun i j => .int (i ^ j.toNat)) opPow := by
  intro x y dx dy ι H st Q rel rx ry q
  unfold opPow at q
  split at q
  · cases rx; cases ry
    split at q
    · rename_i hz; exact ⟨_, _, rfl, rfl, hz, tE_ok rel (.int _) q⟩
    · exact q.elim
  · exact q.elim
def opNeg (x : D) (st : Sto) : R D := match x with
  | .int i => .ok (.int (-i)) st
  | _ => .bad
theorem v_neg {X : Cx} {E : XK} : Op1 X E (rU fun i => .int (-i)) opNeg := by
  intro x dx ι H st Q rel rx q
  unfold opNeg at q
  split at q
  · cases rx; exact ⟨_, rfl, tE_ok rel (.int _) q⟩
  · exact q.elim

/-! ### order of ints -/
def opI2 (f : Int → Int → Bool) (x y : D) (st : Sto) : R D := match x, y with
  | .int i, .int j => .ok (.bl (f i j)) st
  | _, _ => .bad
theorem v_i2 {X : Cx} {E : XK} (f : Int → Int → Bool) : Op2 X E (rI0 fun i j => .bl (f i j)) (opI2 f) := by
  intro x y dx dy ι H st Q rel rx ry q
  unfold opI2 at q
  split at q
  · cases rx; cases ry; exact ⟨_, _, rfl, rfl, tE_ok rel (.bl _) q⟩
  · exact q.elim
abbrev opLt := opI2 fun i j => decide (i < j)
abbrev opLe := opI2 fun i j => decide (i ≤ j)
abbrev opGt := opI2 fun i j => decide (j < i)
abbrev opGe := opI2 fun i j => decide (j ≤ i)

/-! ### data as a whole -/
def optAll {α : Type} : List (Option α) → Option (List α)
  | [] => some []
  | none :: _ => none
  | some a :: r => (optAll r).map (a :: ·)
def toPy : Nat → Sto → D → Option PyData
  | _, _, .non => some .none
  | _, _, .bl b => some (.bool b)
  | _, _, .int i => some (.int i)
  | _, _, .str x => some (.str x)
  | 0, _, .tup _ => none
  | 0, _, .rol _ => none
  | 0, _, .ref _ => none
  | n + 1, st, .tup xs => (optAll (xs.map (toPy n st))).map .tuple
  | n + 1, st, .rol xs => (optAll (xs.map (toPy n st))).map .list
  | n + 1, st, .ref m => match st[m]? with
    | some (.lst xs) => (optAll (xs.map (toPy n st))).map .list
    | _ => none
section
variable {K : PySem.W.Frag} {H : Hp} {ι : List Addr} {st : Sto}
theorem toPys_Dp {n : Nat} (h : ∀ {v : V} {d : D} {p : PyData}, RV K H ι v d → toPy n st d = some p → Dp K H v p) : ∀ {vs : List V} {ds : List D} {ps : List PyData}, RVs K H ι vs ds → optAll (ds.map (toPy n st)) = some ps → DpAll K H vs ps
  | _, _, ps, .nil, e => by cases e; exact .nil
  | _, d :: ds, ps, .cons rv r, e => by
    rw [List.map_cons] at e
    cases hd : toPy n st d with
    | none => rw [hd] at e; cases e
    | some p =>
      rw [hd] at e
      cases hr : optAll (ds.map (toPy n st)) with
      | none => simp only [optAll, hr] at e; cases e
      | some qs =>
        simp only [optAll, hr] at e
        cases e
        exact .cons (h rv hd) (toPys_Dp h r hr)
theorem toPy_Dp (rel : Rel K H ι st) : ∀ {n : Nat} {v : V} {d : D} {p : PyData}, RV K H ι v d → toPy n st d = some p → Dp K H v p := by
  intro n
  induction n with
  | zero =>
    intro v d p rv e
    cases rv with
    | non => cases e; exact .non
    | bl b => cases e; exact .bl b
    | int b => cases e; exact .int b
    | str b => cases e; exact .str b
    | tup h r => cases e
    | rol h r => cases e
    | ref h => cases e
  | succ n ih =>
    intro v d p rv e
    cases rv with
    | non => cases e; exact .non
    | bl b => cases e; exact .bl b
    | int b => cases e; exact .int b
    | str b => cases e; exact .str b
    | tup h r =>
      simp only [toPy, Option.map_eq_some_iff] at e
      obtain ⟨ps, e1, rfl⟩ := e
      exact .tup h (toPys_Dp ih r e1)
    | rol h r =>
      simp only [toPy, Option.map_eq_some_iff] at e
      obtain ⟨ps, e1, rfl⟩ := e
      exact .lst h.sq (toPys_Dp ih r e1)
    | ref h =>
      simp only [toPy] at e
      split at e
      · rename_i xs hx
        simp only [Option.map_eq_some_iff] at e
        obtain ⟨ps, e1, rfl⟩ := e
        obtain ⟨ys, e2, r⟩ := rel.at h hx
        exact .lst (.of e2) (toPys_Dp ih r e1)
      · cases e
end
abbrev deepN : Nat := 16
/-- ==, told by b; deep data beside plain ones -/
def opEqW (f : Bool → Bool) (x y : D) (st : Sto) : R D := match x, y with
  | .int i, .int j => .ok (.bl (f (decide (i = j)))) st
  | .str i, .str j => .ok (.bl (f (decide (i = j)))) st
  | .bl i, .bl j => .ok (.bl (f (decide (i = j)))) st
  | x, y => match toPy deepN st x, toPy deepN st y with
    | some p, some q => if SeqAt.shaped p = true ∧ SeqAt.shaped q = true then .ok (.bl (f (PyData.eqv p q))) st else .bad
    | _, _ => .bad
abbrev opEq := opEqW id
abbrev opNe := opEqW not
def rEqA (K : PySem.W.Frag) : L2.R2 := fun x y H Q => rEq x y H Q ∨ rEqD K x y H Q
def rNeA (K : PySem.W.Frag) : L2.R2 := fun x y H Q => rNe x y H Q ∨ rNeD K x y H Q
theorem o_eq {X : Cx} {k : Nat} (hr : Rm k X.A) : OpR X (compareOp .Eq) (rEqA X.K) := op_eq.or (op_eqD hr.u64)
theorem o_ne {X : Cx} {k : Nat} (hr : Rm k X.A) : OpR X (compareOp .NotEq) (rNeA X.K) := op_ne.or (op_neD hr.u64)
theorem v_eq {X : Cx} {E : XK} : Op2 X E (rEqA X.K) opEq := by
  intro x y dx dy ι H st Q rel rx ry q
  unfold opEq opEqW at q
  split at q
  · cases rx; cases ry
    refine .inl ⟨rfl, ?_⟩
    have e : ∀ i j : Int, decide (V.int i = V.int j) = decide (i = j) := fun i j => by simp
    rw [e]; exact tE_ok rel (.bl _) q
  · cases rx; cases ry
    refine .inl ⟨rfl, ?_⟩
    have e : ∀ i j : Str, decide (V.str i = V.str j) = decide (i = j) := fun i j => by simp
    rw [e]; exact tE_ok rel (.bl _) q
  · cases rx; cases ry
    refine .inl ⟨rfl, ?_⟩
    have e : ∀ i j : Bool, decide (V.bl i = V.bl j) = decide (i = j) := fun i j => by simp
    rw [e]; exact tE_ok rel (.bl _) q
  · split at q
    · rename_i p1 p2 e1 e2
      split at q
      · rename_i hs
        exact .inr ⟨_, _, toPy_Dp rel rx e1, toPy_Dp rel ry e2, hs.1, hs.2, tE_ok rel (.bl _) q⟩
      · exact q.elim
    · exact q.elim
theorem v_ne {X : Cx} {E : XK} : Op2 X E (rNeA X.K) opNe := by
  intro x y dx dy ι H st Q rel rx ry q
  unfold opNe opEqW at q
  split at q
  · cases rx; cases ry
    refine .inl ⟨rfl, ?_⟩
    have e : ∀ i j : Int, decide (V.int i = V.int j) = decide (i = j) := fun i j => by simp
    rw [e]; exact tE_ok rel (.bl _) q
  · cases rx; cases ry
    refine .inl ⟨rfl, ?_⟩
    have e : ∀ i j : Str, decide (V.str i = V.str j) = decide (i = j) := fun i j => by simp
    rw [e]; exact tE_ok rel (.bl _) q
  · cases rx; cases ry
    refine .inl ⟨rfl, ?_⟩
    have e : ∀ i j : Bool, decide (V.bl i = V.bl j) = decide (i = j) := fun i j => by simp
    rw [e]; exact tE_ok rel (.bl _) q
  · split at q
    · rename_i p1 p2 e1 e2
      split at q
      · rename_i hs
        exact .inr ⟨_, _, toPy_Dp rel rx e1, toPy_Dp rel ry e2, hs.1, hs.2, tE_ok rel (.bl _) q⟩
      · exact q.elim
    · exact q.elim

/-! ### is None -/
def isNon : D → Bool
  | .non => true
  | _ => false
def opIs (f : Bool → Bool) (x y : D) (st : Sto) : R D := match y with
  | .non => .ok (.bl (f (isNon x))) st
  | _ => .bad
theorem v_is {X : Cx} {E : XK} : Op2 X E (fun x y H Q => y = .non ∧ Q (.bl (decide (x = .non))) H) (opIs id) := by
  intro x y dx dy ι H st Q rel rx ry q
  unfold opIs at q
  split at q
  · cases ry
    refine ⟨rfl, ?_⟩
    have e : decide (x = V.non) = id (isNon dx) := by cases rx <;> rfl
    rw [e]; exact tE_ok rel (.bl _) q
  · exact q.elim
theorem v_isnot {X : Cx} {E : XK} : Op2 X E (fun x y H Q => y = .non ∧ Q (.bl (!decide (x = .non))) H) (opIs not) := by
  intro x y dx dy ι H st Q rel rx ry q
  unfold opIs at q
  split at q
  · cases ry
    refine ⟨rfl, ?_⟩
    have e : (!decide (x = V.non)) = not (isNon dx) := by cases rx <;> rfl
    rw [e]; exact tE_ok rel (.bl _) q
  · exact q.elim

/-! ### in -/
def flatD : D → Bool
  | .non | .bl _ | .int _ | .str _ => true
  | _ => false
def eqF : D → D → Bool
  | .non, .non => true
  | .bl a, .bl b => a == b
  | .bl a, .int b => (if a then 1 else 0) == b
  | .int a, .bl b => a == (if b then 1 else 0)
  | .int a, .int b => a == b
  | .str a, .str b => a == b
  | _, _ => false
def keyOf : D → Option Key
  | .int i => some (.inl i)
  | .str x => some (.inr x)
  | _ => none
/-- d[k] -/
def look (kvs : List (Key × D)) (k : Key) : Option D := (kvs.find? fun kv => decide (kv.1 = k)).map (·.2)
def opIn (f : Bool → Bool) (x y : D) (st : Sto) : R D := match seqOf y st with
  | some ys => if flatD x = true ∧ ys.all flatD = true then .ok (.bl (f (ys.any fun z => eqF z x))) st else
    match toPy deepN st x, optAll (ys.map (toPy deepN st)) with
    | some p, some qs => if SeqAt.shaped p = true ∧ SeqAt.shaped (.list qs) = true then .ok (.bl (f (qs.any fun z => PyData.eqv z p))) st else .bad
    | _, _ => .bad
  | none => match y, keyOf x with
    | .ref n, some k => match st[n]? with
      | some (.dct kvs) => .ok (.bl (f (look kvs k).isSome)) st
      | _ => .bad
    | _, _ => .bad
section
variable {K : PySem.W.Frag} {H : Hp} {ι : List Addr} {st : Sto} {x : V} {d : D}
theorem flat_of (r : RV K H ι x d) (h : flatD d = true) : flatV x = true := by
  cases r with
  | non => rfl
  | bl _ => rfl
  | int _ => rfl
  | str _ => rfl
  | _ => cases h
theorem eqF_of {y : V} {e : D} (r : RV K H ι x d) (h : flatD d = true) (r' : RV K H ι y e) (h' : flatD e = true) : eqV x y = eqF d e := by
  cases r with
  | tup _ _ => cases h
  | rol _ _ => cases h
  | ref _ => cases h
  | _ =>
    cases r' with
    | tup _ _ => cases h'
    | rol _ _ => cases h'
    | ref _ => cases h'
    | _ => rfl
theorem flats_of : ∀ {vs : List V} {ds : List D}, RVs K H ι vs ds → ds.all flatD = true → vs.all flatV = true
  | _, _, .nil, _ => rfl
  | _, _, .cons r t, h => by
    rw [List.all_cons, Bool.and_eq_true] at h
    rw [List.all_cons, Bool.and_eq_true]
    exact ⟨flat_of r h.1, flats_of t h.2⟩
theorem any_of (r : RV K H ι x d) (h : flatD d = true) : ∀ {vs : List V} {ds : List D}, RVs K H ι vs ds → ds.all flatD = true → inV x vs = ds.any fun z => eqF z d
  | _, _, .nil, _ => rfl
  | _, _, .cons r1 t, h1 => by
    rw [List.all_cons, Bool.and_eq_true] at h1
    have ih := any_of r h t h1.2
    unfold inV at ih ⊢
    rw [List.any_cons, List.any_cons, ih, eqF_of r1 h1.1 r h]
theorem key_of {k : Key} (r : RV K H ι x d) (h : keyOf d = some k) : x = kV k := by
  cases r with
  | int i => cases h; rfl
  | str i => cases h; rfl
  | _ => cases h
theorem look_of : ∀ {ws : List (Key × V)} {kvs : List (Key × D)} {k : Key}, ws.map (·.1) = kvs.map (·.1) → RVs K H ι (ws.map (·.2)) (kvs.map (·.2)) → (∀ d, look kvs k = some d → ∃ v, valV ws k = some v ∧ RV K H ι v d) ∧ (look kvs k = none → valV ws k = none)
  | [], [], k, _, _ => ⟨fun d h => (by cases h), fun _ => rfl⟩
  | [], _ :: _, k, h, _ => by cases h
  | _ :: _, [], k, h, _ => by cases h
  | (k1, v1) :: ws, (k2, d2) :: kvs, k, h, r => by
    simp only [List.map_cons, List.cons.injEq] at h
    have h2 := h.2
    have hk : k1 = k2 := h.1
    subst hk
    simp only [List.map_cons] at r
    cases r with
    | cons r1 rt =>
    have ih := look_of (k := k) h2 rt
    by_cases e : k1 = k
    · have e1 : look ((k1, d2) :: kvs) k = some d2 := by simp [look, e]
      have e2 : valV ((k1, v1) :: ws) k = some v1 := by simp [valV, e]
      rw [e1, e2]
      exact ⟨fun d h => (by cases h; exact ⟨_, rfl, r1⟩), fun h => (by cases h)⟩
    · have e1 : look ((k1, d2) :: kvs) k = look kvs k := by simp [look, e]
      have e2 : valV ((k1, v1) :: ws) k = valV ws k := by simp [valV, e]
      rw [e1, e2]
      exact ih
end
end Fd
end
section
set_option Elab.async false
set_option linter.all false
set_option maxRecDepth 100000
set_option maxHeartbeats 4000000
namespace Fd
open PySem PySem.Spec PyProof.Rows L2

section
variable {X : Cx} {E : XK}
def rInA (K : PySem.W.Frag) (f : Bool → Bool) : L2.R2 := fun x y H Q => (∃ p xs, y = .ref p ∧ (SqL K H p xs ∨ SqT K H p xs) ∧ flatV x = true ∧ xs.all flatV = true ∧ Q (.bl (f (inV x xs))) H) ∨
  (∃ d ds, Dp K H x d ∧ (Dp K H y (.list ds) ∨ Dp K H y (.tuple ds)) ∧ SeqAt.shaped d = true ∧ SeqAt.shaped (.list ds) = true ∧ Q (.bl (f (ds.any fun z => PyData.eqv z d))) H) ∨
  (∃ a o, y = .ref a ∧ DGet H a x o ∧ Q (.bl (f o.isSome)) H)
theorem o_in {k : Nat} (hr : Rm k X.A) : OpR X (compareOp .In) (rInA X.K id) := by
  intro pins s σ H x y v u Q I rx ry h
  rcases h with h | ⟨d, ds, hd, he, sd, se, q⟩ | ⟨a, o, rfl, g, q⟩
  · exact op_in_seq pins s σ H x y v u Q I rx ry h
  · obtain ⟨as, r1⟩ := Dp.reads I d x v hd rx
    rcases he with he | he
    · exact op_inD hr.u65 pins s σ H x y v u Q I rx ry ⟨d, ds, hd, he, sd, se, q⟩
    · obtain ⟨bs, r2⟩ := Dp.reads I (.tuple ds) y u he ry
      have c2 : PyData.canLayAll0 ds = true := SeqAt.canLay_of_shaped se
      have dd := SeqAt.depth_of_shaped sd
      have hu := hr.u65
      exact SeqAt.in_tuple_reads r2 r1 c2 (SeqAt.canLay_of_shaped sd) (by have : min (PyData.depthAll ds) d.depth ≤ d.depth := Nat.min_le_right _ _; omega) ⟨.bl _, H, I, rfl, q⟩
  · obtain rfl : u = Value.ref a := ry
    exact d_in hr.u1 I g rx fun s3 I3 => ⟨.bl o.isSome, H, I3, rfl, q⟩
theorem o_notin {k : Nat} (hr : Rm k X.A) : OpR X (compareOp .NotIn) (rInA X.K not) := by
  intro pins s σ H x y v u Q I rx ry h
  rcases h with h | ⟨d, ds, hd, he, sd, se, q⟩ | ⟨a, o, rfl, g, q⟩
  · exact op_notIn_seq pins s σ H x y v u Q I rx ry h
  · obtain ⟨as, r1⟩ := Dp.reads I d x v hd rx
    rcases he with he | he
    · exact op_notInD hr.u65 pins s σ H x y v u Q I rx ry ⟨d, ds, hd, he, sd, se, q⟩
    · obtain ⟨bs, r2⟩ := Dp.reads I (.tuple ds) y u he ry
      have c2 : PyData.canLayAll0 ds = true := SeqAt.canLay_of_shaped se
      have dd := SeqAt.depth_of_shaped sd
      have hu := hr.u65
      exact SeqAt.notIn_tuple_reads r2 r1 c2 (SeqAt.canLay_of_shaped sd) (by have : min (PyData.depthAll ds) d.depth ≤ d.depth := Nat.min_le_right _ _; omega) ⟨.bl _, H, I, rfl, q⟩
  · obtain rfl : u = Value.ref a := ry
    exact d_notIn hr.u1 I g rx fun s3 I3 => ⟨.bl (!o.isSome), H, I3, rfl, q⟩
theorem look_isSome {K : PySem.W.Frag} {H : Hp} {ι : List Addr} {ws : List (Key × V)} {kvs : List (Key × D)} {k : Key} (h : ws.map (·.1) = kvs.map (·.1)) (r : RVs K H ι (ws.map (·.2)) (kvs.map (·.2))) : (valV ws k).isSome = (look kvs k).isSome := by
  have lo := look_of (k := k) h r
  cases hl : look kvs k with
  | none => rw [lo.2 hl]; rfl
  | some d =>
    obtain ⟨v, e, _⟩ := lo.1 d hl
    rw [e]; rfl
theorem v_in (f : Bool → Bool) : Op2 X E (rInA X.K f) (opIn f) := by
  intro x y dx dy ι H st Q rel rx ry q
  unfold opIn at q
  split at q
  · rename_i ys hy
    obtain ⟨a, vs, rfl, hs, r⟩ := seqOf_sq rel ry hy
    split at q
    · rename_i hf
      refine .inl ⟨a, vs, rfl, hs, flat_of rx hf.1, flats_of r hf.2, ?_⟩
      rw [any_of rx hf.1 r hf.2]
      exact tE_ok rel (.bl _) q
    · split at q
      · rename_i p qs e1 e2
        split at q
        · rename_i hh
          have dl := toPys_Dp (toPy_Dp rel) r e2
          exact .inr (.inl ⟨p, qs, toPy_Dp rel rx e1, hs.elim (fun h => .inl (.lst h dl)) (fun h => .inr (.tup h dl)), hh.1, hh.2, tE_ok rel (.bl _) q⟩)
        · exact q.elim
      · exact q.elim
  · split at q
    · rename_i n k hk h0
      have ek := key_of rx hk
      subst ek
      cases ry with
      | ref h1 =>
      split at q
      · rename_i kvs hkv
        obtain ⟨ws, f1, f2, r⟩ := rel.at h1 hkv
        refine .inr (.inr ⟨_, _, rfl, .k f1, ?_⟩)
        rw [look_isSome f2 r]
        exact tE_ok rel (.bl _) q
      · exact q.elim
    · exact q.elim

/-! ### a[b] -/
def opIx (x y : D) (st : Sto) : R D := match x, y with
  | .str z, .int i => if z.length ≤ sizeLine then match atI z.cps.toList i with
    | some c => .ok (.str ⟨#[c]⟩) st
    | none => .bad
    else .bad
  | x, y => match seqOf x st, y with
    | some xs, .int i => match atI xs i with
      | some d => .ok d st
      | none => .bad
    | _, y => match x, keyOf y with
      | .ref n, some k => match st[n]? with
        | some (.dct kvs) => match look kvs k with
          | some d => .ok d st
          | none => .bad
        | _ => .bad
      | _, _ => .bad
def rIxA (K : PySem.W.Frag) : L2.R2 := fun x y H Q => (rIx K x y H Q) ∨ ∃ a v, x = .ref a ∧ DGet H a y (some v) ∧ Q v H
theorem ix_any {k : Nat} (hr : Rm k X.A) : IxR X (rIxA X.K) := by
  refine IxR.or ix_seq ?_
  intro value slice pins s σ H x y v u Q I rx ry h hs
  obtain ⟨a, z, rfl, g, q⟩ := h
  obtain rfl : v = Value.ref a := rx
  exact tail_any (dict_typeIs I g) PySem.F.slot_dict_getitem.lookup (d_getItem hr.u1 I g ry fun w' s3 I3 rw' => ⟨z, H, I3, rw', q⟩) hs
theorem atI_of {K : PySem.W.Frag} {H : Hp} {ι : List Addr} {vs : List V} {ds : List D} {i : Int} {d : D} (r : RVs K H ι vs ds) (h : atI ds i = some d) : ∃ v, atI vs i = some v ∧ RV K H ι v d := by
  unfold atI at h ⊢
  rw [r.length]
  cases hi : ixN ds.length i with
  | none => rw [hi] at h; cases h
  | some j =>
    rw [hi] at h
    exact r.get h
theorem v_ix : Op2 X E (rIxA X.K) opIx := by
  intro x y dx dy ι H st Q rel rx ry q
  unfold opIx at q
  split at q
  · cases rx; cases ry
    split at q
    · rename_i hz
      split at q
      · rename_i c hc
        exact .inl (.inr (.inr ⟨_, _, _, rfl, rfl, hz, hc, tE_ok rel (.str _) q⟩))
      · exact q.elim
    · exact q.elim
  · split at q
    · rename_i xs i hx h0
      obtain ⟨a, vs, rfl, hs, r⟩ := seqOf_sq rel rx hx
      cases ry
      split at q
      · rename_i d hd
        obtain ⟨w, e, rw'⟩ := atI_of r hd
        rcases hs with hs | hs
        · exact .inl (.inl ⟨a, vs, _, w, rfl, rfl, hs, e, tE_ok rel rw' q⟩)
        · exact .inl (.inr (.inl ⟨a, vs, _, w, rfl, rfl, hs, e, tE_ok rel rw' q⟩))
      · exact q.elim
    · split at q
      · rename_i n k hk h0 h00
        have ek := key_of ry hk
        subst ek
        cases rx with
        | ref h1 =>
        split at q
        · rename_i kvs hkv
          obtain ⟨ws, f1, f2, r⟩ := rel.at h1 hkv
          split at q
          · rename_i d hd
            obtain ⟨w, e, rw'⟩ := (look_of f2 r).1 d hd
            exact .inr ⟨_, w, rfl, by rw [← e]; exact .k f1, tE_ok rel rw' q⟩
          · exact q.elim
        · exact q.elim
      · exact q.elim
variable {a b e lo hi : Expr} {fa fb fc : EE} {pos p2 : Pos}
theorem r_ix {k : Nat} (hr : Rm k X.A) (ha : PEd X E a fa) (hb : PEd X E b fb) (hs : PlainIx b := by exact fun _ _ => rfl) : PEd X E (.Subscript a b pos) (m2 opIx fa fb) := PE.imp (pe_ix (ix_any hr) ha hb hs) fun σ H Q q => go2 v_ix q

/-! ### slices -/
def cutD (xs : List D) (lo hi : Option Int) : List D := (xs.drop (HT.sIx xs.length 0 lo)).take (HT.sIx xs.length xs.length hi - HT.sIx xs.length 0 lo)
def asI (d : D) : Option Int := match d with
  | .int i => some i
  | _ => none
def asPart (d : D) (st : Sto) : R (Option Int) := match d with
  | .int i => .ok (some i) st
  | _ => .bad
def mPart (m : Option EE) (μ : Mu) (st : Sto) : R (Option Int) := match m with
  | none => .ok none st
  | some f => (f μ st).bind asPart
def opSl (x : D) (lo hi : Option Int) (st : Sto) : R D := match x with
  | .str z => if z.length ≤ sizeLine then .ok (.str (cutS z lo hi)) st else .bad
  | .tup xs => .ok (.tup (cutD xs lo hi)) st
  | x => match lstOf x st with
    | some xs => .ok (.ref st.length) (st ++ [.lst (cutD xs lo hi)])
    | none => .bad
def mSl (f : EE) (lo hi : Option EE) : EE := fun μ st => (f μ st).bind fun x st1 => (mPart lo μ st1).bind fun l st2 => (mPart hi μ st2).bind fun h st3 => opSl x l h st3
def rSlAll (K : PySem.W.Frag) : V → Option Int → Option Int → Hp → VK → Prop := fun x lo hi H Q => (rSlL K x lo hi H Q ∨ rSlA K x lo hi H Q) ∨ rSlS x lo hi H Q
theorem cut_of {K : PySem.W.Frag} {H : Hp} {ι : List Addr} {vs : List V} {ds : List D} (r : RVs K H ι vs ds) (lo hi : Option Int) : RVs K H ι (cutV vs lo hi) (cutD ds lo hi) := by
  unfold cutV cutD
  rw [r.length]
  exact (r.drop _).take _
theorem cutD_all {K : PySem.W.Frag} {H : Hp} {ι : List Addr} {vs : List V} {ds : List D} {lo hi : Option Int} (r : RVs K H ι vs ds) (hw : HT.sIx vs.length 0 lo = 0 ∧ HT.sIx vs.length vs.length hi = vs.length) : cutD ds lo hi = ds := by
  unfold cutD
  rw [← r.length, hw.1, hw.2, List.drop_zero, Nat.sub_zero, r.length, List.take_length]
theorem v_sl (x : V) (dx : D) (l h : Option Int) (ι : List Addr) (H : Hp) (st : Sto) (Q : VK) (rel : Rel X.K H ι st) (rx : RV X.K H ι x dx) (q : Post X.K X.mg E (RV X.K) ι H Q (opSl dx l h st)) : rSlAll X.K x l h H Q := by
  unfold opSl at q
  split at q
  · cases rx
    split at q
    · rename_i hz; exact .inr ⟨_, rfl, hz, tE_ok rel (.str _) q⟩
    · exact q.elim
  · cases rx with
    | tup h1 r =>
    refine .inl (.inr ⟨_, _, rfl, h1, fun hw => ?_, fun _ p hp => post_tup rel hp (cut_of r l h) q⟩)
    rw [cutD_all r hw] at q
    exact tE_ok rel (.tup h1 r) q
  · split at q
    · rename_i xs hx
      obtain ⟨a, vs, rfl, hs, r⟩ := lstOf_sq rel rx hx
      exact .inl (.inl ⟨a, vs, rfl, hs, fun p hp => post_lst rel hp (cut_of r l h) q⟩)
    · exact q.elim
variable {K : PySem.W.Frag}
/-- an optional part -/
structure POd (X : Cx) (E : XK) (e : Option Expr) (m : Option EE) : Prop where
  run : ∃ t, PO X e t ∧ ∀ (σ : L2.St) (H : Hp) (Q : VK) (ι : List Addr) (μ : Mu) (st : Sto) (k : Option Int → Sto → R D) (Q' : Option Int → Hp → Prop), Rel X.K H ι st → Sig X.K H ι σ μ → Post X.K X.mg E (RV X.K) ι H Q ((mPart m μ st).bind k) →
    (∀ i ι1 H1 st1, Grow ι H ι1 H1 → Rel X.K H1 ι1 st1 → Post X.K X.mg E (RV X.K) ι1 H1 Q (k i st1) → Q' i H1) → t σ H Q'
theorem r_pnone : POd X E none none := ⟨tNoPart, po_none, fun σ H Q ι μ st k Q' rel sig q h => h none ι H st Grow.refl rel q⟩
theorem r_psome (h : PEd X E e fa) : POd X E (some e) (some fa) := by
  refine ⟨_, po_some h, fun σ H Q ι μ st k Q' rel sig q h => ?_⟩
  refine ⟨ι, μ, st, rel, sig, ?_⟩
  have q' : Post X.K X.mg E (RV X.K) ι H Q ((fa μ st).bind fun d st1 => (asPart d st1).bind k) := by
    rw [← R.bind_assoc]; exact q
  refine (Post.bind q').mono fun v H1 ⟨ι1, d, st1, g1, rel1, rv, q1⟩ => ?_
  cases rv with
  | int i => exact ⟨i, rfl, h (some i) ι1 H1 st1 g1 rel1 q1⟩
  | _ => exact q1.elim
theorem r_sl {ml mh : Option EE} {lo hi : Option Expr} (he : PEd X E e fa) (hl : POd X E lo ml) (hh : POd X E hi mh) : PEd X E (.Subscript e (.Slice lo hi none p2) pos) (mSl fa ml mh) := by
  obtain ⟨tl, pl, gl⟩ := hl.run
  obtain ⟨th, ph, gh⟩ := hh.run
  refine PE.imp (pe_slice ((sl_list.or sl_tupA).or sl_str) he pl ph) fun σ H Q ⟨ι, μ, st, rel, sig, q⟩ => ?_
  refine ⟨ι, μ, st, rel, sig, (Post.bind q).mono fun v H1 ⟨ι1, d, st1, g1, rel1, rv, q1⟩ => ?_⟩
  refine gl σ H1 Q ι1 μ st1 _ _ rel1 (sig.grow g1) q1 fun l ι2 H2 st2 g2 rel2 q2 => ?_
  refine gh σ H2 Q ι2 μ st2 _ _ rel2 ((sig.grow g1).grow g2) q2 fun h ι3 H3 st3 g3 rel3 q3 => ?_
  exact v_sl v d l h ι3 H3 st3 Q rel3 ((rv.grow g2).grow g3) q3
end
end Fd
end
section
set_option Elab.async false
set_option linter.all false
set_option maxRecDepth 100000
set_option maxHeartbeats 4000000
namespace Fd
open PySem PySem.Spec PyProof.Rows L2

def intsOf : List D → Option (List Int)
  | [] => some []
  | .int i :: r => (intsOf r).map (i :: ·)
  | _ => none
def boolsOf : List D → Option (List Bool)
  | [] => some []
  | .bl i :: r => (boolsOf r).map (i :: ·)
  | _ => none
def strsOf : List D → Option (List Str)
  | [] => some []
  | .str i :: r => (strsOf r).map (i :: ·)
  | _ => none
theorem intsOf_eq : ∀ {ds : List D} {is : List Int}, intsOf ds = some is → ds = is.map D.int
  | [], is, h => by cases h; rfl
  | .int i :: r, is, h => by
    simp only [intsOf, Option.map_eq_some_iff] at h
    obtain ⟨js, h1, rfl⟩ := h
    rw [intsOf_eq h1]; rfl
  | .non :: r, is, h => by cases h
  | .bl _ :: r, is, h => by cases h
  | .str _ :: r, is, h => by cases h
  | .tup _ :: r, is, h => by cases h
  | .rol _ :: r, is, h => by cases h
  | .ref _ :: r, is, h => by cases h
theorem intsOf_map : ∀ (is : List Int), intsOf (is.map D.int) = some is
  | [] => rfl
  | i :: is => by simp only [List.map_cons, intsOf, intsOf_map is]; rfl
theorem boolsOf_eq : ∀ {ds : List D} {is : List Bool}, boolsOf ds = some is → ds = is.map D.bl
  | [], is, h => by cases h; rfl
  | .bl i :: r, is, h => by
    simp only [boolsOf, Option.map_eq_some_iff] at h
    obtain ⟨js, h1, rfl⟩ := h
    rw [boolsOf_eq h1]; rfl
  | .non :: r, is, h => by cases h
  | .int _ :: r, is, h => by cases h
  | .str _ :: r, is, h => by cases h
  | .tup _ :: r, is, h => by cases h
  | .rol _ :: r, is, h => by cases h
  | .ref _ :: r, is, h => by cases h
theorem boolsOf_map : ∀ (is : List Bool), boolsOf (is.map D.bl) = some is
  | [] => rfl
  | i :: is => by simp only [List.map_cons, boolsOf, boolsOf_map is]; rfl
theorem strsOf_eq : ∀ {ds : List D} {is : List Str}, strsOf ds = some is → ds = is.map D.str
  | [], is, h => by cases h; rfl
  | .str i :: r, is, h => by
    simp only [strsOf, Option.map_eq_some_iff] at h
    obtain ⟨js, h1, rfl⟩ := h
    rw [strsOf_eq h1]; rfl
  | .non :: r, is, h => by cases h
  | .int _ :: r, is, h => by cases h
  | .bl _ :: r, is, h => by cases h
  | .tup _ :: r, is, h => by cases h
  | .rol _ :: r, is, h => by cases h
  | .ref _ :: r, is, h => by cases h
theorem strsOf_map : ∀ (is : List Str), strsOf (is.map D.str) = some is
  | [] => rfl
  | i :: is => by simp only [List.map_cons, strsOf, strsOf_map is]; rfl
section
variable {K : PySem.W.Frag} {H : Hp} {ι : List Addr}
theorem RVs.of_bools : ∀ {is : List Bool} {vs : List V}, RVs K H ι vs (is.map D.bl) → vs = is.map V.bl
  | [], _, .nil => rfl
  | i :: is, _, .cons (.bl _) t => by rw [RVs.of_bools t]; rfl
theorem RVs.one {vs : List V} {d : D} (r : RVs K H ι vs [d]) : ∃ v, vs = [v] ∧ RV K H ι v d := by
  cases r with
  | cons h t => cases t; exact ⟨_, rfl, h⟩
theorem RVs.two {vs : List V} {d e : D} (r : RVs K H ι vs [d, e]) : ∃ v w, vs = [v, w] ∧ RV K H ι v d ∧ RV K H ι w e := by
  cases r with
  | cons h t => obtain ⟨w, rfl, h2⟩ := t.one; exact ⟨_, w, rfl, h, h2⟩
end

section
variable {X : Cx} {E : XK}
/-! ### len -/
def opLen (xs : List D) (st : Sto) : R D := match xs with
  | [.str x] => if x.length ≤ sizeLine then .ok (.int x.length) st else .bad
  | [x] => match seqOf x st with
    | some ys => .ok (.int ys.length) st
    | none => match x with
      | .ref n => match st[n]? with
        | some (.dct kvs) => .ok (.int kvs.length) st
        | _ => .bad
      | _ => .bad
  | _ => .bad
def rLenA (K : PySem.W.Frag) : List V → Hp → VK → Prop := fun xs H Q => (∃ x n, xs = [x] ∧ LenV K x H n ∧ Q (.int n) H) ∨ ∃ a kvs, xs = [V.ref a] ∧ H a = some (.dK kvs) ∧ Q (.int kvs.length) H
theorem c_len : CallR X (.builtin "len") (rLenA X.K) := call_len.or call_lenD
theorem v_len : OpL X E (rLenA X.K) opLen := by
  intro xs ds ι H st Q rel rs q
  unfold opLen at q
  split at q
  · obtain ⟨v, rfl, rv⟩ := rs.one
    cases rv
    split at q
    · rename_i hz; exact .inl ⟨_, _, rfl, ⟨hz, rfl⟩, tE_ok rel (.int _) q⟩
    · exact q.elim
  · obtain ⟨v, rfl, rv⟩ := rs.one
    split at q
    · rename_i ys hy
      obtain ⟨a, vs, rfl, hs, r⟩ := seqOf_sq rel rv hy
      refine .inl ⟨_, vs.length, rfl, hs.elim (fun h => .inl ⟨_, h, rfl⟩) (fun h => .inr ⟨_, h, rfl⟩), ?_⟩
      rw [r.length]; exact tE_ok rel (.int _) q
    · split at q
      · rename_i n h0 h1
        cases rv with
        | ref hn =>
        split at q
        · rename_i kvs hk
          obtain ⟨ws, f1, f2, r⟩ := rel.at hn hk
          refine .inr ⟨_, ws, rfl, f1, ?_⟩
          have hl : ws.length = kvs.length := by
            have := congrArg List.length f2
            simpa using this
          rw [hl]; exact tE_ok rel (.int _) q
        · exact q.elim
      · exact q.elim
  · exact q.elim
/-! ### abs, min, max -/
def opAbs (xs : List D) (st : Sto) : R D := match xs with
  | [.int i] => .ok (.int (if i < 0 then -i else i)) st
  | _ => .bad
theorem v_abs : OpL X E (fun xs H Q => ∃ i, xs = [.int i] ∧ Q (.int (if i < 0 then -i else i)) H) opAbs := by
  intro xs ds ι H st Q rel rs q
  unfold opAbs at q
  split at q
  · obtain ⟨v, rfl, rv⟩ := rs.one
    cases rv; exact ⟨_, rfl, tE_ok rel (.int _) q⟩
  · exact q.elim
def maxL : List Int → Option Int
  | [] => none
  | i :: r => some (r.foldl max i)
def minL : List Int → Option Int
  | [] => none
  | i :: r => some (r.foldl min i)
theorem foldl_max_le : ∀ (r : List Int) (i : Int), i ≤ r.foldl max i ∧ (∀ y ∈ r, y ≤ r.foldl max i) ∧ (r.foldl max i = i ∨ r.foldl max i ∈ r)
  | [], i => ⟨Int.le_refl _, (fun _ h => nomatch h), .inl rfl⟩
  | j :: r, i => by
    obtain ⟨h1, h2, h3⟩ := foldl_max_le r (max i j)
    rw [List.foldl_cons]
    refine ⟨by omega, fun y hy => ?_, ?_⟩
    · rcases List.mem_cons.mp hy with rfl | hy
      · omega
      · exact h2 y hy
    · rcases h3 with h3 | h3
      · by_cases hij : i ≤ j
        · exact .inr (by rw [h3, Int.max_eq_right hij]; exact List.mem_cons_self)
        · exact .inl (by rw [h3, Int.max_eq_left (by omega)])
      · exact .inr (List.mem_cons_of_mem _ h3)
theorem foldl_min_le : ∀ (r : List Int) (i : Int), r.foldl min i ≤ i ∧ (∀ y ∈ r, r.foldl min i ≤ y) ∧ (r.foldl min i = i ∨ r.foldl min i ∈ r)
  | [], i => ⟨Int.le_refl _, (fun _ h => nomatch h), .inl rfl⟩
  | j :: r, i => by
    obtain ⟨h1, h2, h3⟩ := foldl_min_le r (min i j)
    rw [List.foldl_cons]
    refine ⟨by omega, fun y hy => ?_, ?_⟩
    · rcases List.mem_cons.mp hy with rfl | hy
      · omega
      · exact h2 y hy
    · rcases h3 with h3 | h3
      · by_cases hij : i ≤ j
        · exact .inl (by rw [h3, Int.min_eq_left hij])
        · exact .inr (by rw [h3, Int.min_eq_right (by omega)]; exact List.mem_cons_self)
      · exact .inr (List.mem_cons_of_mem _ h3)
theorem maxL_mem {ns : List Int} {m : Int} (h : maxL ns = some m) : m ∈ ns ∧ ∀ y ∈ ns, y ≤ m := by
  cases ns with
  | nil => cases h
  | cons i r =>
    cases h
    obtain ⟨h1, h2, h3⟩ := foldl_max_le r i
    refine ⟨h3.elim (fun e => by rw [e]; exact List.mem_cons_self) (List.mem_cons_of_mem _), fun y hy => ?_⟩
    rcases List.mem_cons.mp hy with rfl | hy
    · exact h1
    · exact h2 y hy
theorem minL_mem {ns : List Int} {m : Int} (h : minL ns = some m) : m ∈ ns ∧ ∀ y ∈ ns, m ≤ y := by
  cases ns with
  | nil => cases h
  | cons i r =>
    cases h
    obtain ⟨h1, h2, h3⟩ := foldl_min_le r i
    refine ⟨h3.elim (fun e => by rw [e]; exact List.mem_cons_self) (List.mem_cons_of_mem _), fun y hy => ?_⟩
    rcases List.mem_cons.mp hy with rfl | hy
    · exact h1
    · exact h2 y hy
def opMax (xs : List D) (st : Sto) : R D := match xs with
  | [.int i, .int j] => .ok (.int (if j > i then j else i)) st
  | [x] => match lstOf x st with
    | some ys => match (intsOf ys).bind maxL with
      | some m => .ok (.int m) st
      | none => .bad
    | none => .bad
  | _ => .bad
def opMin (xs : List D) (st : Sto) : R D := match xs with
  | [.int i, .int j] => .ok (.int (if j < i then j else i)) st
  | [x] => match lstOf x st with
    | some ys => match (intsOf ys).bind minL with
      | some m => .ok (.int m) st
      | none => .bad
    | none => .bad
  | _ => .bad
def rMaxA (K : PySem.W.Frag) : List V → Hp → VK → Prop := fun xs H Q => (∃ i j, xs = [.int i, .int j] ∧ Q (.int (if j > i then j else i)) H) ∨ rMax K xs H Q
def rMinA (K : PySem.W.Frag) : List V → Hp → VK → Prop := fun xs H Q => (∃ i j, xs = [.int i, .int j] ∧ Q (.int (if j < i then j else i)) H) ∨ rMin K xs H Q
theorem c_max (hc : X.calm = true) : CallR X (.builtin "max") (rMaxA X.K) := (call_max2 hc).or (cr_max hc)
theorem c_min (hc : X.calm = true) : CallR X (.builtin "min") (rMinA X.K) := (call_min2 hc).or (cr_min hc)
theorem v_max : OpL X E (rMaxA X.K) opMax := by
  intro xs ds ι H st Q rel rs q
  unfold opMax at q
  split at q
  · obtain ⟨v, w, rfl, rv, rw'⟩ := rs.two
    cases rv; cases rw'; exact .inl ⟨_, _, rfl, tE_ok rel (.int _) q⟩
  · obtain ⟨v, rfl, rv⟩ := rs.one
    split at q
    · rename_i ys hy
      obtain ⟨a, vs, rfl, hs, r⟩ := lstOf_sq rel rv hy
      split at q
      · rename_i m hm
        obtain ⟨ns, h1, h2⟩ := Option.bind_eq_some_iff.mp hm
        have e := intsOf_eq h1
        subst e
        have e2 := RVs.of_ints r
        subst e2
        obtain ⟨k1, k2⟩ := maxL_mem h2
        refine .inr ⟨a, ns, rfl, hs, List.length_pos_of_mem k1, fun m' hm' hle => ?_⟩
        have e3 : m' = m := Int.le_antisymm (k2 m' hm') (hle m k1)
        rw [e3]; exact tE_ok rel (.int _) q
      · exact q.elim
    · exact q.elim
  · exact q.elim
theorem v_min : OpL X E (rMinA X.K) opMin := by
  intro xs ds ι H st Q rel rs q
  unfold opMin at q
  split at q
  · obtain ⟨v, w, rfl, rv, rw'⟩ := rs.two
    cases rv; cases rw'; exact .inl ⟨_, _, rfl, tE_ok rel (.int _) q⟩
  · obtain ⟨v, rfl, rv⟩ := rs.one
    split at q
    · rename_i ys hy
      obtain ⟨a, vs, rfl, hs, r⟩ := lstOf_sq rel rv hy
      split at q
      · rename_i m hm
        obtain ⟨ns, h1, h2⟩ := Option.bind_eq_some_iff.mp hm
        have e := intsOf_eq h1
        subst e
        have e2 := RVs.of_ints r
        subst e2
        obtain ⟨k1, k2⟩ := minL_mem h2
        refine .inr ⟨a, ns, rfl, hs, List.length_pos_of_mem k1, fun m' hm' hle => ?_⟩
        have e3 : m' = m := Int.le_antisymm (hle m k1) (k2 m' hm')
        rw [e3]; exact tE_ok rel (.int _) q
      · exact q.elim
    · exact q.elim
  · exact q.elim
/-! ### sum, all, any -/
def opSum (xs : List D) (st : Sto) : R D := match xs with
  | [x] => match (lstOf x st).bind intsOf with
    | some ns => .ok (.int ns.sum) st
    | none => .bad
  | _ => .bad
theorem v_sum : OpL X E (rSum X.K) opSum := by
  intro xs ds ι H st Q rel rs q
  unfold opSum at q
  split at q
  · obtain ⟨v, rfl, rv⟩ := rs.one
    split at q
    · rename_i ns hm
      obtain ⟨ys, hy, h1⟩ := Option.bind_eq_some_iff.mp hm
      obtain ⟨a, vs, rfl, hs, r⟩ := lstOf_sq rel rv hy
      have e := intsOf_eq h1
      subst e
      have e2 := RVs.of_ints r
      subst e2
      exact ⟨a, ns, rfl, hs, tE_ok rel (.int _) q⟩
    · exact q.elim
  · exact q.elim
def opAll (xs : List D) (st : Sto) : R D := match xs with
  | [x] => match (lstOf x st).bind boolsOf with
    | some ns => .ok (.bl (ns.all id)) st
    | none => .bad
  | _ => .bad
def opAny (xs : List D) (st : Sto) : R D := match xs with
  | [x] => match (lstOf x st).bind boolsOf with
    | some ns => .ok (.bl (ns.any id)) st
    | none => .bad
  | _ => .bad
theorem v_all : OpL X E (rAll X.K) opAll := by
  intro xs ds ι H st Q rel rs q
  unfold opAll at q
  split at q
  · obtain ⟨v, rfl, rv⟩ := rs.one
    split at q
    · rename_i ns hm
      obtain ⟨ys, hy, h1⟩ := Option.bind_eq_some_iff.mp hm
      obtain ⟨a, vs, rfl, hs, r⟩ := lstOf_sq rel rv hy
      have e := boolsOf_eq h1
      subst e
      have e2 := RVs.of_bools r
      subst e2
      exact ⟨a, ns, rfl, hs, tE_ok rel (.bl _) q⟩
    · exact q.elim
  · exact q.elim
theorem v_any : OpL X E (rAny X.K) opAny := by
  intro xs ds ι H st Q rel rs q
  unfold opAny at q
  split at q
  · obtain ⟨v, rfl, rv⟩ := rs.one
    split at q
    · rename_i ns hm
      obtain ⟨ys, hy, h1⟩ := Option.bind_eq_some_iff.mp hm
      obtain ⟨a, vs, rfl, hs, r⟩ := lstOf_sq rel rv hy
      have e := boolsOf_eq h1
      subst e
      have e2 := RVs.of_bools r
      subst e2
      exact ⟨a, ns, rfl, hs, tE_ok rel (.bl _) q⟩
    · exact q.elim
  · exact q.elim
/-! ### sorted, of ints; of a dict by int keys -/
def insI (i : Int) : List Int → List Int
  | [] => [i]
  | j :: r => if i ≤ j then i :: j :: r else j :: insI i r
def sortI : List Int → List Int
  | [] => []
  | i :: r => insI i (sortI r)
theorem insI_perm (i : Int) : ∀ r : List Int, (insI i r).Perm (i :: r)
  | [] => List.Perm.refl _
  | j :: r => by
    unfold insI
    split
    · exact List.Perm.refl _
    · exact ((insI_perm i r).cons j).trans (List.Perm.swap i j r)
theorem sortI_perm : ∀ r : List Int, (sortI r).Perm r
  | [] => List.Perm.refl _
  | i :: r => (insI_perm i (sortI r)).trans ((sortI_perm r).cons i)
theorem insI_pw (i : Int) : ∀ r : List Int, r.Pairwise (· ≤ ·) → (insI i r).Pairwise (· ≤ ·)
  | [], _ => by unfold insI; exact List.pairwise_cons.mpr ⟨fun _ h => (nomatch h), .nil⟩
  | j :: r, h => by
    obtain ⟨h1, h2⟩ := List.pairwise_cons.mp h
    unfold insI
    split
    · rename_i hij
      refine List.pairwise_cons.mpr ⟨fun y hy => ?_, h⟩
      rcases List.mem_cons.mp hy with rfl | hy
      · exact hij
      · exact Int.le_trans hij (h1 y hy)
    · rename_i hij
      refine List.pairwise_cons.mpr ⟨fun y hy => ?_, insI_pw i r h2⟩
      rcases List.mem_cons.mp ((insI_perm i r).mem_iff.mp hy) with rfl | hy
      · omega
      · exact h1 y hy
theorem sortI_pw : ∀ r : List Int, (sortI r).Pairwise (· ≤ ·)
  | [] => .nil
  | i :: r => insI_pw i _ (sortI_pw r)
theorem sortI_eq {ns ns' : List Int} (p : ns'.Perm ns) (s : ns'.Pairwise (· ≤ ·)) : ns' = sortI ns := PySem.W.ksm_same (p.trans (sortI_perm ns).symm) s (sortI_pw ns)
def intKeys : List (Key × D) → Option (List Int)
  | [] => some []
  | (.inl i, _) :: r => (intKeys r).map (i :: ·)
  | _ => none
theorem intKeys_eq : ∀ {kvs : List (Key × D)} {is : List Int}, intKeys kvs = some is → kvs.map (·.1) = is.map Sum.inl
  | [], is, h => by cases h; rfl
  | (.inl i, _) :: r, is, h => by
    simp only [intKeys, Option.map_eq_some_iff] at h
    obtain ⟨js, h1, rfl⟩ := h
    simp only [List.map_cons, intKeys_eq h1]
  | (.inr i, _) :: r, is, h => by cases h
def opSorted (xs : List D) (st : Sto) : R D := match xs with
  | [x] => match lstOf x st with
    | some ys => match intsOf ys with
      | some ns => .ok (.ref st.length) (st ++ [.lst ((sortI ns).map .int)])
      | none => .bad
    | none => match x with
      | .ref n => match st[n]? with
        | some (.dct kvs) => match intKeys kvs with
          | some ks => if ks.length < 64 then .ok (.ref st.length) (st ++ [.lst ((sortI ks).map .int)]) else .bad
          | none => .bad
        | _ => .bad
      | _ => .bad
  | _ => .bad
def rSortedA (K : PySem.W.Frag) : List V → Hp → VK → Prop := fun xs H Q => rSortedI K xs H Q ∨
  ∃ (a : Addr) (kvs : List (Key × V)) (ks : List Int), xs = [.ref a] ∧ Rd H a (.dK kvs) ∧ kvs.map (·.1) = ks.map Sum.inl ∧ ks.length < 64 ∧ ∀ (ys : List Int) (p : Addr), ys.Perm ks → ys.Pairwise (· ≤ ·) → H p = none → Q (.ref p) (upd H p (.lst (ys.map V.int)))
theorem c_sorted (hc : X.calm = true) : CallR X (.builtin "sorted") (rSortedA X.K) := cr_sortedI.or (call_sortedDI hc)
theorem v_sorted : OpL X E (rSortedA X.K) opSorted := by
  intro xs ds ι H st Q rel rs q
  unfold opSorted at q
  split at q
  · obtain ⟨v, rfl, rv⟩ := rs.one
    split at q
    · rename_i ys hy
      obtain ⟨a, vs, rfl, hs, r⟩ := lstOf_sq rel rv hy
      split at q
      · rename_i ns h1
        have e := intsOf_eq h1
        subst e
        have e2 := RVs.of_ints r
        subst e2
        refine .inl ⟨a, ns, rfl, hs, fun ns' p hp hs' hn => ?_⟩
        rw [sortI_eq hp hs']
        exact post_lst rel hn (RVs.ints _) q
      · exact q.elim
    · split at q
      · rename_i n h0
        cases rv with
        | ref hn =>
        split at q
        · rename_i kvs hk
          obtain ⟨ws, f1, f2, r⟩ := rel.at hn hk
          split at q
          · rename_i ks hks
            split at q
            · rename_i hl
              refine .inr ⟨_, ws, ks, rfl, .of f1, f2.trans (intKeys_eq hks), hl, fun ys p hp hs' hn => ?_⟩
              rw [sortI_eq hp hs']
              exact post_lst rel hn (RVs.ints _) q
            · exact q.elim
          · exact q.elim
        · exact q.elim
      · exact q.elim
  · exact q.elim
/-! ### list, tuple, int, str -/
def keyD : Key → D
  | .inl i => .int i
  | .inr x => .str x
theorem key_RV {K : PySem.W.Frag} {H : Hp} {ι : List Addr} (k : Key) : RV K H ι (kV k) (keyD k) := by
  cases k with
  | inl i => exact .int i
  | inr i => exact .str i
theorem keys_RV {K : PySem.W.Frag} {H : Hp} {ι : List Addr} : ∀ {ws : List (Key × V)} {kvs : List (Key × D)}, ws.map (·.1) = kvs.map (·.1) → RVs K H ι (ws.map fun p => kV p.1) (kvs.map fun p => keyD p.1)
  | [], [], _ => .nil
  | [], _ :: _, h => by cases h
  | _ :: _, [], h => by cases h
  | (k1, v1) :: ws, (k2, d2) :: kvs, h => by
    simp only [List.map_cons, List.cons.injEq] at h
    have hk : k1 = k2 := h.1
    subst hk
    exact .cons (key_RV k1) (keys_RV h.2)
def opList (xs : List D) (st : Sto) : R D := match xs with
  | [x] => match seqOf x st with
    | some ys => .ok (.ref st.length) (st ++ [.lst ys])
    | none => match x with
      | .ref n => match st[n]? with
        | some (.dct kvs) => .ok (.ref st.length) (st ++ [.lst (kvs.map fun p => keyD p.1)])
        | _ => .bad
      | _ => .bad
  | _ => .bad
def rListA (K : PySem.W.Frag) : List V → Hp → VK → Prop := fun xs H Q => (∃ p ys, xs = [.ref p] ∧ (SqL K H p ys ∨ SqT K H p ys) ∧ ∀ l, H l = none → Q (.ref l) (upd H l (.lst ys))) ∨
  ∃ (a : Addr) (kvs : List (Key × V)), xs = [.ref a] ∧ Rd H a (.dK kvs) ∧ ∀ p, H p = none → Q (.ref p) (upd H p (.lst (kvs.map fun kv => kV kv.1)))
theorem c_list (hc : X.calm = true) : CallR X (.type "list") (rListA X.K) := call_list_of.or (call_listD hc)
theorem v_list : OpL X E (rListA X.K) opList := by
  intro xs ds ι H st Q rel rs q
  unfold opList at q
  split at q
  · obtain ⟨v, rfl, rv⟩ := rs.one
    split at q
    · rename_i ys hy
      obtain ⟨a, vs, rfl, hs, r⟩ := seqOf_sq rel rv hy
      exact .inl ⟨a, vs, rfl, hs, fun p hn => post_lst rel hn r q⟩
    · split at q
      · rename_i n h0
        cases rv with
        | ref hn =>
        split at q
        · rename_i kvs hk
          obtain ⟨ws, f1, f2, r⟩ := rel.at hn hk
          exact .inr ⟨_, ws, rfl, .of f1, fun p hn => post_lst rel hn (keys_RV f2) q⟩
        · exact q.elim
      · exact q.elim
  · exact q.elim
def opTuple (xs : List D) (st : Sto) : R D := match xs with
  | [x] => match seqOf x st with
    | some ys => .ok (.tup ys) st
    | none => .bad
  | _ => .bad
theorem v_tuple : OpL X E (fun xs H Q => ∃ p ys, xs = [.ref p] ∧ ((SqL X.K H p ys ∧ ∀ l, H l = none → Q (.ref l) (upd H l (.tup ys))) ∨ (SqT X.K H p ys ∧ Q (.ref p) H))) opTuple := by
  intro xs ds ι H st Q rel rs q
  unfold opTuple at q
  split at q
  · obtain ⟨v, rfl, rv⟩ := rs.one
    split at q
    · rename_i ys hy
      obtain ⟨a, vs, rfl, hs, r⟩ := seqOf_sq rel rv hy
      refine ⟨a, vs, rfl, ?_⟩
      rcases hs with hs | hs
      · exact .inl ⟨hs, fun p hn => post_tup rel hn r q⟩
      · exact .inr ⟨hs, tE_ok rel (.tup hs r) q⟩
    · exact q.elim
  · exact q.elim
def opInt (xs : List D) (st : Sto) : R D := match xs with
  | [.int i] => .ok (.int i) st
  | [.bl k] => .ok (.int (if k then 1 else 0)) st
  | _ => .bad
theorem v_int : OpL X E (fun xs H Q => (∃ i, xs = [.int i] ∧ Q (.int i) H) ∨ ∃ k, xs = [.bl k] ∧ Q (.int (if k then 1 else 0)) H) opInt := by
  intro xs ds ι H st Q rel rs q
  unfold opInt at q
  split at q
  · obtain ⟨v, rfl, rv⟩ := rs.one
    cases rv; exact .inl ⟨_, rfl, tE_ok rel (.int _) q⟩
  · obtain ⟨v, rfl, rv⟩ := rs.one
    cases rv; exact .inr ⟨_, rfl, tE_ok rel (.int _) q⟩
  · exact q.elim
def opStr (xs : List D) (st : Sto) : R D := match xs with
  | [.int i] => if i.natAbs.log2 < 1920 then .ok (.str (toString i)) st else .bad
  | [.str x] => .ok (.str x) st
  | _ => .bad
def rStrA : List V → Hp → VK → Prop := fun xs H Q => (∃ i, xs = [.int i] ∧ i.natAbs.log2 < 1920 ∧ Q (.str (toString i)) H) ∨ ∃ a, xs = [.str a] ∧ Q (.str a) H
theorem c_str : CallR X (.type "str") rStrA := call_str_int.or SkE.call_str_str
theorem v_str : OpL X E rStrA opStr := by
  intro xs ds ι H st Q rel rs q
  unfold opStr at q
  split at q
  · obtain ⟨v, rfl, rv⟩ := rs.one
    cases rv
    split at q
    · rename_i hz; exact .inl ⟨_, rfl, hz, tE_ok rel (.str _) q⟩
    · exact q.elim
  · obtain ⟨v, rfl, rv⟩ := rs.one
    cases rv; exact .inr ⟨_, rfl, tE_ok rel (.str _) q⟩
  · exact q.elim
/-! ### repr -/
def opRepr (xs : List D) (st : Sto) : R D := match xs with
  | [x] => match toPy deepN st x with
    | some p => if SeqAt.shaped p = true ∧ PyData.showable p = true ∧ p.shown.length ≤ sizeLine then .ok (.str p.shown) st else .bad
    | none => .bad
  | _ => .bad
def rRepr (K : PySem.W.Frag) : List V → Hp → VK → Prop := fun xs H Q => ∃ x p, xs = [x] ∧ Dp K H x p ∧ SeqAt.shaped p = true ∧ PyData.showable p = true ∧ p.shown.length ≤ sizeLine ∧ Q (.str p.shown) H
theorem c_repr {k : Nat} (hr : Rm k X.A) : CallR X (.builtin "repr") (rRepr X.K) := by
  intro pins s σ H xs us Q I r h
  obtain ⟨x, p, rfl, hd, hs, hw, hl, q⟩ := h
  obtain ⟨u, rfl, ru⟩ := vals1 r
  obtain ⟨as, rd⟩ := Dp.reads I p x u hd ru
  have dd := SeqAt.depth_of_shaped hs
  have hu := hr.u65
  have hno : p.hasDict = true → sysModules ∉ as := PyData.noDict_hsm (PyData.hasDict_of_canLay p (SeqAt.canLay_of_shaped hs))
  cases hd with
  | non => cases ru; exact PySem.P.repr_of_none ⟨.str _, H, I.tok _, ⟨_, rfl⟩, q⟩
  | bl b => cases ru; exact PySem.P.repr_of_bool ⟨.str _, H, I.tok _, ⟨_, rfl⟩, by cases b <;> exact q⟩
  | int i =>
    obtain ⟨t, rfl⟩ := ru
    exact PySem.P.repr_of_int (by simpa [PyData.showable] using hw) ⟨.str _, H, I.tok _, ⟨_, rfl⟩, q⟩
  | str y =>
    obtain ⟨t, rfl⟩ := ru
    exact PySem.P.repr_of_str ⟨.str _, H, I.tok _, ⟨_, rfl⟩, q⟩ hl
  | lst h1 h2 =>
    obtain rfl : u = Value.ref _ := ru
    exact repr_of_reads' rd hw hno hr.gd (by omega) (fun _ _ e => e) (fun h' u tk hk => ⟨.str _, H, I.kept hk, ⟨_, rfl⟩, q⟩) hl
  | tup h1 h2 =>
    obtain rfl : u = Value.ref _ := ru
    exact repr_of_reads' rd hw hno hr.gd (by omega) (fun _ _ e => e) (fun h' u tk hk => ⟨.str _, H, I.kept hk, ⟨_, rfl⟩, q⟩) hl
theorem v_repr : OpL X E (rRepr X.K) opRepr := by
  intro xs ds ι H st Q rel rs q
  unfold opRepr at q
  split at q
  · obtain ⟨v, rfl, rv⟩ := rs.one
    split at q
    · rename_i p hp
      split at q
      · rename_i hh
        exact ⟨v, p, rfl, toPy_Dp rel rv hp, hh.1, hh.2.1, hh.2.2, tE_ok rel (.str _) q⟩
      · exact q.elim
    · exact q.elim
  · exact q.elim
/-! ### isinstance -/
def tyOf (d : D) (st : Sto) : Option String := match d with
  | .non => some "NoneType"
  | .bl _ => some "bool"
  | .int _ => some "int"
  | .str _ => some "str"
  | .tup _ => some "tuple"
  | .rol _ => some "list"
  | .ref n => match st[n]? with
    | some (.lst _) => some "list"
    | some (.dct _) => some "dict"
    | none => none
def isSub (t T : String) : Bool := t == T || (t == "bool" && T == "int")
def opIsi (T : String) (d : D) (st : Sto) : R D := match tyOf d st with
  | some t => .ok (.bl (isSub t T)) st
  | none => .bad
theorem tyOf_X {K : PySem.W.Frag} {H : Hp} {ι : List Addr} {st : Sto} {v : V} {d : D} {t : String} (rel : Rel K H ι st) (r : RV K H ι v d) (h : tyOf d st = some t) : TyX K H v (.type t) := by
  unfold tyOf at h
  cases r with
  | non => cases h; exact .base .non
  | bl b => cases h; exact .base (.bl b)
  | int b => cases h; exact .base (.int b)
  | str b => cases h; exact .base (.str b)
  | tup hs r =>
    cases h
    rcases hs with (hs | ⟨o, hs⟩) | ⟨o, its, n, h1, h2, _⟩
    · exact .base (.tup hs)
    · exact .fTuple hs
    · exact .kTuple h1 h2
  | rol hs r =>
    cases h
    rcases hs with ⟨o, hs⟩ | ⟨o, its, n, h1, h2, _⟩
    · exact .base (.frz hs)
    · exact .kList h1 h2
  | ref hn =>
    simp only at h
    split at h
    · rename_i xs hx
      cases h
      obtain ⟨ys, e, _⟩ := rel.at hn hx
      exact .base (.lst e)
    · rename_i xs hx
      cases h
      obtain ⟨ys, e, _⟩ := rel.at hn hx
      exact .base (.dK e)
    · cases h
abbrev tyNames : List String := ["NoneType", "bool", "int", "str", "tuple", "list", "dict"]
theorem kit_all : (tyNames.all fun t => tyNames.tail.all fun T => kitB t T == some (isSub t T)) = true := by decide +kernel
theorem tyOf_mem {d : D} {st : Sto} {t : String} (h : tyOf d st = some t) : t ∈ tyNames := by
  unfold tyOf at h
  split at h <;> try (cases h; decide)
  split at h <;> first | (cases h; decide) | cases h
theorem r_isi {e : Expr} {fa : EE} {T : Str} {pos p p2 : Pos} (T' : String) (hT : T' ∈ tyNames.tail) (hm : X.mg "isinstance" = none) (hm2 : X.mg T = none) (hv : bootBuiltins T = some (.type T')) (he : PEd X E e fa) (hg : Gl X "isinstance" := by rfl) (hg2 : Gl X T := by rfl)
    (hn : T ≠ "__name__" := by decide) (hdb : (T == ("__debug__" : Str)) = false := by decide)
    (hs1 : starEach [e, .Name T p2] X.env = (false, eval e X.env) :: starEach [.Name T p2] X.env := by rfl) (hs2 : starEach [.Name T p2] X.env = (false, eval (.Name T p2) X.env) :: starEach [] X.env := by rfl)
    (hpl : (backTo pos (starEach [.Name T p2] X.env)).any (·.1) = false := by rfl) : PEd X E (.Call (.Name "isinstance" p) [e, .Name T p2] [] pos) (m1 (opIsi T') fa) := by
  refine PE.imp (pe_callB call_isi hg hm (by decide +kernel) (pa_cons he (pa_cons (pe_bltn (v := .ty T') hg2 hm2 hv rfl hn hdb) pa_nil hs2) hs1) (by decide) (by decide) hs1 hpl) fun σ H Q ⟨ι, μ, st, rel, sig, q⟩ => ?_
  refine ⟨ι, μ, st, rel, sig, (Post.bind q).mono fun v H1 ⟨ι1, d, st1, g1, rel1, rv, q1⟩ => ?_⟩
  unfold opIsi at q1
  split at q1
  · rename_i t ht
    have k := kit_all
    rw [List.all_eq_true] at k
    have k2 := k t (tyOf_mem ht)
    rw [List.all_eq_true] at k2
    have k3 := k2 T' hT
    exact ⟨v, .ty T', .type t, .type T', isSub t T', rfl, .ty T', tyOf_X rel1 rv ht, kit_ty (by simpa using k3), tE_ok rel1 (.bl _) q1⟩
  · exact q1.elim
end
end Fd
end
section
set_option Elab.async false
set_option linter.all false
set_option maxRecDepth 100000
set_option maxHeartbeats 4000000
/-! What is walked: lists, tuples, ranges, enumerate and zip of any mix. -/
namespace Fd
open PySem PySem.Spec PyProof.Rows L2

/-! ### data are compared -/
mutual
def D.eqb : D → D → Bool
  | .non, .non => true
  | .bl a, .bl b => a == b
  | .int a, .int b => decide (a = b)
  | .str a, .str b => decide (a = b)
  | .tup xs, .tup ys => D.eqbs xs ys
  | .rol xs, .rol ys => D.eqbs xs ys
  | .ref a, .ref b => decide (a = b)
  | _, _ => false
def D.eqbs : List D → List D → Bool
  | [], [] => true
  | x :: xs, y :: ys => D.eqb x y && D.eqbs xs ys
  | _, _ => false
end
mutual
theorem D.eqb_eq : ∀ {a b : D}, D.eqb a b = true → a = b
  | .non, b, h => by cases b <;> first | rfl | cases h
  | .bl a, b, h => by cases b <;> first | (simp only [D.eqb, beq_iff_eq] at h; rw [h]) | cases h
  | .int a, b, h => by cases b <;> first | (simp only [D.eqb, decide_eq_true_eq] at h; rw [h]) | cases h
  | .str a, b, h => by cases b <;> first | (simp only [D.eqb, decide_eq_true_eq] at h; rw [h]) | cases h
  | .tup xs, b, h => by cases b <;> first | (simp only [D.eqb] at h; rw [D.eqbs_eq h]) | cases h
  | .rol xs, b, h => by cases b <;> first | (simp only [D.eqb] at h; rw [D.eqbs_eq h]) | cases h
  | .ref a, b, h => by cases b <;> first | (simp only [D.eqb, decide_eq_true_eq] at h; rw [h]) | cases h
theorem D.eqbs_eq : ∀ {a b : List D}, D.eqbs a b = true → a = b
  | [], b, h => by cases b <;> first | rfl | cases h
  | x :: xs, b, h => by
    cases b with
    | nil => cases h
    | cons y ys =>
      simp only [D.eqbs, Bool.and_eq_true] at h
      rw [D.eqb_eq h.1, D.eqbs_eq h.2]
end
mutual
theorem D.eqb_refl : ∀ (a : D), D.eqb a a = true
  | .non => rfl
  | .bl a => by simp [D.eqb]
  | .int a => by simp [D.eqb]
  | .str a => by simp [D.eqb]
  | .tup xs => by simp only [D.eqb]; exact D.eqbs_refl xs
  | .rol xs => by simp only [D.eqb]; exact D.eqbs_refl xs
  | .ref a => by simp [D.eqb]
theorem D.eqbs_refl : ∀ (a : List D), D.eqbs a a = true
  | [] => rfl
  | x :: xs => by simp only [D.eqbs, D.eqb_refl x, D.eqbs_refl xs, Bool.and_self]
end
/-- lists that must stand as they were -/
abbrev Gd := List (Nat × List D)
def isL (st : Sto) (n : Nat) (xs : List D) : Bool := match st[n]? with
  | some (.lst ys) => D.eqbs ys xs
  | _ => false
def gok (gs : Gd) (st : Sto) : Bool := gs.all fun p => isL st p.1 p.2
theorem isL_iff {st : Sto} {n : Nat} {xs : List D} : isL st n xs = true ↔ st[n]? = some (.lst xs) := by
  unfold isL
  constructor
  · intro h
    split at h
    · rename_i ys e; rw [e, D.eqbs_eq h]
    · cases h
  · intro h; rw [h]; exact D.eqbs_refl xs

/-! ### sources -/
inductive Src where
  | l (a : Addr)
  | t (a : Addr)
def Src.at : Src → Addr
  | .l a => a
  | .t a => a
def Src.Ok (K : PySem.W.Frag) (H : Hp) : Src → List V → Prop
  | .l a, xs => SqL K H a xs
  | .t a, xs => SqT K H a xs
def Src.cell : Src → Addr → Nat → Heap → Prop
  | .l a, it, i, h => h.IsListIter it a i
  | .t a, it, i, h => h.IsTupleIter it a i
def Src.ob : Src → Obj
  | .l a => { cls := .type "list_iterator", data := .fields #[.ref a, .int 0 0] }
  | .t a => { cls := .type "tuple_iterator", data := .fields #[.ref a, .int 0 0] }
def Src.is : Src → Array Value → Heap → Prop
  | .l a, its, h => h.IsList a its
  | .t a, its, h => h.IsTuple a its
section
variable {X : Cx} {pins : List (Addr × Obj)} {σ : L2.St} {H : Hp} {s : Shared} {S : Src} {xs ys : List V} {prog : Program} {w : World} {A : Around}
theorem Src.inv (I : Inv X pins σ H s) (h : S.Ok X.K H xs) : ∃ its : List Value, Vals xs its ∧ S.is its.toArray s.heap ∧ xs.length ≤ sizeLine := by
  cases S with
  | l a => obtain ⟨its, r, p, z⟩ := I.list h; exact ⟨its, r, p.isList, z⟩
  | t a => obtain ⟨its, r, p, z⟩ := I.tuple h; exact ⟨its, r, p, z⟩
theorem Src.inj (I : Inv X pins σ H s) (h : S.Ok X.K H xs) (h' : S.Ok X.K H ys) : xs = ys := by
  cases S with
  | l a => exact I.list_inj h h'
  | t a => exact I.tuple_inj h h'
theorem Src.begins (S : Src) (its : Array Value) : Begins (.ref S.at) S.ob (S.is its) := by
  cases S with
  | l a => exact begins_list a its
  | t a => exact begins_tuple a its
theorem Src.draws (hh : A.handled = none) (it : Addr) (hne : S.at ≠ it) (its : Array Value) : Draws prog w A it [it, S.at] its.size (fun i v => its[i]? = some v) (fun i h => S.cell it i h ∧ S.is its h) := by
  cases S with
  | l a => exact Draws.list hh it a hne its
  | t a => exact Draws.tuple hh it a hne its
theorem Src.lt {its : Array Value} {h : Heap} (x : S.is its h) : S.at < h.objs.size := by
  cases S with
  | l a => obtain ⟨o, e, _⟩ := x; exact Heap.lt_size e
  | t a => obtain ⟨o, e, _⟩ := x; exact Heap.lt_size e
theorem Src.get {its : Array Value} {h : Heap} (x : S.is its h) : ∃ o, h.get? S.at = some o ∧ (o.cls = .type "list" ∨ o.cls = .type "tuple") := by
  cases S with
  | l a => obtain ⟨o, e, c, _⟩ := x; exact ⟨o, e, .inl c⟩
  | t a => obtain ⟨o, e, c, _⟩ := x; exact ⟨o, e, .inr c⟩
theorem Src.cell_get {it : Addr} {i : Nat} {h : Heap} (x : S.cell it i h) : ∃ o n vs, h.get? it = some o ∧ o.cls = .type n ∧ (n = "list_iterator" ∨ n = "tuple_iterator") ∧ o.data = .fields vs := by
  cases S with
  | l a => obtain ⟨o, e, c, d⟩ := x; exact ⟨o, _, _, e, c, .inl rfl, d⟩
  | t a => obtain ⟨o, e, c, d⟩ := x; exact ⟨o, _, _, e, c, .inr rfl, d⟩
theorem Src.cell_at {it : Addr} {i : Nat} {h h' : Heap} (x : S.cell it i h) (k : ∀ o, h.get? it = some o → h'.get? it = some o) : S.cell it i h' := by
  cases S with
  | l a => exact Heap.IsListIter.at x fun o e => k o e
  | t a => exact Heap.IsTupleIter.at x fun o e => k o e
theorem Src.cell0 {it : Addr} {h : Heap} (e : h.get? it = some S.ob) : S.cell it 0 h := by
  cases S with
  | l a => exact ⟨_, e, rfl, rfl⟩
  | t a => exact ⟨_, e, rfl, rfl⟩
theorem Src.ne {it : Addr} {i : Nat} {its : Array Value} {h : Heap} (x : S.is its h) (y : S.cell it i h) : S.at ≠ it := fun e => by
  obtain ⟨o, e1, c1⟩ := S.get x
  obtain ⟨o', n, vs, e2, c2, hn, _⟩ := S.cell_get y
  rw [e, e2] at e1
  cases e1
  rw [c2] at c1
  rcases hn with rfl | rfl <;> rcases c1 with c1 | c1 <;> exact absurd (Value.type.inj c1) (by decide)
end

/-! ### enumerate -/
def ItE (K : PySem.W.Frag) (S : Src) : It :=
  ⟨fun i H => ∃ xs x, S.Ok K H xs ∧ xs[i]? = some x, fun i H v H' => ∃ T x, v = .ref T ∧ H T = none ∧ H' = upd H T (.tup [.int (i : Nat), x]) ∧ ∀ xs, S.Ok K H xs → xs[i]? = some x, fun i H => ∃ xs, S.Ok K H xs ∧ xs.length = i⟩
theorem turn_enS {P : Program} {w : World} {K : PySem.W.Frag} {elts : List Expr} {kk : Nat} {tpos : Pos} (S : Src) (e it : Addr) :
    Turn P w K (.Tuple elts kk tpos) (ItE K S) [e, it] e (fun i h => (∃ old, IsEnum h e it (0 + ((i : Nat) : Int)) old) ∧ S.cell it i h ∧ e ≠ it) where
  mem := by simp
  obj := fun i h st b hb => by
    obtain ⟨⟨old, he⟩, hc, _⟩ := st
    have e' : b = e ∨ b = it := by simpa using hb
    rcases e' with z | z
    · rw [z]; exact ⟨_, he, fun v q => nomatch q⟩
    · obtain ⟨o, n, vs, e2, _, _, d⟩ := S.cell_get hc
      rw [z]; exact ⟨o, e2, fun v q => by rw [d] at q; cases q⟩
  keep := fun i h h' st k => let ⟨⟨old, he⟩, hi, hne⟩ := st; ⟨⟨old, k e (by simp) _ he⟩, S.cell_at hi fun o q => k it (by simp) o q, hne⟩
  item := by
    intro X hP hw hK hc i pins s σ H E I hf st hg
    subst hP hw hK
    obtain ⟨⟨old, he⟩, hit, hne⟩ := st
    obtain ⟨xs, x, hq, hx⟩ := hg
    obtain ⟨its, rv, p, hz⟩ := S.inv I hq
    obtain ⟨u, hu, ru⟩ := rv.get hx
    have hSe : e ≠ S.at := fun z => by
      obtain ⟨o, e1, c1⟩ := S.get p
      rw [← z, he] at e1; cases e1
      rcases c1 with c | c <;> exact absurd (Value.type.inj c) (by decide)
    have G := GoesN.enumFrom (prog := X.prog) (w := X.w) (A := X.A) (elts := elts) (x1 := kk) (pos := tpos) 0 (S.draws (A := X.A.in1) (I.ok.hd hc) it (S.ne p hit) its.toArray) e hne (by simp [hne, hSe]) (by simp)
    refine G.goes i s _ E ?_ ⟨⟨old, he⟩, hit, p⟩ fun v h' tk hY st' hk htk => ?_
    · have := (List.getElem?_eq_some_iff.mp hu).1
      simpa using this
    obtain ⟨T, t, y, rfl, hT, hy, hTT⟩ := hY
    have ey : y = u := by
      have : its.toArray[i]? = some u := by simpa using hu
      rw [this] at hy; cases hy; rfl
    subst ey
    obtain ⟨o1, ho1, hc1, n1, hd1⟩ := hTT
    have new : ObjOk X.prog X.w (upd H T (.tup [.int (i : Nat), x])) h' T (.tup [.int (i : Nat), x]) :=
      ⟨by show 2 ≤ sizeLine; decide, [.int (0 + (i : Int)) t, y], .cons ⟨t, by rw [Int.zero_add]⟩ (.cons ru .nil), ⟨o1, ho1, hc1, n1, hd1⟩⟩
    have I1 : Inv X pins σ (upd H T (.tup [.int (i : Nat), x])) { s with heap := h', toks := tk } :=
      I.turnedNew (ch := [e, it]) (fun b ob hb q => hk b ob hb q) hf hT new
    refine ⟨.ref T, _, I1, rfl, ⟨T, x, rfl, I.hok.fresh hT, rfl, fun ys hy => by rw [S.inj I hy hq]; exact hx⟩, ⟨st'.1, st'.2.1, hne⟩, fun b hb => ?_⟩
    have hb' : b < s.heap.objs.size := by
      have e' : b = e ∨ b = it := by simpa using hb
      rcases e' with z | z
      · rw [z]; exact Heap.lt_size he
      · obtain ⟨o, n, vs, e2, _⟩ := S.cell_get hit
        rw [z]; exact Heap.lt_size e2
    rw [upd_ne (Nat.ne_of_lt (Nat.lt_of_lt_of_le hb' hT))]
    exact (hf b hb).1
  done := by
    intro X hP hw hK hc i pins s σ H E I hf st hg
    subst hP hw hK
    obtain ⟨⟨old, he⟩, hit, hne⟩ := st
    obtain ⟨xs, hq, hx⟩ := hg
    obtain ⟨its, rv, p, hz⟩ := S.inv I hq
    have hSe : e ≠ S.at := fun z => by
      obtain ⟨o, e1, c1⟩ := S.get p
      rw [← z, he] at e1; cases e1
      rcases c1 with c | c <;> exact absurd (Value.type.inj c) (by decide)
    have G := GoesN.enumFrom (prog := X.prog) (w := X.w) (A := X.A) (elts := elts) (x1 := kk) (pos := tpos) 0 (S.draws (A := X.A.in1) (I.ok.hd hc) it (S.ne p hit) its.toArray) e hne (by simp [hne, hSe]) (by simp)
    have hl := rv.length
    have hi : i = its.toArray.size := by simp; omega
    subst hi
    refine G.stops s _ E ⟨⟨old, he⟩, hit, p⟩ fun h' tk hk htk => ?_
    exact I.turnedL (t' := tk) (ch := [e, it]) (fun b o hb q => hk b o hb q) hf
  self := fun A i s Q E st h => let ⟨⟨_, he⟩, _⟩ := st; wpAny_pyIter_enum he h
end Fd
end
section
set_option Elab.async false
set_option linter.all false
set_option maxRecDepth 100000
set_option maxHeartbeats 4000000
namespace Fd
open PySem PySem.Spec PyProof.Rows L2

/-! ### zip of two, of three -/
def ItZ (K : PySem.W.Frag) (S S' : Src) : It :=
  ⟨fun i H => ∃ xs x ys y, S.Ok K H xs ∧ xs[i]? = some x ∧ S'.Ok K H ys ∧ ys[i]? = some y,
    fun i H v H' => ∃ T x y, v = .ref T ∧ H T = none ∧ H' = upd H T (.tup [x, y]) ∧ (∀ xs, S.Ok K H xs → xs[i]? = some x) ∧ ∀ ys, S'.Ok K H ys → ys[i]? = some y,
    fun i H => ∃ xs ys, S.Ok K H xs ∧ S'.Ok K H ys ∧ min xs.length ys.length = i⟩
theorem iter_ne {S : Src} {it e : Addr} {its : Array Value} {h : Heap} {n : String} {vs : Array Value} {sl : Array (Option Value)} {dd : Option Addr} (x : S.is its h) (he : h.get? e = some { cls := .type n, dict := dd, data := .fields vs, slots := sl }) (hn : n ≠ "list" ∧ n ≠ "tuple") : e ≠ S.at := fun z => by
  obtain ⟨o, e1, c1⟩ := S.get x
  rw [← z, he] at e1; cases e1
  rcases c1 with c | c
  · exact hn.1 (Value.type.inj c)
  · exact hn.2 (Value.type.inj c)
theorem turn_zS {P : Program} {w : World} {K : PySem.W.Frag} {elts : List Expr} {kk : Nat} {tpos : Pos} (S S' : Src) (z TI TO i1 i2 : Addr) (D : ZipSep2 z TI TO i1 i2 [i1, S.at] [i2, S'.at]) :
    Turn P w K (.Tuple elts kk tpos) (ItZ K S S') [z, TI, TO, i1, i2] z (fun i h => IsZip h z TI TO .none ∧ IsTupOf2 h TI (.ref i1) (.ref i2) ∧ (∃ a1 a2, IsTupOf2 h TO a1 a2) ∧ S.cell i1 i h ∧ S'.cell i2 i h) where
  mem := by simp
  obj := fun i h st b hb => by
    obtain ⟨hz, hTI, ⟨a1, a2, hTO⟩, h1, h2⟩ := st
    have e' : b = z ∨ b = TI ∨ b = TO ∨ b = i1 ∨ b = i2 := by simpa using hb
    rcases e' with q | q | q | q | q
    · rw [q]; exact ⟨_, hz, fun v q => nomatch q⟩
    · rw [q]; exact ⟨_, hTI, fun v q => nomatch q⟩
    · rw [q]; exact ⟨_, hTO, fun v q => nomatch q⟩
    · obtain ⟨o, n, vs, e2, _, _, d⟩ := S.cell_get h1
      rw [q]; exact ⟨o, e2, fun v q => by rw [d] at q; cases q⟩
    · obtain ⟨o, n, vs, e2, _, _, d⟩ := S'.cell_get h2
      rw [q]; exact ⟨o, e2, fun v q => by rw [d] at q; cases q⟩
  keep := fun i h h' st k => let ⟨hz, hTI, ⟨a1, a2, hTO⟩, h1, h2⟩ := st
    ⟨k z (by simp) _ hz, k TI (by simp) _ hTI, ⟨a1, a2, k TO (by simp) _ hTO⟩, S.cell_at h1 fun o q => k i1 (by simp) o q, S'.cell_at h2 fun o q => k i2 (by simp) o q⟩
  item := by
    intro X hP hw hK hc i pins s σ H E I hf st hg
    subst hP hw hK
    obtain ⟨hz, hTI, ⟨a1, a2, hTO⟩, h1, h2⟩ := id st
    obtain ⟨xs, x, ys, y, hq, hx, hq', hy⟩ := hg
    obtain ⟨its, rv, p, _⟩ := S.inv I hq
    obtain ⟨its', rv', p', _⟩ := S'.inv I hq'
    obtain ⟨u, hu, ru⟩ := rv.get hx
    obtain ⟨u', hu', ru'⟩ := rv'.get hy
    have G := GoesN.zip2 (prog := X.prog) (w := X.w) (A := X.A) (elts := elts) (x1 := kk) (pos := tpos) D (S.draws (A := X.A.in1) (I.ok.hd hc) i1 (S.ne p h1) its.toArray) (S'.draws (A := X.A.in1) (I.ok.hd hc) i2 (S'.ne p' h2) its'.toArray)
    refine G.goes i s _ E ?_ ⟨hz, hTI, ⟨a1, a2, hTO⟩, ⟨h1, p⟩, ⟨h2, p'⟩⟩ fun v h' tk hY st' hk htk => ?_
    · have l1 := (List.getElem?_eq_some_iff.mp hu).1
      have l2 := (List.getElem?_eq_some_iff.mp hu').1
      simp; omega
    obtain ⟨T, b1, b2, rfl, hT, e1, e2, hTT⟩ := hY
    have f1 : b1 = u := by
      have : its.toArray[i]? = some u := by simpa using hu
      rw [this] at e1; cases e1; rfl
    have f2 : b2 = u' := by
      have : its'.toArray[i]? = some u' := by simpa using hu'
      rw [this] at e2; cases e2; rfl
    subst f1 f2
    obtain ⟨o1, ho1, hc1, n1, hd1⟩ := hTT
    have new : ObjOk X.prog X.w (upd H T (.tup [x, y])) h' T (.tup [x, y]) := ⟨by show 2 ≤ sizeLine; decide, [b1, b2], .cons ru (.cons ru' .nil), ⟨o1, ho1, hc1, n1, hd1⟩⟩
    have hf4 : ∀ b ∈ [z, TO, i1, i2], FpOk X pins H b := fun b hb => hf b (by
      simp only [List.mem_cons, List.not_mem_nil, or_false] at hb ⊢
      rcases hb with h | h | h | h <;> simp [h])
    have I1 : Inv X pins σ (upd H T (.tup [x, y])) { s with heap := h', toks := tk } := I.turnedNew (ch := [z, TO, i1, i2]) (fun b ob hb q => hk b ob hb q) hf4 hT new
    refine ⟨.ref T, _, I1, rfl, ⟨T, x, y, rfl, I.hok.fresh hT, rfl, fun zs hz => by rw [S.inj I hz hq]; exact hx, fun zs hz => by rw [S'.inj I hz hq']; exact hy⟩, ⟨st'.1, st'.2.1, st'.2.2.1, st'.2.2.2.1.1, st'.2.2.2.2.1⟩, fun b hb => ?_⟩
    have hb' : b < s.heap.objs.size := by
      have e' : b = z ∨ b = TI ∨ b = TO ∨ b = i1 ∨ b = i2 := by simpa using hb
      rcases e' with q | q | q | q | q
      · rw [q]; exact Heap.lt_size hz
      · rw [q]; exact Heap.lt_size hTI
      · rw [q]; exact Heap.lt_size hTO
      · obtain ⟨o, n, vs, e2, _⟩ := S.cell_get h1
        rw [q]; exact Heap.lt_size e2
      · obtain ⟨o, n, vs, e2, _⟩ := S'.cell_get h2
        rw [q]; exact Heap.lt_size e2
    rw [upd_ne (Nat.ne_of_lt (Nat.lt_of_lt_of_le hb' hT))]
    exact (hf b hb).1
  done := by
    intro X hP hw hK hc i pins s σ H E I hf st hg
    subst hP hw hK
    obtain ⟨hz, hTI, ⟨a1, a2, hTO⟩, h1, h2⟩ := id st
    obtain ⟨xs, ys, hq, hq', hi⟩ := hg
    obtain ⟨its, rv, p, _⟩ := S.inv I hq
    obtain ⟨its', rv', p', _⟩ := S'.inv I hq'
    have G := GoesN.zip2 (prog := X.prog) (w := X.w) (A := X.A) (elts := elts) (x1 := kk) (pos := tpos) D (S.draws (A := X.A.in1) (I.ok.hd hc) i1 (S.ne p h1) its.toArray) (S'.draws (A := X.A.in1) (I.ok.hd hc) i2 (S'.ne p' h2) its'.toArray)
    have l1 := rv.length
    have l2 := rv'.length
    have hi' : i = min its.toArray.size its'.toArray.size := by simp; omega
    subst hi'
    have hf4 : ∀ b ∈ [z, TO, i1, i2], FpOk X pins H b := fun b hb => hf b (by
      simp only [List.mem_cons, List.not_mem_nil, or_false] at hb ⊢
      rcases hb with h | h | h | h <;> simp [h])
    refine G.stops s _ E ⟨hz, hTI, ⟨a1, a2, hTO⟩, ⟨h1, p⟩, ⟨h2, p'⟩⟩ fun h' tk hk htk => ?_
    exact I.turnedL (t' := tk) (ch := [z, TO, i1, i2]) (fun b o hb q => hk b o hb q) hf4
  self := fun A i s Q E st h => wpAny_pyIter_zip st.1 h

def ItZ3 (K : PySem.W.Frag) (S S' S'' : Src) : It :=
  ⟨fun i H => ∃ xs x ys y zs z, S.Ok K H xs ∧ xs[i]? = some x ∧ S'.Ok K H ys ∧ ys[i]? = some y ∧ S''.Ok K H zs ∧ zs[i]? = some z,
    fun i H v H' => ∃ T x y z, v = .ref T ∧ H T = none ∧ H' = upd H T (.tup [x, y, z]) ∧ (∀ xs, S.Ok K H xs → xs[i]? = some x) ∧ (∀ ys, S'.Ok K H ys → ys[i]? = some y) ∧ ∀ ys, S''.Ok K H ys → ys[i]? = some z,
    fun i H => ∃ xs ys zs, S.Ok K H xs ∧ S'.Ok K H ys ∧ S''.Ok K H zs ∧ min (min xs.length ys.length) zs.length = i⟩
theorem turn_z3S {P : Program} {w : World} {K : PySem.W.Frag} {elts : List Expr} {kk : Nat} {tpos : Pos} (S S' S'' : Src) (z TI TO i1 i2 i3 : Addr) (D : ZipSep3 z TI TO i1 i2 i3 [i1, S.at] [i2, S'.at] [i3, S''.at]) :
    Turn P w K (.Tuple elts kk tpos) (ItZ3 K S S' S'') [z, TI, TO, i1, i2, i3] z (fun i h => IsZip h z TI TO .none ∧ IsTupOf3 h TI (.ref i1) (.ref i2) (.ref i3) ∧ (∃ a1 a2 a3, IsTupOf3 h TO a1 a2 a3) ∧ S.cell i1 i h ∧ S'.cell i2 i h ∧ S''.cell i3 i h) where
  mem := by simp
  obj := fun i h st b hb => by
    obtain ⟨hz, hTI, ⟨a1, a2, a3, hTO⟩, h1, h2, h3⟩ := st
    have e' : b = z ∨ b = TI ∨ b = TO ∨ b = i1 ∨ b = i2 ∨ b = i3 := by simpa using hb
    rcases e' with q | q | q | q | q | q
    · rw [q]; exact ⟨_, hz, fun v q => nomatch q⟩
    · rw [q]; exact ⟨_, hTI, fun v q => nomatch q⟩
    · rw [q]; exact ⟨_, hTO, fun v q => nomatch q⟩
    · obtain ⟨o, n, vs, e2, _, _, d⟩ := S.cell_get h1
      rw [q]; exact ⟨o, e2, fun v q => by rw [d] at q; cases q⟩
    · obtain ⟨o, n, vs, e2, _, _, d⟩ := S'.cell_get h2
      rw [q]; exact ⟨o, e2, fun v q => by rw [d] at q; cases q⟩
    · obtain ⟨o, n, vs, e2, _, _, d⟩ := S''.cell_get h3
      rw [q]; exact ⟨o, e2, fun v q => by rw [d] at q; cases q⟩
  keep := fun i h h' st k => let ⟨hz, hTI, ⟨a1, a2, a3, hTO⟩, h1, h2, h3⟩ := st
    ⟨k z (by simp) _ hz, k TI (by simp) _ hTI, ⟨a1, a2, a3, k TO (by simp) _ hTO⟩, S.cell_at h1 fun o q => k i1 (by simp) o q, S'.cell_at h2 fun o q => k i2 (by simp) o q, S''.cell_at h3 fun o q => k i3 (by simp) o q⟩
  item := by
    intro X hP hw hK hc i pins s σ H E I hf st hg
    subst hP hw hK
    obtain ⟨hz, hTI, ⟨a1, a2, a3, hTO⟩, h1, h2, h3⟩ := id st
    obtain ⟨xs, x, ys, y, zs, z', hq, hx, hq', hy, hq'', hz'⟩ := hg
    obtain ⟨its, rv, p, _⟩ := S.inv I hq
    obtain ⟨its', rv', p', _⟩ := S'.inv I hq'
    obtain ⟨its'', rv'', p'', _⟩ := S''.inv I hq''
    obtain ⟨u, hu, ru⟩ := rv.get hx
    obtain ⟨u', hu', ru'⟩ := rv'.get hy
    obtain ⟨u'', hu'', ru''⟩ := rv''.get hz'
    have G := GoesN.zip3 (prog := X.prog) (w := X.w) (A := X.A) (elts := elts) (x1 := kk) (pos := tpos) D (S.draws (A := X.A.in1) (I.ok.hd hc) i1 (S.ne p h1) its.toArray) (S'.draws (A := X.A.in1) (I.ok.hd hc) i2 (S'.ne p' h2) its'.toArray) (S''.draws (A := X.A.in1) (I.ok.hd hc) i3 (S''.ne p'' h3) its''.toArray)
    refine G.goes i s _ E ?_ ⟨hz, hTI, ⟨a1, a2, a3, hTO⟩, ⟨h1, p⟩, ⟨h2, p'⟩, ⟨h3, p''⟩⟩ fun v h' tk hY st' hk htk => ?_
    · have l1 := (List.getElem?_eq_some_iff.mp hu).1
      have l2 := (List.getElem?_eq_some_iff.mp hu').1
      have l3 := (List.getElem?_eq_some_iff.mp hu'').1
      simp; omega
    obtain ⟨T, b1, b2, b3, rfl, hT, e1, e2, e3, hTT⟩ := hY
    have f1 : b1 = u := by
      have : its.toArray[i]? = some u := by simpa using hu
      rw [this] at e1; cases e1; rfl
    have f2 : b2 = u' := by
      have : its'.toArray[i]? = some u' := by simpa using hu'
      rw [this] at e2; cases e2; rfl
    have f3 : b3 = u'' := by
      have : its''.toArray[i]? = some u'' := by simpa using hu''
      rw [this] at e3; cases e3; rfl
    subst f1 f2 f3
    obtain ⟨o1, ho1, hc1, n1, hd1⟩ := hTT
    have new : ObjOk X.prog X.w (upd H T (.tup [x, y, z'])) h' T (.tup [x, y, z']) := ⟨by show 3 ≤ sizeLine; decide, [b1, b2, b3], .cons ru (.cons ru' (.cons ru'' .nil)), ⟨o1, ho1, hc1, n1, hd1⟩⟩
    have hf5 : ∀ b ∈ [z, TO, i1, i2, i3], FpOk X pins H b := fun b hb => hf b (by
      simp only [List.mem_cons, List.not_mem_nil, or_false] at hb ⊢
      rcases hb with h | h | h | h | h <;> simp [h])
    have I1 : Inv X pins σ (upd H T (.tup [x, y, z'])) { s with heap := h', toks := tk } := I.turnedNew (ch := [z, TO, i1, i2, i3]) (fun b ob hb q => hk b ob hb q) hf5 hT new
    refine ⟨.ref T, _, I1, rfl, ⟨T, x, y, z', rfl, I.hok.fresh hT, rfl, fun zs hz => by rw [S.inj I hz hq]; exact hx, fun zs hz => by rw [S'.inj I hz hq']; exact hy, fun zs hz => by rw [S''.inj I hz hq'']; exact hz'⟩,
      ⟨st'.1, st'.2.1, st'.2.2.1, st'.2.2.2.1.1, st'.2.2.2.2.1.1, st'.2.2.2.2.2.1⟩, fun b hb => ?_⟩
    have hb' : b < s.heap.objs.size := by
      have e' : b = z ∨ b = TI ∨ b = TO ∨ b = i1 ∨ b = i2 ∨ b = i3 := by simpa using hb
      rcases e' with q | q | q | q | q | q
      · rw [q]; exact Heap.lt_size hz
      · rw [q]; exact Heap.lt_size hTI
      · rw [q]; exact Heap.lt_size hTO
      · obtain ⟨o, n, vs, e2, _⟩ := S.cell_get h1
        rw [q]; exact Heap.lt_size e2
      · obtain ⟨o, n, vs, e2, _⟩ := S'.cell_get h2
        rw [q]; exact Heap.lt_size e2
      · obtain ⟨o, n, vs, e2, _⟩ := S''.cell_get h3
        rw [q]; exact Heap.lt_size e2
    rw [upd_ne (Nat.ne_of_lt (Nat.lt_of_lt_of_le hb' hT))]
    exact (hf b hb).1
  done := by
    intro X hP hw hK hc i pins s σ H E I hf st hg
    subst hP hw hK
    obtain ⟨hz, hTI, ⟨a1, a2, a3, hTO⟩, h1, h2, h3⟩ := id st
    obtain ⟨xs, ys, zs, hq, hq', hq'', hi⟩ := hg
    obtain ⟨its, rv, p, _⟩ := S.inv I hq
    obtain ⟨its', rv', p', _⟩ := S'.inv I hq'
    obtain ⟨its'', rv'', p'', _⟩ := S''.inv I hq''
    have G := GoesN.zip3 (prog := X.prog) (w := X.w) (A := X.A) (elts := elts) (x1 := kk) (pos := tpos) D (S.draws (A := X.A.in1) (I.ok.hd hc) i1 (S.ne p h1) its.toArray) (S'.draws (A := X.A.in1) (I.ok.hd hc) i2 (S'.ne p' h2) its'.toArray) (S''.draws (A := X.A.in1) (I.ok.hd hc) i3 (S''.ne p'' h3) its''.toArray)
    have l1 := rv.length
    have l2 := rv'.length
    have l3 := rv''.length
    have hi' : i = min (min its.toArray.size its'.toArray.size) its''.toArray.size := by simp; omega
    subst hi'
    have hf5 : ∀ b ∈ [z, TO, i1, i2, i3], FpOk X pins H b := fun b hb => hf b (by
      simp only [List.mem_cons, List.not_mem_nil, or_false] at hb ⊢
      rcases hb with h | h | h | h | h <;> simp [h])
    refine G.stops s _ E ⟨hz, hTI, ⟨a1, a2, a3, hTO⟩, ⟨h1, p⟩, ⟨h2, p'⟩, ⟨h3, p''⟩⟩ fun h' tk hk htk => ?_
    exact I.turnedL (t' := tk) (ch := [z, TO, i1, i2, i3]) (fun b o hb q => hk b o hb q) hf5
  self := fun A i s Q E st h => wpAny_pyIter_zip st.1 h
end Fd
end
section
set_option Elab.async false
set_option linter.all false
set_option maxRecDepth 100000
set_option maxHeartbeats 4000000
namespace Fd
open PySem PySem.Spec PyProof.Rows L2

theorem en_newT (l : Addr) (items : Array Value) (n : Nat) (dct : Option Addr) (sl : Array (Option Value)) :
    Meets (Builtin.«enumerate.__new__» ⟨[.type "enumerate", .ref l], []⟩) (fun _ R s => s.heap.get? l = some { cls := .type "tuple", dict := dct, data := .seq items n, slots := sl } ∧
      R (.ok (.ret (.ref (s.heap.push (Src.t l).ob).objs.size))) { s with heap := (s.heap.push (Src.t l).ob).push { cls := .type "enumerate", data := .fields #[.none, .bool false, .ref s.heap.objs.size, rawInt 0, .none, .none] } }) := by
  refine .of_wp fun prog w A R s h => ?_
  obtain ⟨hp, g, d, tk, os⟩ := s
  obtain ⟨hl, h⟩ := h
  have hsub := sub_enumerate
  have q1 : ∀ {A' : Around} {E : Value → Shared → Prop} {Q : Value → Shared → Prop}, Q (.ref hp.objs.size) ⟨hp.push (Src.t l).ob, g, d, tk, os⟩ → wpAny (model prog w) A' (pyIter (.ref l)) Q E ⟨hp, g, d, tk, os⟩ :=
    fun q => wpAny_pyIter_tuple (t := l) (items := items) (s := ⟨hp, g, d, tk, os⟩) ⟨_, hl, rfl, n, rfl⟩ q
  wp_walk using wpAny_loadPart' hl
  refine wpAny_stack_any fun st => wpAny_pure ?_
  split
  · rename_i c _ _ _ _ _
    cases (c == Value.type "enumerate") <;> (wp_walk using wpAny_loadPart' hl, q1; exact ⟨_, rfl, h⟩)
  · wp_walk using wpAny_loadPart' hl, q1
    exact ⟨_, rfl, h⟩
section
variable {prog : Program} {w : World} {A : Around} {E : Value → Shared → Prop} {s : Shared}
theorem en_call {S : Src} {its : Array Value} {Q : Value → Shared → Prop} (hS : S.is its s.heap)
    (h : ∀ h', IsEnum h' (s.heap.objs.size + 1) s.heap.objs.size 0 .none → S.cell s.heap.objs.size 0 h' → h'.objs.size = s.heap.objs.size + 2 →
      (∀ b o, s.heap.get? b = some o → h'.get? b = some o) → Q (.ref (s.heap.objs.size + 1)) { s with heap := h' }) :
    wpAny (model prog w) A (call (.type "enumerate") [.ref S.at]) Q E s := by
  cases S with
  | l a => exact call_enumerate_list hS fun h' he hi hz hk => h h' he hi hz hk
  | t a =>
    obtain ⟨⟨c, dct, dt, sl⟩, hl, hc, n, hd⟩ := hS
    simp only at hc hd
    subst hc hd
    refine callType_new F.called_enumerate (by decide) (F.typeCall_enumerate_1 _) (F.newCall_enumerate_1 _) (fun obj => F.args_object_init_2 obj _) F.entry_enumerate_new (en_newT a its n dct sl) ⟨hl, ?_⟩
    have hz : (s.heap.push (Src.t a).ob).objs.size = s.heap.objs.size + 1 := Heap.size_push ..
    show _ ∧ _
    rw [hz]
    have he : IsEnum ((s.heap.push (Src.t a).ob).push { cls := .type "enumerate", data := .fields #[.none, .bool false, .ref s.heap.objs.size, rawInt 0, .none, .none] }) (s.heap.objs.size + 1) s.heap.objs.size 0 .none := by
      have q := Heap.get?_push_size (s.heap.push (Src.t a).ob) (o := { cls := .type "enumerate", data := .fields #[.none, .bool false, .ref s.heap.objs.size, rawInt 0, .none, .none] }) rfl
      rw [hz] at q; exact q
    exact ⟨⟨_, he, rfl⟩, h _ he (Src.cell0 (Heap.get?_push_of_some _ (Heap.get?_push_size _ rfl))) (by rw [Heap.size_push, hz]) fun b o x => Heap.get?_push_of_some _ (Heap.get?_push_of_some _ x)⟩
end

/-! ### what a walk yields -/
abbrev IE := Mu → Sto → R (List D × Gd)
structure JOk (K : PySem.W.Frag) (J : It) (ι0 : List Addr) (H0 : Hp) (items : List D) (gs : Gd) : Prop where
  go : ∀ (i : Nat) ι H st d, Grow ι0 H0 ι H → Rel K H ι st → gok gs st = true → items[i]? = some d → J.go i H ∧ ∀ x H', J.yld i H x H' → Grow ι H ι H' ∧ Rel K H' ι st ∧ RV K H' ι x d
  stop : ∀ ι H st, Grow ι0 H0 ι H → Rel K H ι st → gok gs st = true → J.stop items.length H
def RJ (K : PySem.W.Frag) (H : Hp) (ι : List Addr) (J : It) (p : List D × Gd) : Prop := JOk K J ι H p.1 p.2
def tI (K : PySem.W.Frag) (mg : Str → Option Value) (E : XK) (m : IE) : TI := fun σ H Q => ∃ ι μ st, Rel K H ι st ∧ Sig K H ι σ μ ∧ Post K mg E (RJ K) ι H Q (m μ st)
abbrev PId (X : Cx) (E : XK) (tg iter : Expr) (m : IE) : Prop := PI X tg iter (tI X.K X.mg E m)
theorem PI.imp {X : Cx} {tg e : Expr} {t t' : TI} (h : PI X tg e t) (i : ∀ σ H Q, t' σ H Q → t σ H Q) : PI X tg e t' := ⟨fun pins s σ H R I q => h.run pins s σ H R I (i σ H R q)⟩
theorem PI.or {X : Cx} {tg e : Expr} {t t' : TI} (h : PI X tg e t) (h' : PI X tg e t') : PI X tg e (fun σ H Q => t σ H Q ∨ t' σ H Q) := ⟨fun pins s σ H R I q => q.elim (h.run pins s σ H R I) (h'.run pins s σ H R I)⟩

def srcD (d : D) (st : Sto) : Option (List D × Gd) := match d with
  | .tup xs => some (xs, [])
  | .rol xs => some (xs, [])
  | .ref n => match st[n]? with
    | some (.lst xs) => some (xs, [(n, xs)])
    | _ => none
  | _ => none
/-- what is known of a source as time passes -/
def SOk (K : PySem.W.Frag) (S : Src) (ι0 : List Addr) (H0 : Hp) (xs : List D) (gs : Gd) : Prop :=
  ∀ ι H st, Grow ι0 H0 ι H → Rel K H ι st → gok gs st = true → ∃ ys, S.Ok K H ys ∧ RVs K H ι ys xs
section
variable {K : PySem.W.Frag} {H H1 : Hp} {ι ι1 : List Addr} {st : Sto} {v : V} {d : D} {xs : List D} {gs : Gd}
theorem src_of (rel : Rel K H ι st) (r : RV K H ι v d) (h : srcD d st = some (xs, gs)) : ∃ S : Src, v = .ref S.at ∧ SOk K S ι H xs gs ∧ gok gs st = true := by
  unfold srcD at h
  cases r with
  | tup hs r => cases h; exact ⟨.t _, rfl, fun ι1 H1 st1 g rel1 _ => ⟨_, g.sqT hs, r.grow g⟩, rfl⟩
  | rol hs r => cases h; exact ⟨.l _, rfl, fun ι1 H1 st1 g rel1 _ => ⟨_, (g.sqR hs).sq, r.grow g⟩, rfl⟩
  | ref e =>
    rename_i a n
    simp only at h
    split at h
    · rename_i zs hz
      cases h
      refine ⟨.l a, rfl, fun ι1 H1 st1 g rel1 hg => ?_, by simp [gok, isL_iff.mpr hz]⟩
      have hg' : st1[n]? = some (.lst xs) := by
        simp only [gok, List.all_cons, List.all_nil, Bool.and_true] at hg
        exact isL_iff.mp hg
      obtain ⟨ys, e1, r⟩ := rel1.at (g.at e) hg'
      exact ⟨ys, .of e1, r⟩
    · cases h
  | _ => cases h
theorem SOk.grow {S : Src} (h : SOk K S ι H xs gs) (g : Grow ι H ι1 H1) : SOk K S ι1 H1 xs gs := fun ι2 H2 st2 g2 => h ι2 H2 st2 (g.trans g2)
theorem gok_app {gs gs' : Gd} (h : gok (gs ++ gs') st = true) : gok gs st = true ∧ gok gs' st = true := by
  unfold gok at h ⊢
  rw [List.all_append, Bool.and_eq_true] at h
  exact h
theorem gok_mk {gs gs' : Gd} (h : gok gs st = true) (h' : gok gs' st = true) : gok (gs ++ gs') st = true := by
  unfold gok at h h' ⊢
  rw [List.all_append, h, h']; rfl
/-- the plain walk of a source -/
def Src.J (K : PySem.W.Frag) : Src → It
  | .l a => Itl K a
  | .t a => Itt K a
theorem jok_src {S : Src} (h : SOk K S ι H xs gs) : JOk K (S.J K) ι H xs gs where
  go := fun i ι1 H1 st1 d g rel hg hd => by
    obtain ⟨ys, hs, r⟩ := h ι1 H1 st1 g rel hg
    obtain ⟨v, hv, rv⟩ := r.get hd
    cases S with
    | l a => exact ⟨⟨ys, v, hs, hv⟩, fun x H' ⟨e, hx⟩ => by subst e; have := hx ys hs; rw [hv] at this; cases this; exact ⟨Grow.refl, rel, rv⟩⟩
    | t a => exact ⟨⟨ys, v, hs, hv⟩, fun x H' ⟨e, hx⟩ => by subst e; have := hx ys hs; rw [hv] at this; cases this; exact ⟨Grow.refl, rel, rv⟩⟩
  stop := fun ι1 H1 st1 g rel hg => by
    obtain ⟨ys, hs, r⟩ := h ι1 H1 st1 g rel hg
    have hl := r.length
    cases S with
    | l a => exact ⟨ys, hs, by omega⟩
    | t a => exact ⟨ys, hs, by omega⟩
def enumD (xs : List D) : List D := xs.mapIdx fun i x => .tup [.int i, x]
theorem jok_en {S : Src} (h : SOk K S ι H xs gs) : JOk K (ItE K S) ι H (enumD xs) gs where
  go := fun i ι1 H1 st1 d g rel hg hd => by
    obtain ⟨ys, hs, r⟩ := h ι1 H1 st1 g rel hg
    unfold enumD at hd
    rw [List.getElem?_mapIdx] at hd
    obtain ⟨e, he, rfl⟩ := Option.map_eq_some_iff.mp hd
    obtain ⟨v, hv, rv⟩ := r.get he
    refine ⟨⟨ys, v, hs, hv⟩, fun x H' ⟨T, y, ex, hT, eH, hy⟩ => ?_⟩
    subst ex eH
    have e2 := hy ys hs
    rw [hv] at e2; cases e2
    exact ⟨grow_new hT, rel.side hT, .tup (.inl (.inl upd_same)) (.cons (.int _) (.cons (rv.grow (grow_new hT)) .nil))⟩
  stop := fun ι1 H1 st1 g rel hg => by
    obtain ⟨ys, hs, r⟩ := h ι1 H1 st1 g rel hg
    exact ⟨ys, hs, by rw [r.length]; simp [enumD]⟩
def zipD (xs ys : List D) : List D := List.zipWith (fun x y => .tup [x, y]) xs ys
theorem jok_z {S S' : Src} {ys : List D} {gs' : Gd} (h : SOk K S ι H xs gs) (h' : SOk K S' ι H ys gs') : JOk K (ItZ K S S') ι H (zipD xs ys) (gs ++ gs') where
  go := fun i ι1 H1 st1 d g rel hg hd => by
    obtain ⟨hg1, hg2⟩ := gok_app hg
    obtain ⟨vs, hs, r⟩ := h ι1 H1 st1 g rel hg1
    obtain ⟨ws, hs', r'⟩ := h' ι1 H1 st1 g rel hg2
    unfold zipD at hd
    rw [List.getElem?_zipWith] at hd
    cases hx : xs[i]? with
    | none => rw [hx] at hd; cases hd
    | some a =>
      cases hy : ys[i]? with
      | none => rw [hx, hy] at hd; cases hd
      | some b =>
        rw [hx, hy] at hd
        cases hd
        obtain ⟨v, hv, rv⟩ := r.get hx
        obtain ⟨w, hw, rw'⟩ := r'.get hy
        refine ⟨⟨vs, v, ws, w, hs, hv, hs', hw⟩, fun x H' ⟨T, y, z, ex, hT, eH, hy, hz⟩ => ?_⟩
        subst ex eH
        have e2 := hy vs hs
        rw [hv] at e2; cases e2
        have e3 := hz ws hs'
        rw [hw] at e3; cases e3
        exact ⟨grow_new hT, rel.side hT, .tup (.inl (.inl upd_same)) (.cons (rv.grow (grow_new hT)) (.cons (rw'.grow (grow_new hT)) .nil))⟩
  stop := fun ι1 H1 st1 g rel hg => by
    obtain ⟨hg1, hg2⟩ := gok_app hg
    obtain ⟨vs, hs, r⟩ := h ι1 H1 st1 g rel hg1
    obtain ⟨ws, hs', r'⟩ := h' ι1 H1 st1 g rel hg2
    exact ⟨vs, ws, hs, hs', by rw [r.length, r'.length]; simp [zipD]⟩
def zipD3 : List D → List D → List D → List D
  | x :: xs, y :: ys, z :: zs => .tup [x, y, z] :: zipD3 xs ys zs
  | _, _, _ => []
theorem zipD3_get : ∀ {xs ys zs : List D} {i : Nat} {d : D}, (zipD3 xs ys zs)[i]? = some d → ∃ x y z, xs[i]? = some x ∧ ys[i]? = some y ∧ zs[i]? = some z ∧ d = .tup [x, y, z]
  | x :: xs, y :: ys, z :: zs, 0, d, h => by
    have h' : some (D.tup [x, y, z]) = some d := h
    cases h'; exact ⟨x, y, z, rfl, rfl, rfl, rfl⟩
  | x :: xs, y :: ys, z :: zs, i + 1, d, h => by
    have h' : (zipD3 xs ys zs)[i]? = some d := h
    obtain ⟨a, b, c, h1, h2, h3, h4⟩ := zipD3_get (xs := xs) (ys := ys) (zs := zs) (i := i) h'
    exact ⟨a, b, c, h1, h2, h3, h4⟩
  | [], _, _, i, d, h => by simp [zipD3] at h
  | _ :: _, [], _, i, d, h => by simp [zipD3] at h
  | _ :: _, _ :: _, [], i, d, h => by simp [zipD3] at h
theorem zipD3_len : ∀ (xs ys zs : List D), (zipD3 xs ys zs).length = min (min xs.length ys.length) zs.length
  | x :: xs, y :: ys, z :: zs => by simp only [zipD3, List.length_cons, zipD3_len xs ys zs]; omega
  | [], _, _ => by simp [zipD3]
  | _ :: _, [], _ => by simp [zipD3]
  | _ :: _, _ :: _, [] => by simp [zipD3]
theorem jok_z3 {S S' S'' : Src} {ys zs : List D} {gs' gs'' : Gd} (h : SOk K S ι H xs gs) (h' : SOk K S' ι H ys gs') (h'' : SOk K S'' ι H zs gs'') : JOk K (ItZ3 K S S' S'') ι H (zipD3 xs ys zs) (gs ++ (gs' ++ gs'')) where
  go := fun i ι1 H1 st1 d g rel hg hd => by
    obtain ⟨hg1, hg2⟩ := gok_app hg
    obtain ⟨hg2, hg3⟩ := gok_app hg2
    obtain ⟨vs, hs, r⟩ := h ι1 H1 st1 g rel hg1
    obtain ⟨ws, hs', r'⟩ := h' ι1 H1 st1 g rel hg2
    obtain ⟨us, hs'', r''⟩ := h'' ι1 H1 st1 g rel hg3
    obtain ⟨a, b, c, ha, hb, hc, rfl⟩ := zipD3_get hd
    obtain ⟨v, hv, rv⟩ := r.get ha
    obtain ⟨w, hw, rw'⟩ := r'.get hb
    obtain ⟨u, hu, ru⟩ := r''.get hc
    refine ⟨⟨vs, v, ws, w, us, u, hs, hv, hs', hw, hs'', hu⟩, fun x H' ⟨T, y, z, z2, ex, hT, eH, hy, hz, hz2⟩ => ?_⟩
    subst ex eH
    have e2 := hy vs hs
    rw [hv] at e2; cases e2
    have e3 := hz ws hs'
    rw [hw] at e3; cases e3
    have e4 := hz2 us hs''
    rw [hu] at e4; cases e4
    exact ⟨grow_new hT, rel.side hT, .tup (.inl (.inl upd_same)) (.cons (rv.grow (grow_new hT)) (.cons (rw'.grow (grow_new hT)) (.cons (ru.grow (grow_new hT)) .nil)))⟩
  stop := fun ι1 H1 st1 g rel hg => by
    obtain ⟨hg1, hg2⟩ := gok_app hg
    obtain ⟨hg2, hg3⟩ := gok_app hg2
    obtain ⟨vs, hs, r⟩ := h ι1 H1 st1 g rel hg1
    obtain ⟨ws, hs', r'⟩ := h' ι1 H1 st1 g rel hg2
    obtain ⟨us, hs'', r''⟩ := h'' ι1 H1 st1 g rel hg3
    exact ⟨vs, ws, us, hs, hs', hs'', by rw [r.length, r'.length, r''.length, zipD3_len]⟩
def rangeD (lo : Int) (n : Nat) : List D := (List.range n).map fun i => .int (lo + (i : Nat))
theorem jok_rng (lo : Int) (n : Nat) : JOk K (Itr lo n) ι H (rangeD lo n) [] where
  go := fun i ι1 H1 st1 d g rel hg hd => by
    unfold rangeD at hd
    rw [List.getElem?_map] at hd
    obtain ⟨j, hj, rfl⟩ := Option.map_eq_some_iff.mp hd
    have hl : i < n := by
      have := (List.getElem?_eq_some_iff.mp hj).1
      simpa using this
    rw [List.getElem?_range hl] at hj
    cases hj
    exact ⟨hl, fun x H' ⟨e, ex⟩ => by subst e; subst ex; exact ⟨Grow.refl, rel, .int _⟩⟩
  stop := fun ι1 H1 st1 g rel hg => by
    show n ≤ (rangeD lo n).length
    simp [rangeD]
end
end Fd
end
section
set_option Elab.async false
set_option linter.all false
set_option maxRecDepth 100000
set_option maxHeartbeats 4000000
namespace Fd
open PySem PySem.Spec PyProof.Rows L2

def asSrc (d : D) (st : Sto) : R (List D × Gd) := match srcD d st with
  | some p => .ok p st
  | none => .bad
def mIt (f : EE) : IE := fun μ st => (f μ st).bind asSrc
def enG (d : D) (st : Sto) : R (List D × Gd) := match srcD d st with
  | some p => .ok (enumD p.1, p.2) st
  | none => .bad
def mEnum (f : EE) : IE := fun μ st => (f μ st).bind enG
def mZip (f g : EE) : IE := fun μ st => (f μ st).bind fun a st1 => (g μ st1).bind fun b st2 => match srcD a st2, srcD b st2 with
  | some p, some q => .ok (zipD p.1 q.1, p.2 ++ q.2) st2
  | _, _ => .bad
def mZip3 (f g h : EE) : IE := fun μ st => (f μ st).bind fun a st1 => (g μ st1).bind fun b st2 => (h μ st2).bind fun c st3 => match srcD a st3, srcD b st3, srcD c st3 with
  | some p, some q, some r => .ok (zipD3 p.1 q.1 r.1, p.2 ++ (q.2 ++ r.2)) st3
  | _, _, _ => .bad
abbrev big62 : Int := 4611686018427387904
def rngOk (i : Int) : Bool := decide (-big62 ≤ i) && decide (i < big62)
theorem rngOk.ok {i : Int} (h : rngOk i = true) : -(2 ^ 62) ≤ i ∧ i < 2 ^ 62 := by
  unfold rngOk big62 at h
  simp only [Bool.and_eq_true, decide_eq_true_eq] at h
  omega
def stepD (lo c : Int) (n : Nat) : List D := (List.range n).map fun i => .int (lo + (i : Nat) * c)
def rngs (ds : List D) (st : Sto) : R (List D × Gd) := match ds with
  | [.int j] => if rngOk j = true then .ok (rangeD 0 j.toNat, []) st else .bad
  | [.int i, .int j] => if rngOk i = true ∧ rngOk j = true then .ok (rangeD i (j - i).toNat, []) st else .bad
  | [.int i, .int j, .int c] => if c ≠ 0 ∧ c.natAbs < 1073741824 ∧ Builtin.Range.small i j c = true then .ok (stepD i c (Builtin.Range.rangeSize i j c).toNat, []) st else .bad
  | _ => .bad
def mRng (a : AE) : IE := fun μ st => (a μ st).bind rngs
section
variable {X : Cx} {E : XK} {tg e e1 e2 e3 : Expr} {es : List Expr} {p pos tpos : Pos} {f f1 f2 f3 : EE} {fs : AE} {elts : List Expr} {kk : Nat}
theorem Src.turn {P : Program} {w : World} {K : PySem.W.Frag} (S : Src) (it : Addr) : Turn P w K tg (S.J K) [it] it (fun i h => S.cell it i h) := by
  cases S with
  | l a => exact turn_list a it
  | t a => exact turn_tuple a it
theorem one_fresh {pins : List (Addr × Obj)} {σ : L2.St} {H : Hp} {s : Shared} (I : Inv X pins σ H s) : ∀ b ∈ [s.heap.objs.size], FpOk X pins H b := fun b hb => by
  have e : b = s.heap.objs.size := by simpa using hb
  subst e
  exact I.fpOk (Nat.le_refl _) (I.hok.fresh (Nat.le_refl _))
theorem r_it (he : PEd X E e f) : PId X E tg e (mIt f) := by
  refine ⟨fun pins s σ H R I ⟨ι, μ, st, rel, sig, q⟩ => ?_⟩
  refine thn (he.run pins s σ H _ I ⟨ι, μ, st, rel, sig, Post.bind q⟩) fun v s1 ⟨x, H1, I1, r1, ι1, d, st1, g1, rel1, rv, q1⟩ => ?_
  unfold asSrc at q1
  split at q1
  · rename_i p hp
    obtain ⟨S, rfl, ok, hg⟩ := src_of rel1 rv hp
    obtain ⟨ys, hs, r⟩ := ok ι1 H1 st1 Grow.refl rel1 hg
    obtain ⟨its, ri, hi, hz⟩ := S.inv I1 hs
    obtain rfl : v = Value.ref S.at := r1
    have hfree : S.ob.isFreed = false := (S.begins its.toArray).free
    refine (S.begins its.toArray).iter _ _ _ _ s1 _ hi ?_
    exact ⟨s1.heap.objs.size, [s1.heap.objs.size], _, S.J X.K, H1, rfl, I1.kept (t' := s1.toks) fun b o z => Heap.get?_push_of_some _ z, S.turn _, Src.cell0 (Heap.get?_push_size _ hfree), one_fresh I1, q1 ι1 H1 (S.J X.K) Grow.refl rel1 (jok_src ok)⟩
  · exact q1.elim
theorem two_fresh {pins : List (Addr × Obj)} {σ : L2.St} {H : Hp} {s : Shared} (I : Inv X pins σ H s) (k : Nat) {l : List Addr} (hl : ∀ b ∈ l, ∃ i, i ≤ k ∧ b = s.heap.objs.size + i) : ∀ b ∈ l, FpOk X pins H b := fun b hb => by
  obtain ⟨i, _, e⟩ := hl b hb
  subst e
  exact I.fpOk (Nat.le_add_right _ _) (I.hok.fresh (Nat.le_add_right _ _))
theorem r_enum (he : PEd X E e f) (hm : X.mg "enumerate" = none) (hg : Gl X "enumerate" := by rfl) (hs : starEach [e] X.env = (false, eval e X.env) :: starEach [] X.env := by rfl) (hpl : (backTo pos (starEach [] X.env)).any (·.1) = false := by rfl) :
    PId X E (.Tuple elts kk tpos) (.Call (.Name "enumerate" p) [e] [] pos) (mEnum f) := by
  refine ⟨fun pins s σ H R I ⟨ι, μ, st, rel, sig, q⟩ => ?_⟩
  have hq : tCons (tE X.K X.mg E f) tNil σ H (fun vs H1 => ∃ x ι1 d st1, vs = [x] ∧ Grow ι H ι1 H1 ∧ Rel X.K H1 ι1 st1 ∧ RV X.K H1 ι1 x d ∧ Post X.K X.mg E (RJ X.K) ι1 H1 R (enG d st1)) :=
    ⟨ι, μ, st, rel, sig, (Post.bind q).mono fun v H1 ⟨ι1, d, st1, a, b, c, e⟩ => ⟨v, ι1, d, st1, rfl, a, b, c, e⟩⟩
  refine Call_ (ld_blt I hg hm boot_enumerate (PyProof.Rows.callWith_type1 (thn ((pa_cons he pa_nil hs).run pos pins s σ H _ I hq) fun us s1 ⟨vs, H1, I1, r1, x, ι1, d, st1, ex, g1, rel1, rv, q1⟩ => ?_) hs hpl))
  subst ex
  obtain ⟨u, rfl, ru⟩ := vals1 r1
  unfold enG at q1
  split at q1
  · rename_i p hp
    obtain ⟨S, rfl, ok, hg⟩ := src_of rel1 rv hp
    obtain ⟨ys, hs, r⟩ := ok ι1 H1 st1 Grow.refl rel1 hg
    obtain ⟨its, ri, hi, hz⟩ := S.inv I1 hs
    obtain rfl : u = Value.ref S.at := ru
    refine en_call hi fun h' hE hc hsz hk => wpAny_pyIter_enum hE ?_
    have I2 : Inv X pins σ H1 { s1 with heap := h' } := I1.kept (t' := s1.toks) hk
    refine ⟨s1.heap.objs.size + 1, [s1.heap.objs.size + 1, s1.heap.objs.size], _, ItE X.K S, H1, rfl, I2, turn_enS S (s1.heap.objs.size + 1) s1.heap.objs.size, ⟨⟨.none, by rw [show (0 : Int) + ((0 : Nat) : Int) = 0 by omega]; exact hE⟩, hc, Nat.succ_ne_self _⟩,
      two_fresh I1 1 (fun b hb => ?_), q1 ι1 H1 (ItE X.K S) Grow.refl rel1 (jok_en ok)⟩
    have e' : b = s1.heap.objs.size + 1 ∨ b = s1.heap.objs.size := by simpa using hb
    rcases e' with z | z
    · exact ⟨1, by omega, z⟩
    · exact ⟨0, by omega, z⟩
  · exact q1.elim
theorem r_zip2 (ha : PEd X E e1 f1) (hb : PEd X E e2 f2) (hm : X.mg "zip" = none) (hg : Gl X "zip" := by rfl) (hs : starEach [e1, e2] X.env = (false, eval e1 X.env) :: starEach [e2] X.env := by rfl) (hs2 : starEach [e2] X.env = (false, eval e2 X.env) :: starEach [] X.env := by rfl)
    (hpl : (backTo pos (starEach [e2] X.env)).any (·.1) = false := by rfl) : PId X E (.Tuple elts kk tpos) (.Call (.Name "zip" p) [e1, e2] [] pos) (mZip f1 f2) := by
  refine ⟨fun pins s σ H R I ⟨ι, μ, st, rel, sig, q⟩ => ?_⟩
  have hq : tCons (tE X.K X.mg E f1) (tCons (tE X.K X.mg E f2) tNil) σ H (fun vs H1 => ∃ x y ι1 d d' st1, vs = [x, y] ∧ Grow ι H ι1 H1 ∧ Rel X.K H1 ι1 st1 ∧ RV X.K H1 ι1 x d ∧ RV X.K H1 ι1 y d' ∧
      Post X.K X.mg E (RJ X.K) ι1 H1 R (match srcD d st1, srcD d' st1 with | some p, some q => .ok (zipD p.1 q.1, p.2 ++ q.2) st1 | _, _ => .bad)) := by
    refine ⟨ι, μ, st, rel, sig, (Post.bind q).mono fun v H1 ⟨ι1, d, st1, g1, rel1, rv, q1⟩ => ?_⟩
    refine ⟨ι1, μ, st1, rel1, sig.grow g1, (Post.bind q1).mono fun w H2 ⟨ι2, d', st2, g2, rel2, rw', q2⟩ => ?_⟩
    exact ⟨v, w, ι2, d, d', st2, rfl, g1.trans g2, rel2, rv.grow g2, rw', q2⟩
  refine Call_ (ld_blt I hg hm PyProof.Rows.boot_zip (PyProof.Rows.callWith_type1 (thn ((pa_cons ha (pa_cons hb pa_nil hs2) hs).run pos pins s σ H _ I hq) fun us s1 ⟨vs, H1, I1, r1, x, y, ι1, d, d', st1, ex, g1, rel1, rv, rw', q1⟩ => ?_) hs hpl))
  subst ex
  obtain ⟨u, u', rfl, ru, ru'⟩ := vals2 r1
  split at q1
  · rename_i p q hp hq
    obtain ⟨S, rfl, ok, hg⟩ := src_of rel1 rv hp
    obtain ⟨S', rfl, ok', hg'⟩ := src_of rel1 rw' hq
    obtain ⟨ys, hs, r⟩ := ok ι1 H1 st1 Grow.refl rel1 hg
    obtain ⟨zs, hs', r'⟩ := ok' ι1 H1 st1 Grow.refl rel1 hg'
    obtain ⟨its, ri, hi, hz⟩ := S.inv I1 hs
    obtain ⟨its', ri', hi', hz'⟩ := S'.inv I1 hs'
    obtain rfl : u = Value.ref S.at := ru
    obtain rfl : u' = Value.ref S'.at := ru'
    have f1 : S.ob.isFreed = false := (S.begins its.toArray).free
    refine zip_begins2 (S.begins its.toArray) (S'.begins its'.toArray) hi hi' fun h' hz1 hT hO h1 h2 hsz hk => wpAny_pyIter_zip hz1 ?_
    have I2 : Inv X pins σ H1 { s1 with heap := h' } := I1.kept (t' := s1.toks) hk
    refine ⟨s1.heap.objs.size + 4, [s1.heap.objs.size + 4, s1.heap.objs.size + 2, s1.heap.objs.size + 3, s1.heap.objs.size, s1.heap.objs.size + 1], _, ItZ X.K S S', H1, rfl, I2,
      turn_zS S S' _ _ _ _ _ (zip_sep2 (N := s1.heap.objs.size) (fp1 := [S.at]) (fp2 := [S'.at]) (fun b hb => ?_) fun b hb => ?_), ⟨hz1, hT, ⟨_, _, hO⟩, Src.cell0 h1, Src.cell0 h2⟩, two_fresh I1 4 (fun b hb => ?_), q1 ι1 H1 (ItZ X.K S S') Grow.refl rel1 (jok_z ok ok')⟩
    · have e : b = S.at := by simpa using hb
      rw [e]; exact S.lt hi
    · have e : b = S'.at := by simpa using hb
      rw [e]; exact S'.lt hi'
    · have e' : b = s1.heap.objs.size + 4 ∨ b = s1.heap.objs.size + 2 ∨ b = s1.heap.objs.size + 3 ∨ b = s1.heap.objs.size ∨ b = s1.heap.objs.size + 1 := by simpa using hb
      rcases e' with z | z | z | z | z
      · exact ⟨4, by omega, z⟩
      · exact ⟨2, by omega, z⟩
      · exact ⟨3, by omega, z⟩
      · exact ⟨0, by omega, z⟩
      · exact ⟨1, by omega, z⟩
  · exact q1.elim
theorem vals3v {x y z : V} {us : List Value} (r : Vals [x, y, z] us) : ∃ u v w, us = [u, v, w] ∧ RelV x u ∧ RelV y v ∧ RelV z w := by
  cases r with
  | cons a t =>
    cases t with
    | cons b t =>
      cases t with
      | cons c t => cases t; exact ⟨_, _, _, rfl, a, b, c⟩
theorem r_zip3 (ha : PEd X E e1 f1) (hb : PEd X E e2 f2) (hc : PEd X E e3 f3) (hm : X.mg "zip" = none) (hg : Gl X "zip" := by rfl) (hs : starEach [e1, e2, e3] X.env = (false, eval e1 X.env) :: starEach [e2, e3] X.env := by rfl) (hs2 : starEach [e2, e3] X.env = (false, eval e2 X.env) :: starEach [e3] X.env := by rfl)
    (hs3 : starEach [e3] X.env = (false, eval e3 X.env) :: starEach [] X.env := by rfl) (hpl : (backTo pos (starEach [e2, e3] X.env)).any (·.1) = false := by rfl) : PId X E (.Tuple elts kk tpos) (.Call (.Name "zip" p) [e1, e2, e3] [] pos) (mZip3 f1 f2 f3) := by
  refine ⟨fun pins s σ H R I ⟨ι, μ, st, rel, sig, q⟩ => ?_⟩
  have hq : tCons (tE X.K X.mg E f1) (tCons (tE X.K X.mg E f2) (tCons (tE X.K X.mg E f3) tNil)) σ H (fun vs H1 => ∃ x y z ι1 d d' d'' st1, vs = [x, y, z] ∧ Grow ι H ι1 H1 ∧ Rel X.K H1 ι1 st1 ∧ RV X.K H1 ι1 x d ∧ RV X.K H1 ι1 y d' ∧ RV X.K H1 ι1 z d'' ∧
      Post X.K X.mg E (RJ X.K) ι1 H1 R (match srcD d st1, srcD d' st1, srcD d'' st1 with | some p, some q, some r => .ok (zipD3 p.1 q.1 r.1, p.2 ++ (q.2 ++ r.2)) st1 | _, _, _ => .bad)) := by
    refine ⟨ι, μ, st, rel, sig, (Post.bind q).mono fun v H1 ⟨ι1, d, st1, g1, rel1, rv, q1⟩ => ?_⟩
    refine ⟨ι1, μ, st1, rel1, sig.grow g1, (Post.bind q1).mono fun w H2 ⟨ι2, d', st2, g2, rel2, rw', q2⟩ => ?_⟩
    refine ⟨ι2, μ, st2, rel2, (sig.grow g1).grow g2, (Post.bind q2).mono fun u H3 ⟨ι3, d'', st3, g3, rel3, ru, q3⟩ => ?_⟩
    exact ⟨v, w, u, ι3, d, d', d'', st3, rfl, (g1.trans g2).trans g3, rel3, (rv.grow g2).grow g3, rw'.grow g3, ru, q3⟩
  refine Call_ (ld_blt I hg hm PyProof.Rows.boot_zip (PyProof.Rows.callWith_type1 (thn ((pa_cons ha (pa_cons hb (pa_cons hc pa_nil hs3) hs2) hs).run pos pins s σ H _ I hq) fun us s1 ⟨vs, H1, I1, r1, x, y, z, ι1, d, d', d'', st1, ex, g1, rel1, rv, rw', ru', q1⟩ => ?_) hs hpl))
  subst ex
  obtain ⟨u, u', u'', rfl, ru, ru1, ru2⟩ := vals3v r1
  split at q1
  · rename_i p q r hp hq hr
    obtain ⟨S, rfl, ok, hg⟩ := src_of rel1 rv hp
    obtain ⟨S', rfl, ok', hg'⟩ := src_of rel1 rw' hq
    obtain ⟨S'', rfl, ok'', hg''⟩ := src_of rel1 ru' hr
    obtain ⟨ys, hs, r⟩ := ok ι1 H1 st1 Grow.refl rel1 hg
    obtain ⟨zs, hs', r'⟩ := ok' ι1 H1 st1 Grow.refl rel1 hg'
    obtain ⟨ws, hs'', r''⟩ := ok'' ι1 H1 st1 Grow.refl rel1 hg''
    obtain ⟨its, ri, hi, hz⟩ := S.inv I1 hs
    obtain ⟨its', ri', hi', hz'⟩ := S'.inv I1 hs'
    obtain ⟨its'', ri'', hi'', hz''⟩ := S''.inv I1 hs''
    obtain rfl : u = Value.ref S.at := ru
    obtain rfl : u' = Value.ref S'.at := ru1
    obtain rfl : u'' = Value.ref S''.at := ru2
    refine zip_begins3 (S.begins its.toArray) (S'.begins its'.toArray) (S''.begins its''.toArray) hi hi' hi'' fun h' hz1 hT hO h1 h2 h3 hsz hk => wpAny_pyIter_zip hz1 ?_
    have I2 : Inv X pins σ H1 { s1 with heap := h' } := I1.kept (t' := s1.toks) hk
    refine ⟨s1.heap.objs.size + 5, [s1.heap.objs.size + 5, s1.heap.objs.size + 3, s1.heap.objs.size + 4, s1.heap.objs.size, s1.heap.objs.size + 1, s1.heap.objs.size + 2], _, ItZ3 X.K S S' S'', H1, rfl, I2,
      turn_z3S S S' S'' _ _ _ _ _ _ (zip_sep3 (N := s1.heap.objs.size) (fp1 := [S.at]) (fp2 := [S'.at]) (fp3 := [S''.at]) (fun b hb => ?_) (fun b hb => ?_) fun b hb => ?_), ⟨hz1, hT, ⟨_, _, _, hO⟩, Src.cell0 h1, Src.cell0 h2, Src.cell0 h3⟩, two_fresh I1 5 (fun b hb => ?_), q1 ι1 H1 (ItZ3 X.K S S' S'') Grow.refl rel1 (jok_z3 ok ok' ok'')⟩
    · have e : b = S.at := by simpa using hb
      rw [e]; exact S.lt hi
    · have e : b = S'.at := by simpa using hb
      rw [e]; exact S'.lt hi'
    · have e : b = S''.at := by simpa using hb
      rw [e]; exact S''.lt hi''
    · have e' : b = s1.heap.objs.size + 5 ∨ b = s1.heap.objs.size + 3 ∨ b = s1.heap.objs.size + 4 ∨ b = s1.heap.objs.size ∨ b = s1.heap.objs.size + 1 ∨ b = s1.heap.objs.size + 2 := by simpa using hb
      rcases e' with z | z | z | z | z | z
      · exact ⟨5, by omega, z⟩
      · exact ⟨3, by omega, z⟩
      · exact ⟨4, by omega, z⟩
      · exact ⟨0, by omega, z⟩
      · exact ⟨1, by omega, z⟩
      · exact ⟨2, by omega, z⟩
  · exact q1.elim
/-! ranges -/
theorem go_rng {σ : L2.St} {H : Hp} {R : It → Hp → Prop} {J : List V → Hp → Prop} (hJ : ∀ vs ds ι1 H1 st1, Rel X.K H1 ι1 st1 → RVs X.K H1 ι1 vs ds → Post X.K X.mg E (RJ X.K) ι1 H1 R (rngs ds st1) → J vs H1) (q : tI X.K X.mg E (mRng fs) σ H R) : tA X.K X.mg E fs σ H J := by
  obtain ⟨ι, μ, st, rel, sig, q⟩ := q
  exact ⟨ι, μ, st, rel, sig, (Post.bind q).mono fun vs H1 ⟨ι1, ds, st1, g1, rel1, rs, q1⟩ => hJ vs ds ι1 H1 st1 rel1 rs q1⟩
theorem rngs_inv {ds : List D} {st : Sto} {ι : List Addr} {H : Hp} {R : It → Hp → Prop} (q : Post X.K X.mg E (RJ X.K) ι H R (rngs ds st)) :
    (∃ j, ds = [.int j] ∧ rngOk j = true ∧ Post X.K X.mg E (RJ X.K) ι H R (.ok (rangeD 0 j.toNat, []) st)) ∨ (∃ i j, ds = [.int i, .int j] ∧ rngOk i = true ∧ rngOk j = true ∧ Post X.K X.mg E (RJ X.K) ι H R (.ok (rangeD i (j - i).toNat, []) st)) ∨
    (∃ i j c, ds = [.int i, .int j, .int c] ∧ (c ≠ 0 ∧ c.natAbs < 1073741824 ∧ Builtin.Range.small i j c = true) ∧ Post X.K X.mg E (RJ X.K) ι H R (.ok (stepD i c (Builtin.Range.rangeSize i j c).toNat, []) st)) := by
  unfold rngs at q
  split at q
  · split at q
    · rename_i h; exact .inl ⟨_, rfl, h, q⟩
    · exact q.elim
  · split at q
    · rename_i h; exact .inr (.inl ⟨_, _, rfl, h.1, h.2, q⟩)
    · exact q.elim
  · split at q
    · rename_i h; exact .inr (.inr ⟨_, _, _, rfl, h, q⟩)
    · exact q.elim
  · exact q.elim
theorem r_range1 (ha : PEd X E e f) (hm : X.mg "range" = none) (hg : Gl X "range" := by rfl) (hs1 : starEach [e] X.env = (false, eval e X.env) :: starEach [] X.env := by rfl) (hs : starEach [e] X.env = [(false, eval e X.env)] := by rfl) :
    PId X E tg (.Call (.Name "range" p) [e] [] pos) (mRng (mCons f mNil)) := by
  refine PI.imp (pi_range1 hg hm (pa_cons ha pa_nil hs1) hs) fun σ H W ⟨ι, μ, st, rel, sig, q⟩ => ?_
  simp only [mRng, mCons, mNil, Fd.R.bind_assoc, Fd.R.bind_ok] at q
  refine ⟨ι, μ, st, rel, sig, (Post.bind q).mono fun v H1 ⟨ι1, d, st1, g1, rel1, rv, q1⟩ => ?_⟩
  rcases rngs_inv q1 with ⟨j, e, h, q⟩ | ⟨i, j, e, h⟩ | ⟨i, j, c, e, h⟩
  · cases e
    cases rv
    exact ⟨j, rfl, (rngOk.ok h).1, (rngOk.ok h).2, q ι1 H1 _ Grow.refl rel1 (jok_rng 0 j.toNat)⟩
  · cases e
  · cases e
theorem r_range2 (ha : PEd X E e1 f1) (hb : PEd X E e2 f2) (hm : X.mg "range" = none) (hg : Gl X "range" := by rfl) (hs1 : starEach [e1, e2] X.env = (false, eval e1 X.env) :: starEach [e2] X.env := by rfl) (hs2 : starEach [e2] X.env = (false, eval e2 X.env) :: starEach [] X.env := by rfl)
    (hs : starEach [e1, e2] X.env = [(false, eval e1 X.env), (false, eval e2 X.env)] := by rfl) (hs' : starEach [e2] X.env = [(false, eval e2 X.env)] := by rfl) : PId X E tg (.Call (.Name "range" p) [e1, e2] [] pos) (mRng (mCons f1 (mCons f2 mNil))) := by
  refine PI.imp (pi_range2 hg hm (pa_cons ha (pa_cons hb pa_nil hs2) hs1) hs hs') fun σ H W ⟨ι, μ, st, rel, sig, q⟩ => ?_
  simp only [mRng, mCons, mNil, Fd.R.bind_assoc, Fd.R.bind_ok] at q
  refine ⟨ι, μ, st, rel, sig, (Post.bind q).mono fun v H1 ⟨ι1, d, st1, g1, rel1, rv, q1⟩ => ?_⟩
  refine ⟨ι1, μ, st1, rel1, sig.grow g1, (Post.bind q1).mono fun w H2 ⟨ι2, d', st2, g2, rel2, rw', q2⟩ => ?_⟩
  rcases rngs_inv q2 with ⟨j, e, h, q⟩ | ⟨i, j, e, h, h', q⟩ | ⟨i, j, c, e, h⟩
  · cases e
  · cases e
    cases rv; cases rw'
    exact ⟨i, j, rfl, ⟨(rngOk.ok h).1, (rngOk.ok h).2, (rngOk.ok h').1, (rngOk.ok h').2⟩, q ι2 H2 _ Grow.refl rel2 (jok_rng i (j - i).toNat)⟩
  · cases e
theorem jok_step {K : PySem.W.Frag} {ι : List Addr} {H : Hp} (lo c : Int) (n : Nat) : JOk K (Itc lo c n) ι H (stepD lo c n) [] where
  go := fun i ι1 H1 st1 d g rel hg hd => by
    unfold stepD at hd
    rw [List.getElem?_map] at hd
    obtain ⟨j, hj, rfl⟩ := Option.map_eq_some_iff.mp hd
    have hl : i < n := by
      have := (List.getElem?_eq_some_iff.mp hj).1
      simpa using this
    rw [List.getElem?_range hl] at hj
    cases hj
    exact ⟨hl, fun x H' ⟨e, ex⟩ => by subst e; subst ex; exact ⟨Grow.refl, rel, .int _⟩⟩
  stop := fun ι1 H1 st1 g rel hg => by
    show n ≤ (stepD lo c n).length
    simp [stepD]
theorem rangeSize_nn (i j c : Int) : 0 ≤ Builtin.Range.rangeSize i j c := by
  unfold Builtin.Range.rangeSize
  split
  · split
    · have := Int.ediv_nonneg (a := j - i - 1) (b := c) (by omega) (by omega); omega
    · omega
  · split
    · have := Int.ediv_nonneg (a := i - j - 1) (b := -c) (by omega) (by omega); omega
    · omega
theorem r_range3 (ha : PEd X E e1 f1) (hb : PEd X E e2 f2) (hc : PEd X E e3 f3) (hm : X.mg "range" = none) (hg : Gl X "range" := by rfl) (hs1 : starEach [e1, e2, e3] X.env = (false, eval e1 X.env) :: starEach [e2, e3] X.env := by rfl) (hs2 : starEach [e2, e3] X.env = (false, eval e2 X.env) :: starEach [e3] X.env := by rfl)
    (hs3 : starEach [e3] X.env = (false, eval e3 X.env) :: starEach [] X.env := by rfl) (hpl : (backTo pos (starEach [e2, e3] X.env)).any (·.1) = false := by rfl) : PId X E tg (.Call (.Name "range" p) [e1, e2, e3] [] pos) (mRng (mCons f1 (mCons f2 (mCons f3 mNil)))) := by
  refine PI.imp (pi_range3 hg hm (pa_cons ha (pa_cons hb (pa_cons hc pa_nil hs3) hs2) hs1) hs1 hpl) fun σ H W ⟨ι, μ, st, rel, sig, q⟩ => ?_
  simp only [mRng, mCons, mNil, Fd.R.bind_assoc, Fd.R.bind_ok] at q
  refine ⟨ι, μ, st, rel, sig, (Post.bind q).mono fun v H1 ⟨ι1, d, st1, g1, rel1, rv, q1⟩ => ?_⟩
  refine ⟨ι1, μ, st1, rel1, sig.grow g1, (Post.bind q1).mono fun w H2 ⟨ι2, d', st2, g2, rel2, rw', q2⟩ => ?_⟩
  refine ⟨ι2, μ, st2, rel2, (sig.grow g1).grow g2, (Post.bind q2).mono fun u H3 ⟨ι3, d'', st3, g3, rel3, ru', q3⟩ => ?_⟩
  rcases rngs_inv q3 with ⟨j, e, h, q⟩ | ⟨i, j, e, h, h', q⟩ | ⟨i, j, c, e, ⟨h1, h2, h3⟩, q⟩
  · cases e
  · cases e
  · cases e
    cases rv; cases rw'; cases ru'
    exact ⟨i, j, c, _, rfl, ⟨h1, h2, h3, (Int.toNat_of_nonneg (rangeSize_nn i j c)).symm⟩, q ι3 H3 _ Grow.refl rel3 (jok_step i c _)⟩
end
end Fd
end
section
set_option Elab.async false
set_option linter.all false
set_option maxRecDepth 100000
set_option maxHeartbeats 4000000
/-! Targets; comprehensions. -/
namespace Fd
open PySem PySem.Spec PyProof.Rows L2

abbrev GE := D → Mu → Sto → R Mu
abbrev GEs := List D → Mu → Sto → R Mu
def RG (K : PySem.W.Frag) (σ : L2.St) (ws : List Nat) (H : Hp) (ι : List Addr) (σ' : L2.St) (μ : Mu) : Prop := Sig K H ι σ' μ ∧ σ'.length = σ.length ∧ ∀ j, j ∉ ws → σ'[j]? = σ[j]?
def tG (K : PySem.W.Frag) (mg : Str → Option Value) (E : XK) (ws : List Nat) (g : GE) : TG := fun v σ H Q => ∃ ι μ st d, Rel K H ι st ∧ Sig K H ι σ μ ∧ RV K H ι v d ∧ Post K mg E (RG K σ ws) ι H Q (g d μ st)
def tGs (K : PySem.W.Frag) (mg : Str → Option Value) (E : XK) (ws : List Nat) (g : GEs) : TGs := fun vs σ H Q => ∃ ι μ st ds, Rel K H ι st ∧ Sig K H ι σ μ ∧ RVs K H ι vs ds ∧ Post K mg E (RG K σ ws) ι H Q (g ds μ st)
abbrev PGd (X : Cx) (E : XK) (ws : List Nat) (tg : Expr) (g : GE) : Prop := PG X tg (tG X.K X.mg E ws g)
abbrev PGsd (X : Cx) (E : XK) (ws : List Nat) (tgs : List Expr) (g : GEs) : Prop := PGs X tgs (tGs X.K X.mg E ws g)
theorem PG.imp {X : Cx} {e : Expr} {t t' : TG} (h : PG X e t) (i : ∀ v σ H Q, t' v σ H Q → t v σ H Q) : PG X e t' := ⟨fun pins s σ H v u Q I r q => h.run pins s σ H v u Q I r (i v σ H Q q)⟩
theorem PG.or {X : Cx} {e : Expr} {t t' : TG} (h : PG X e t) (h' : PG X e t') : PG X e (fun v σ H Q => t v σ H Q ∨ t' v σ H Q) := ⟨fun pins s σ H v u Q I r q => q.elim (h.run pins s σ H v u Q I r) (h'.run pins s σ H v u Q I r)⟩
theorem PGs.imp {X : Cx} {e : List Expr} {t t' : TGs} (h : PGs X e t) (i : ∀ v σ H Q, t' v σ H Q → t v σ H Q) : PGs X e t' := ⟨fun pins s σ H v u Q I r q => h.run pins s σ H v u Q I r (i v σ H Q q)⟩
def gN (i : Nat) : GE := fun d μ st => .ok (μ.set i (some d)) st
def gsNil : GEs := fun ds μ st => match ds with
  | [] => .ok μ st
  | _ => .bad
def gsCons (g : GE) (r : GEs) : GEs := fun ds μ st => match ds with
  | d :: ds => (g d μ st).bind fun μ1 st1 => r ds μ1 st1
  | [] => .bad
def gT (n : Nat) (g : GEs) : GE := fun d μ st => match seqOf d st with
  | some ds => if ds.length = n then g ds μ st else .bad
  | none => .bad
section
variable {X : Cx} {E : XK} {ws : List Nat} {e : Expr} {es : List Expr} {g : GE} {gs : GEs} {pos : Pos} {n k : Nat}
theorem r_gname (i : Nat) {x : Str} (hN : X.N.Nodup) (hi : X.N[i]? = some x := by rfl) (hx : Loc X.env.scope x := by first | exact Or.inl rfl | exact Or.inr rfl) (hf : X.fn x = true ∨ X.env.scope.names.lookup x = some .local := by first | exact .inl rfl | exact .inr rfl) (hw : i ∈ ws := by decide) : PGd X E ws (.Name x pos) (gN i) := by
  refine PG.imp (pg_name hN hi hx hf) fun v σ H Q ⟨ι, μ, st, d, rel, sig, rv, q⟩ => ?_
  exact q ι H _ Grow.refl rel ⟨sig.set rv, List.length_set, fun j hj => List.getElem?_set_ne (fun e => hj (e ▸ hw) : i ≠ j)⟩
theorem r_gnil : PGsd X E ws [] gsNil := by
  refine PGs.imp pgs_nil fun v σ H Q ⟨ι, μ, st, d, rel, sig, rv, q⟩ => ?_
  cases rv with
  | nil => exact ⟨rfl, q ι H σ Grow.refl rel ⟨sig, rfl, fun _ _ => rfl⟩⟩
  | cons _ _ => exact q.elim
theorem r_gcons (h1 : PGd X E ws e g) (h2 : PGsd X E ws es gs) (hs : (assignEach (e :: es) X.env).map (·.2) = assign e X.env :: (assignEach es X.env).map (·.2) := by rfl) : PGsd X E ws (e :: es) (gsCons g gs) := by
  refine PGs.imp (pgs_cons h1 h2 hs) fun v σ H Q ⟨ι, μ, st, ds, rel, sig, rs, q⟩ => ?_
  cases rs with
  | nil => exact q.elim
  | cons rv rt =>
    refine ⟨_, _, rfl, ι, μ, st, _, rel, sig, rv, (Post.bind (RR := RG X.K σ ws) q).mono fun σ1 H1 ⟨ι1, μ1, st1, g1, rel1, ⟨sig1, hl, hk⟩, q1⟩ => ?_⟩
    refine ⟨ι1, μ1, st1, _, rel1, sig1, rt.grow g1, ?_⟩
    have conv : ∀ (r : R Mu), Post X.K X.mg E (RG X.K σ ws) ι1 H1 Q r → Post X.K X.mg E (RG X.K σ1 ws) ι1 H1 Q r := by
      intro r hr
      cases r with
      | ok a st => exact fun ι' H' v g rl ⟨s1, l1, k1⟩ => hr ι' H' v g rl ⟨s1, l1.trans hl, fun j hj => (k1 j hj).trans (hk j hj)⟩
      | ex c w st => exact hr
      | bad => exact hr
    exact conv _ q1
theorem r_gtup {n : Nat} (hc : X.calm = true) (h : PGsd X E ws es gs) (hn : (assignEach es X.env).length = n := by rfl) (hst : (assignEach es X.env).findIdx? (·.1) = none := by rfl) : PGd X E ws (.Tuple es k pos) (gT n gs) := by
  refine PG.imp (PG.or (pg_tup hc h hn hst) (pg_unl hc h hn hst)) fun v σ H Q ⟨ι, μ, st, d, rel, sig, rv, q⟩ => ?_
  unfold gT at q
  split at q
  · rename_i ds hd
    obtain ⟨a, ys, rfl, hs, r⟩ := seqOf_sq rel rv hd
    split at q
    · rename_i hl
      rcases hs with hs | hs
      · exact .inr ⟨a, ys, rfl, hs, by rw [r.length]; exact hl, ι, μ, st, ds, rel, sig, r, q⟩
      · exact .inl ⟨a, ys, rfl, hs, by rw [r.length]; exact hl, ι, μ, st, ds, rel, sig, r, q⟩
    · exact q.elim
  · exact q.elim
end

/-! ### o[i] = v -/
def put (kvs : List (Key × D)) (k : Key) (v : D) : List (Key × D) :=
  if (kvs.any fun kv => decide (kv.1 = k)) = true then kvs.map (fun kv => if kv.1 = k then (kv.1, v) else kv) else kvs ++ [(k, v)]
def opSet (o i v : D) (st : Sto) : R Unit := match o with
  | .ref n => match st[n]? with
    | some (.lst xs) => match i with
      | .int k => match ixN xs.length k with
        | some j => .ok () (st.set n (.lst (xs.set j v)))
        | none => .bad
      | _ => .bad
    | some (.dct kvs) => match keyOf i with
      | some k => if kvs.length < sizeLine then .ok () (st.set n (.dct (put kvs k v))) else .bad
      | none => .bad
    | none => .bad
  | _ => .bad
def gS (fo fi : EE) : GE := fun v μ st => (fo μ st).bind fun o st1 => (fi μ st1).bind fun i st2 => (opSet o i v st2).bind fun _ st3 => .ok μ st3
section
variable {K : PySem.W.Frag} {H : Hp} {ι : List Addr}
theorem put_any : ∀ {ws : List (Key × V)} {kvs : List (Key × D)} {k : Key}, ws.map (·.1) = kvs.map (·.1) → (ws.any fun kv => decide (kv.1 = k)) = kvs.any fun kv => decide (kv.1 = k)
  | [], [], _, _ => rfl
  | [], _ :: _, _, h => by cases h
  | _ :: _, [], _, h => by cases h
  | (k1, v1) :: ws, (k2, d2) :: kvs, k, h => by
    simp only [List.map_cons, List.cons.injEq] at h
    have hk : k1 = k2 := h.1
    subst hk
    simp only [List.any_cons, put_any h.2]
theorem put_map : ∀ {ws : List (Key × V)} {kvs : List (Key × D)} {k : Key} {v : V} {d : D}, ws.map (·.1) = kvs.map (·.1) → RVs K H ι (ws.map (·.2)) (kvs.map (·.2)) → RV K H ι v d →
    (ws.map fun kv => if kv.1 = k then (kv.1, v) else kv).map (·.1) = (kvs.map fun kv => if kv.1 = k then (kv.1, d) else kv).map (·.1) ∧
    RVs K H ι ((ws.map fun kv => if kv.1 = k then (kv.1, v) else kv).map (·.2)) ((kvs.map fun kv => if kv.1 = k then (kv.1, d) else kv).map (·.2))
  | [], [], _, _, _, _, _, _ => ⟨rfl, .nil⟩
  | [], _ :: _, _, _, _, h, _, _ => by cases h
  | _ :: _, [], _, _, _, h, _, _ => by cases h
  | (k1, v1) :: ws, (k2, d2) :: kvs, k, v, d, h, r, rv => by
    simp only [List.map_cons, List.cons.injEq] at h
    have hk : k1 = k2 := h.1
    subst hk
    simp only [List.map_cons] at r
    cases r with
    | cons r1 rt =>
      obtain ⟨h1, h2⟩ := put_map (k := k) h.2 rt rv
      by_cases e : k1 = k
      · simp only [List.map_cons, e, if_true]
        exact ⟨by rw [h1], .cons rv h2⟩
      · simp only [List.map_cons, e, if_false]
        exact ⟨by rw [h1], .cons r1 h2⟩
theorem put_RO {ws : List (Key × V)} {kvs : List (Key × D)} {k : Key} {v : V} {d : D} (h : ws.map (·.1) = kvs.map (·.1)) (r : RVs K H ι (ws.map (·.2)) (kvs.map (·.2))) (rv : RV K H ι v d) :
    (putK ws k v).map (·.1) = (put kvs k d).map (·.1) ∧ RVs K H ι ((putK ws k v).map (·.2)) ((put kvs k d).map (·.2)) := by
  unfold putK put
  rw [put_any h]
  split
  · exact put_map h r rv
  · rw [List.map_append, List.map_append, List.map_append, List.map_append, h]
    exact ⟨rfl, r.append (.cons rv .nil)⟩
end
def rSetA : TSet := fun o i v H Q => rSetL o i v H Q ∨ rSetD o i v H Q
section
variable {X : Cx} {E : XK} {ws : List Nat} {a b : Expr} {fa fb : EE} {pos : Pos}
theorem set_any {k : Nat} (hr : Rm k X.A) : PSet X rSetA := by
  intro pins s σ H o i v ov iv u Q I ro ri rv h
  rcases h with h | h
  · exact set_list pins s σ H o i v ov iv u Q I ro ri rv h
  · exact set_dict hr.u1 pins s σ H o i v ov iv u Q I ro ri rv h
/-- what was stored -/
theorem v_set {o i v : V} {d0 di dv : D} {ι : List Addr} {H : Hp} {st : Sto} {Q : Hp → Prop} (rel : Rel X.K H ι st) (ro : RV X.K H ι o d0) (ri : RV X.K H ι i di) (rv : RV X.K H ι v dv)
    (q : Post X.K X.mg E (fun _ _ (_ : Unit) (_ : Unit) => True) ι H (fun _ H' => Q H') (opSet d0 di dv st)) : rSetA o i v H Q := by
  unfold opSet at q
  split at q
  · cases ro with
    | ref h =>
    split at q
    · rename_i xs hx
      obtain ⟨ys, e1, r⟩ := rel.at h hx
      split at q
      · cases ri
        split at q
        · rename_i j hj
          refine .inl ⟨_, ys, _, j, rfl, rfl, e1, by rw [r.length]; exact hj, ?_⟩
          exact q ι _ () (rel.grow_set h) (rel.set h ⟨_, upd_same, (RVs.set rv j r).grow (rel.grow_set h)⟩) trivial
        · exact q.elim
      · exact q.elim
    · rename_i kvs hk
      obtain ⟨ws, e1, e2, r⟩ := rel.at h hk
      split at q
      · rename_i k hkk
        have ek := key_of ri hkk
        subst ek
        split at q
        · rename_i hl
          have hl' : ws.length = kvs.length := by simpa using congrArg List.length e2
          obtain ⟨p1, p2⟩ := put_RO (k := k) e2 r rv
          refine .inr ⟨_, _, rfl, .k e1 (by rw [hl']; exact hl), ?_⟩
          exact q ι _ () (rel.grow_set h) (rel.set h ⟨_, upd_same, p1, p2.grow (rel.grow_set h)⟩) trivial
        · exact q.elim
      · exact q.elim
    · exact q.elim
  · exact q.elim
theorem r_gsub {k : Nat} (hr : Rm k X.A) (ha : PEd X E a fa) (hb : PEd X E b fb)
    (h : ∀ (t : TSet), PE X a (tE X.K X.mg E fa) → PE X b (tE X.K X.mg E fb) → PSet X t → PG X (.Subscript a b pos) (gSub (tE X.K X.mg E fa) (tE X.K X.mg E fb) t) := by exact fun t x y z => pg_sub x y z) : PGd X E ws (.Subscript a b pos) (gS fa fb) := by
  refine PG.imp (h rSetA ha hb (set_any hr)) fun v σ H Q ⟨ι, μ, st, d, rel, sig, rv, q⟩ => ?_
  refine ⟨ι, μ, st, rel, sig, (Post.bind q).mono fun o H1 ⟨ι1, do_, st1, g1, rel1, ro, q1⟩ => ?_⟩
  refine ⟨ι1, μ, st1, rel1, sig.grow g1, (Post.bind q1).mono fun i H2 ⟨ι2, di, st2, g2, rel2, ri, q2⟩ => ?_⟩
  refine v_set rel2 (ro.grow g2) ri ((rv.grow g1).grow g2) ((Post.bind q2).mono fun _ H3 ⟨ι3, _, st3, g3, rel3, _, q3⟩ => ?_)
  exact q3 ι3 H3 σ Grow.refl rel3 ⟨((sig.grow g1).grow g2).grow g3, rfl, fun _ _ => rfl⟩
end

/-! ### comprehensions -/
abbrev E00 : XK := fun _ _ _ => False
def wipeM (μ : Mu) : List Nat → Mu
  | [] => μ
  | v :: vs => (wipeM μ vs).set v none
theorem wipeM_len (μ : Mu) : ∀ vs, (wipeM μ vs).length = μ.length
  | [] => rfl
  | v :: vs => by unfold wipeM; rw [List.length_set, wipeM_len μ vs]
theorem wipe_sig {K : PySem.W.Frag} {H : Hp} {ι : List Addr} {σ : L2.St} {μ : Mu} (s : Sig K H ι σ μ) : ∀ vs, Sig K H ι (wipe σ vs) (wipeM μ vs)
  | [] => s
  | v :: vs => by
    have ih := wipe_sig s vs
    refine ⟨by rw [wipe_length, wipeM_len]; exact s.1, fun i d e => ?_⟩
    unfold wipeM at e
    unfold wipe
    by_cases hi : v = i
    · subst hi
      by_cases hv : v < (wipeM μ vs).length
      · rw [List.getElem?_set_self hv] at e; cases e
      · rw [List.getElem?_eq_none (by simpa using hv)] at e; cases e
    · rw [List.getElem?_set_ne hi] at e
      rw [List.getElem?_set_ne hi]
      exact ih.2 i d e
theorem wipe_at (σ : L2.St) : ∀ (vs : List Nat) (j : Nat), (wipe σ vs)[j]? = if j ∈ vs then (if j < σ.length then some none else none) else σ[j]?
  | [], j => by simp [wipe]
  | v :: vs, j => by
    unfold wipe
    by_cases hj : v = j
    · subst hj
      rw [List.getElem?_set_self', wipe_at σ vs v]
      by_cases hv : v ∈ vs
      · by_cases hl : v < σ.length <;> simp [hv, hl]
      · simp [hv]
        by_cases hl : v < σ.length
        · simp [hl]
        · simp [hl]
    · rw [List.getElem?_set_ne hj, wipe_at σ vs j]
      have : j ∈ v :: vs ↔ j ∈ vs := by simp [Ne.symm hj]
      simp [this]
theorem wipe_eq {σ σ' : L2.St} {ws vs : List Nat} (hl : σ'.length = (wipe σ vs).length) (hk : ∀ j, j ∉ ws → σ'[j]? = (wipe σ vs)[j]?) (hw : ∀ i ∈ ws, i ∈ vs) : wipe σ' vs = wipe σ vs := by
  rw [wipe_length] at hl
  apply List.ext_getElem?
  intro j
  rw [wipe_at σ' vs j]
  by_cases hj : j ∈ vs
  · rw [wipe_at σ vs j, hl]
    simp [hj]
  · rw [if_neg hj]
    exact hk j fun h => hj (hw j h)
def noX {α : Type} (r : R α) : R α := match r with
  | .ex _ _ _ => .bad
  | r => r
theorem Post.bind0 {α β γ δ : Type} {K : PySem.W.Frag} {mg : Str → Option Value} {E : XK} {RR : Hp → List Addr → β → α → Prop} {RR2 : Hp → List Addr → δ → γ → Prop} {ι : List Addr} {H : Hp} {r : R α} {Q2 : δ → Hp → Prop} {k : α → Sto → R γ} (h : Post K mg E RR2 ι H Q2 ((noX r).bind k)) :
    Post K mg E00 RR ι H (fun v H1 => ∃ ι1 d st1, Grow ι H ι1 H1 ∧ Rel K H1 ι1 st1 ∧ RR H1 ι1 v d ∧ Post K mg E RR2 ι1 H1 Q2 (k d st1)) r := by
  cases r with
  | ok d st => exact fun ι' H' v g rl rv => ⟨ι', d, st, g, rl, rv, Post.grow h g⟩
  | ex c w st => exact h.elim
  | bad => exact h
def pushL (n : Nat) (y : D) (st : Sto) : R Unit := match st[n]? with
  | some (.lst acc) => if acc.length < sizeLine then .ok () (st.set n (.lst (acc ++ [y]))) else .bad
  | _ => .bad
def lcStep (g : GE) (t : BE) (e : EE) (μ : Mu) (n : Nat) (x : D) (st : Sto) : R Unit :=
  (g x μ st).bind fun μ2 st2 => (t μ2 st2).bind fun b st3 => if b = true then (e μ2 st3).bind fun y st4 => pushL n y st4 else .ok () st3
def lcGo (gs : Gd) (g : GE) (t : BE) (e : EE) (μ : Mu) (n : Nat) : List D → Sto → R D
  | [], st => if gok gs st = true then .ok (.ref n) st else .bad
  | x :: r, st => if gok gs st = true then (noX (lcStep g t e μ n x st)).bind fun _ st5 => lcGo gs g t e μ n r st5 else .bad
def mLc (mi : IE) (g : GE) (t : BE) (e : EE) (vs : List Nat) : EE := fun μ st => (mi μ st).bind fun p st1 => lcGo p.2 g t e (wipeM μ vs) st1.length p.1 (st1 ++ [.lst []])
abbrev PTsd (X : Cx) (E : XK) (ifs : List Expr) (m : BE) : Prop := PTs X ifs (tT X.K X.mg E m)
def tYesM : BE := fun _ st => .ok true st
theorem PTs.imp {X : Cx} {e : List Expr} {t t' : TT} (h : PTs X e t) (i : ∀ σ H Q, t' σ H Q → t σ H Q) : PTs X e t' := ⟨fun pins s σ H Q I q => h.run pins s σ H Q I (i σ H Q q)⟩
theorem r_tsnil {X : Cx} {E : XK} : PTsd X E [] tYesM := PTs.imp pts_nil fun σ H Q ⟨ι, μ, st, rel, sig, q⟩ => q ι H true Grow.refl rel rfl
theorem r_tsone {X : Cx} {E : XK} {c : Expr} {t : BE} (h : PTd X E c t) : PTsd X E [c] t := pts_one h
def RU (_ : Hp) (_ : List Addr) (_ _ : Unit) : Prop := True
section
variable {X : Cx} {E : XK} {elt tg iter : Expr} {ifs : List Expr} {scope : Scope} {own : List (Str × Nat)} {pos : Pos} {mi : IE} {ws vs : List Nat} {g : GE} {t : BE} {e : EE}
/-- the comprehension's reading -/
theorem go_lc (hws : ∀ i ∈ ws, i ∈ vs) {σ : L2.St} {H : Hp} {Q : VK} (q : tE X.K X.mg E (mLc mi g t e vs) σ H Q) :
    tLc (tI X.K X.mg E mi) (tG X.K X.mg E00 ws g) (tT X.K X.mg E00 t) (tE X.K X.mg E00 e) vs σ H Q := by
  obtain ⟨ι, μ, st, rel, sig, q⟩ := q
  refine ⟨ι, μ, st, rel, sig, (Post.bind q).mono fun J H1 ⟨ι1, p, st1, g1, rel1, jok, q1⟩ => ?_⟩
  obtain ⟨items, gs⟩ := p
  have jok : JOk X.K J ι1 H1 items gs := jok
  intro L hL
  have gL : Grow ι1 H1 (ι1 ++ [L]) (upd H1 L (.lst [])) := grow_obj hL
  have relL : Rel X.K (upd H1 L (.lst [])) (ι1 ++ [L]) (st1 ++ [.lst []]) := rel1.new hL (o := .lst []) ⟨[], upd_same, .nil⟩
  have sigL := wipe_sig ((sig.grow g1).grow gL) vs
  have hn : (ι1 ++ [L])[st1.length]? = some L := by rw [← rel1.len, List.getElem?_append_right (Nat.le_refl _)]; simp
  refine ⟨fun i m H2 => m = items.length - i ∧ i ≤ items.length ∧ ∃ ι2 st2, Grow (ι1 ++ [L]) (upd H1 L (.lst [])) ι2 H2 ∧ Rel X.K H2 ι2 st2 ∧ Post X.K X.mg E (RV X.K) ι2 H2 Q (lcGo gs g t e (wipeM μ vs) st1.length (items.drop i) st2),
    ⟨items.length, by simp, Nat.zero_le _, ι1 ++ [L], st1 ++ [.lst []], Grow.refl, relL, by rw [List.drop_zero]; exact Post.grow q1 gL⟩, ?_⟩
  rintro i m H2 ⟨rfl, hi, ι2, st2, g2, rel2, q2⟩
  by_cases hlt : i < items.length
  · rw [List.drop_eq_getElem_cons hlt] at q2
    unfold lcGo at q2
    split at q2
    · rename_i hg
      obtain ⟨jg, jy⟩ := jok.go i ι2 H2 st2 items[i] (gL.trans g2) rel2 hg (List.getElem?_eq_getElem hlt)
      refine .inr ⟨jg, fun H3 => ∃ ι3 st3, Grow (ι1 ++ [L]) (upd H1 L (.lst [])) ι3 H3 ∧ Rel X.K H3 ι3 st3 ∧ Post X.K X.mg E (RV X.K) ι3 H3 Q (lcGo gs g t e (wipeM μ vs) st1.length (items.drop (i + 1)) st3),
        fun H3 ⟨ι3, st3, a, b, c⟩ => ⟨items.length - (i + 1), by omega, rfl, hlt, ι3, st3, a, b, c⟩, fun x H3 hy => ?_⟩
      obtain ⟨g3, rel3, rx⟩ := jy x H3 hy
      have sig3 := (sigL.grow g2).grow g3
      have q3 := Post.bind0 (RR := RU) (Post.grow q2 g3)
      unfold lcStep at q3
      refine ⟨ι2, wipeM μ vs, st2, items[i], rel3, sig3, rx, (Post.bind (RR := RG X.K (wipe σ vs) ws) q3).mono fun σ4 H4 ⟨ι4, μ4, st4, g4, rel4, ⟨sig4, hl, hk⟩, q4⟩ => ?_⟩
      refine ⟨wipe_eq hl hk hws, ι4, μ4, st4, rel4, sig4, (Post.bind (RR := RB) q4).mono fun b H5 ⟨ι5, b', st5, g5, rel5, eb, q5⟩ => ?_⟩
      obtain rfl : b = b' := eb
      have gg : Grow (ι1 ++ [L]) (upd H1 L (.lst [])) ι5 H5 := ((g2.trans g3).trans g4).trans g5
      cases b with
      | true =>
        rw [if_pos rfl] at q5 ⊢
        refine ⟨ι5, μ4, st5, rel5, sig4.grow g5, (Post.bind (RR := RV X.K) q5).mono fun y H6 ⟨ι6, d, st6, g6, rel6, ry, q6⟩ => ?_⟩
        unfold pushL at q6
        split at q6
        · rename_i acc ha
          split at q6
          · rename_i hz
            have hL6 := (gg.trans g6).at hn
            obtain ⟨ys, e1, r⟩ := rel6.at hL6 ha
            obtain ⟨ι7, _, st7, g7, rel7, _, q7⟩ := q6 ι6 (upd H6 L (.lst (ys ++ [y]))) () (rel6.grow_set hL6) (rel6.set hL6 ⟨_, upd_same, (r.append (.cons ry .nil)).grow (rel6.grow_set hL6)⟩) trivial
            exact ⟨ys, e1, by rw [r.length]; exact hz, ι7, st7, (g2.trans g3).trans g7, rel7, q7⟩
          · exact q6.elim
        · exact q6.elim
      | false =>
        rw [if_neg (by decide)] at q5 ⊢
        obtain ⟨ι7, _, st7, g7, rel7, _, q7⟩ := q5 ι5 H5 () Grow.refl rel5 trivial
        exact ⟨ι7, st7, (g2.trans g3).trans g7, rel7, q7⟩
    · exact q2.elim
  · have hi' : i = items.length := by omega
    subst hi'
    rw [List.drop_length] at q2
    unfold lcGo at q2
    split at q2
    · rename_i hg
      refine .inl ⟨jok.stop ι2 H2 st2 (gL.trans g2) rel2 hg, ?_⟩
      exact q2 ι2 H2 (.ref L) Grow.refl rel2 (.ref (g2.at hn))
    · exact q2.elim
end
end Fd
end
section
set_option Elab.async false
set_option linter.all false
set_option maxRecDepth 100000
set_option maxHeartbeats 4000000
/-! Comprehensions, dict displays. -/
namespace Fd
open PySem PySem.Spec PyProof.Rows L2

def opSetD (n : Nat) (k v : D) (st : Sto) : R Unit := match st[n]? with
  | some (.dct kvs) => match keyOf k with
    | some k => if kvs.length < sizeLine then .ok () (st.set n (.dct (put kvs k v))) else .bad
    | none => .bad
  | _ => .bad
def dcStep (g : GE) (t : BE) (ek ev : EE) (μ : Mu) (n : Nat) (x : D) (st : Sto) : R Unit :=
  (g x μ st).bind fun μ2 st2 => (t μ2 st2).bind fun b st3 => if b = true then (ek μ2 st3).bind fun k st4 => (ev μ2 st4).bind fun v st5 => opSetD n k v st5 else .ok () st3
def dcGo (gs : Gd) (g : GE) (t : BE) (ek ev : EE) (μ : Mu) (n : Nat) : List D → Sto → R D
  | [], st => if gok gs st = true then .ok (.ref n) st else .bad
  | x :: r, st => if gok gs st = true then (noX (dcStep g t ek ev μ n x st)).bind fun _ st5 => dcGo gs g t ek ev μ n r st5 else .bad
def mDc (mi : IE) (g : GE) (t : BE) (ek ev : EE) (vs : List Nat) : EE := fun μ st => (mi μ st).bind fun p st1 => dcGo p.2 g t ek ev (wipeM μ vs) st1.length p.1 (st1 ++ [.dct []])
section
variable {X : Cx} {E : XK} {elt kx vx tg iter : Expr} {ifs : List Expr} {scope : Scope} {own : List (Str × Nat)} {pos : Pos} {mi : IE} {ws vs : List Nat} {g : GE} {t : BE} {e ek ev : EE}
theorem r_lc (hc : X.calm = true) (hN : X.N.Nodup) (hi : PId X E tg iter mi) (ok : BlkOk X.N X.env.scope scope own) (hv : own.map (·.2) = vs := by rfl) (hws : ∀ i ∈ ws, i ∈ vs := by decide)
    (hg : ∀ (s : Shared) (H : Hp) (C : Addr) (cl : List (Str × Addr)) (fp : List Addr), PGd (X.blk s H scope (compEnvC scope cl C X.env) fp) E00 ws tg g)
    (ht : ∀ (s : Shared) (H : Hp) (C : Addr) (cl : List (Str × Addr)) (fp : List Addr), PTsd (X.blk s H scope (compEnvC scope cl C X.env) fp) E00 ifs t)
    (he : ∀ (s : Shared) (H : Hp) (C : Addr) (cl : List (Str × Addr)) (fp : List Addr), PEd (X.blk s H scope (compEnvC scope cl C X.env) fp) E00 elt e)
    (hs : ∀ x, foldedSetIterable iter X.env x = pure x := by intro _; rfl) : PEd X E (.ListComp elt [⟨tg, iter, ifs, 0⟩] scope pos) (mLc mi g t e vs) := by
  refine PE.imp (pe_lc (g := tG X.K X.mg E00 ws g) (tt := tT X.K X.mg E00 t) (te := tE X.K X.mg E00 e) hc hN hi ok hg ht he hs) fun σ H Q q => ?_
  rw [hv]
  exact go_lc hws q
theorem go_dc (hws : ∀ i ∈ ws, i ∈ vs) {σ : L2.St} {H : Hp} {Q : VK} (q : tE X.K X.mg E (mDc mi g t ek ev vs) σ H Q) :
    tDc (tI X.K X.mg E mi) (tG X.K X.mg E00 ws g) (tT X.K X.mg E00 t) (tE X.K X.mg E00 ek) (tE X.K X.mg E00 ev) vs σ H Q := by
  obtain ⟨ι, μ, st, rel, sig, q⟩ := q
  refine ⟨ι, μ, st, rel, sig, (Post.bind q).mono fun J H1 ⟨ι1, p, st1, g1, rel1, jok, q1⟩ => ?_⟩
  obtain ⟨items, gs⟩ := p
  have jok : JOk X.K J ι1 H1 items gs := jok
  intro L hL
  have gL : Grow ι1 H1 (ι1 ++ [L]) (upd H1 L (.dK [])) := grow_obj hL
  have relL : Rel X.K (upd H1 L (.dK [])) (ι1 ++ [L]) (st1 ++ [.dct []]) := rel1.new hL (o := .dct []) ⟨[], upd_same, rfl, .nil⟩
  have sigL := wipe_sig ((sig.grow g1).grow gL) vs
  have hn : (ι1 ++ [L])[st1.length]? = some L := by rw [← rel1.len, List.getElem?_append_right (Nat.le_refl _)]; simp
  refine ⟨fun i m H2 => m = items.length - i ∧ i ≤ items.length ∧ ∃ ι2 st2, Grow (ι1 ++ [L]) (upd H1 L (.dK [])) ι2 H2 ∧ Rel X.K H2 ι2 st2 ∧ Post X.K X.mg E (RV X.K) ι2 H2 Q (dcGo gs g t ek ev (wipeM μ vs) st1.length (items.drop i) st2),
    ⟨items.length, by simp, Nat.zero_le _, ι1 ++ [L], st1 ++ [.dct []], Grow.refl, relL, by rw [List.drop_zero]; exact Post.grow q1 gL⟩, ?_⟩
  rintro i m H2 ⟨rfl, hi, ι2, st2, g2, rel2, q2⟩
  by_cases hlt : i < items.length
  · rw [List.drop_eq_getElem_cons hlt] at q2
    unfold dcGo at q2
    split at q2
    · rename_i hg
      obtain ⟨jg, jy⟩ := jok.go i ι2 H2 st2 items[i] (gL.trans g2) rel2 hg (List.getElem?_eq_getElem hlt)
      refine .inr ⟨jg, fun H3 => ∃ ι3 st3, Grow (ι1 ++ [L]) (upd H1 L (.dK [])) ι3 H3 ∧ Rel X.K H3 ι3 st3 ∧ Post X.K X.mg E (RV X.K) ι3 H3 Q (dcGo gs g t ek ev (wipeM μ vs) st1.length (items.drop (i + 1)) st3),
        fun H3 ⟨ι3, st3, a, b, c⟩ => ⟨items.length - (i + 1), by omega, rfl, hlt, ι3, st3, a, b, c⟩, fun x H3 hy => ?_⟩
      obtain ⟨g3, rel3, rx⟩ := jy x H3 hy
      have sig3 := (sigL.grow g2).grow g3
      have q3 := Post.bind0 (RR := RU) (Post.grow q2 g3)
      unfold dcStep at q3
      refine ⟨ι2, wipeM μ vs, st2, items[i], rel3, sig3, rx, (Post.bind (RR := RG X.K (wipe σ vs) ws) q3).mono fun σ4 H4 ⟨ι4, μ4, st4, g4, rel4, ⟨sig4, hl, hk⟩, q4⟩ => ?_⟩
      refine ⟨wipe_eq hl hk hws, ι4, μ4, st4, rel4, sig4, (Post.bind (RR := RB) q4).mono fun b H5 ⟨ι5, b', st5, g5, rel5, eb, q5⟩ => ?_⟩
      obtain rfl : b = b' := eb
      have gg : Grow (ι1 ++ [L]) (upd H1 L (.dK [])) ι5 H5 := ((g2.trans g3).trans g4).trans g5
      cases b with
      | true =>
        rw [if_pos rfl] at q5 ⊢
        refine ⟨ι5, μ4, st5, rel5, sig4.grow g5, (Post.bind (RR := RV X.K) q5).mono fun y H6 ⟨ι6, d, st6, g6, rel6, ry, q6⟩ => ?_⟩
        refine ⟨ι6, μ4, st6, rel6, (sig4.grow g5).grow g6, (Post.bind (RR := RV X.K) q6).mono fun z H7 ⟨ι7, d7, st7, g7, rel7, rz, q7⟩ => ?_⟩
        have hL7 := ((gg.trans g6).trans g7).at hn
        unfold opSetD at q7
        split at q7
        · rename_i kvs hk
          obtain ⟨ws, e1, e2, r⟩ := rel7.at hL7 hk
          split at q7
          · rename_i k hkk
            have ek := key_of (ry.grow g7) hkk
            subst ek
            split at q7
            · rename_i hz
              have hl' : ws.length = kvs.length := by simpa using congrArg List.length e2
              obtain ⟨p1, p2⟩ := put_RO (k := k) e2 r rz
              obtain ⟨ι8, _, st8, g8, rel8, _, q8⟩ := q7 ι7 (upd H7 L (.dK (putK ws k z))) () (rel7.grow_set hL7) (rel7.set hL7 ⟨_, upd_same, p1, p2.grow (rel7.grow_set hL7)⟩) trivial
              exact ⟨ws, k, rfl, e1, by rw [hl']; exact hz, ι8, st8, (g2.trans g3).trans g8, rel8, q8⟩
            · exact q7.elim
          · exact q7.elim
        · exact q7.elim
      | false =>
        rw [if_neg (by decide)] at q5 ⊢
        obtain ⟨ι7, _, st7, g7, rel7, _, q7⟩ := q5 ι5 H5 () Grow.refl rel5 trivial
        exact ⟨ι7, st7, (g2.trans g3).trans g7, rel7, q7⟩
    · exact q2.elim
  · have hi' : i = items.length := by omega
    subst hi'
    rw [List.drop_length] at q2
    unfold dcGo at q2
    split at q2
    · rename_i hg
      refine .inl ⟨jok.stop ι2 H2 st2 (gL.trans g2) rel2 hg, ?_⟩
      exact q2 ι2 H2 (.ref L) Grow.refl rel2 (.ref (g2.at hn))
    · exact q2.elim
theorem r_dc (hc : X.calm = true) (hN : X.N.Nodup) (hi : PId X E tg iter mi) (ok : BlkOk X.N X.env.scope scope own) (hv : own.map (·.2) = vs := by rfl) (hws : ∀ i ∈ ws, i ∈ vs := by decide)
    (hg : ∀ (s : Shared) (H : Hp) (C : Addr) (cl : List (Str × Addr)) (fp : List Addr), PGd (X.blk s H scope (compEnvC scope cl C X.env) fp) E00 ws tg g)
    (ht : ∀ (s : Shared) (H : Hp) (C : Addr) (cl : List (Str × Addr)) (fp : List Addr), PTsd (X.blk s H scope (compEnvC scope cl C X.env) fp) E00 ifs t)
    (hk : ∀ (s : Shared) (H : Hp) (C : Addr) (cl : List (Str × Addr)) (fp : List Addr), PEd (X.blk s H scope (compEnvC scope cl C X.env) fp) E00 kx ek)
    (he : ∀ (s : Shared) (H : Hp) (C : Addr) (cl : List (Str × Addr)) (fp : List Addr), PEd (X.blk s H scope (compEnvC scope cl C X.env) fp) E00 vx ev)
    (hs : ∀ x, foldedSetIterable iter X.env x = pure x := by intro _; rfl) : PEd X E (.DictComp kx vx [⟨tg, iter, ifs, 0⟩] scope pos) (mDc mi g t ek ev vs) := by
  refine PE.imp (pe_dc (g := tG X.K X.mg E00 ws g) (tt := tT X.K X.mg E00 t) (tk := tE X.K X.mg E00 ek) (tv := tE X.K X.mg E00 ev) hc hN hi ok hg ht hk he hs) fun σ H Q q => ?_
  rw [hv]
  exact go_dc hws q
end

/-! ### displays -/
def mDnew : EE := fun _ st => .ok (.ref st.length) (st ++ [.dct []])
abbrev PE2 := Mu → Sto → R (List (D × D))
def mPair (fk fv : EE) (r : PE2) : PE2 := fun μ st => (fk μ st).bind fun k st1 => (fv μ st1).bind fun v st2 => (r μ st2).bind fun ps st3 => .ok ((k, v) :: ps) st3
def mPnil : PE2 := fun _ st => .ok [] st
def keysOf : List (D × D) → Option (List (Key × D))
  | [] => some []
  | (k, v) :: r => match keyOf k, keysOf r with
    | some k, some r => some ((k, v) :: r)
    | _, _ => none
def mergeD (kvs more : List (Key × D)) : List (Key × D) := more.foldl (fun acc kv => put acc kv.1 kv.2) kvs
def mDisp (m : PE2) : EE := fun μ st => (m μ (st ++ [.dct []])).bind fun ps st1 => match keysOf ps, st1[st.length]? with
  | some kvs, some (.dct []) => if kvs.length ≤ 15 then .ok (.ref st.length) (st1.set st.length (.dct (mergeD [] kvs))) else .bad
  | _, _ => .bad
def RVV (K : PySem.W.Frag) (H : Hp) (ι : List Addr) (ps : List (V × V)) (ds : List (D × D)) : Prop := RVs K H ι (ps.map (·.1)) (ds.map (·.1)) ∧ RVs K H ι (ps.map (·.2)) (ds.map (·.2))
section
variable {K : PySem.W.Frag} {H : Hp} {ι : List Addr}
theorem keysOf_kv : ∀ {ps : List (V × V)} {ds : List (D × D)} {kvs : List (Key × D)}, RVV K H ι ps ds → keysOf ds = some kvs → ∃ ws : List (Key × V), ps = ws.map (fun kv => (kV kv.1, kv.2)) ∧ ws.map (·.1) = kvs.map (·.1) ∧ RVs K H ι (ws.map (·.2)) (kvs.map (·.2))
  | [], [], _, _, h => by cases h; exact ⟨[], rfl, rfl, .nil⟩
  | _ :: _, [], _, ⟨h, _⟩, _ => by cases h
  | [], _ :: _, _, ⟨h, _⟩, _ => by cases h
  | (x, y) :: ps, (k, v) :: ds, _, ⟨h1, h2⟩, h => by
    simp only [List.map_cons] at h1 h2
    cases h1 with
    | cons a1 b1 =>
    cases h2 with
    | cons a2 b2 =>
    unfold keysOf at h
    split at h
    · rename_i k' r' e1 e2
      cases h
      obtain ⟨ws, p1, p2, p3⟩ := keysOf_kv ⟨b1, b2⟩ e2
      have ek := key_of a1 e1
      exact ⟨(k', y) :: ws, by rw [List.map_cons, ek, p1], by rw [List.map_cons, List.map_cons, p2], .cons a2 p3⟩
    · cases h
theorem merge_RO : ∀ {more : List (Key × V)} {moreD : List (Key × D)} {ws : List (Key × V)} {kvs : List (Key × D)}, more.map (·.1) = moreD.map (·.1) → RVs K H ι (more.map (·.2)) (moreD.map (·.2)) → ws.map (·.1) = kvs.map (·.1) → RVs K H ι (ws.map (·.2)) (kvs.map (·.2)) →
    (mergeK ws more).map (·.1) = (mergeD kvs moreD).map (·.1) ∧ RVs K H ι ((mergeK ws more).map (·.2)) ((mergeD kvs moreD).map (·.2))
  | [], [], _, _, _, _, h, r => ⟨h, r⟩
  | [], _ :: _, _, _, h, _, _, _ => by cases h
  | _ :: _, [], _, _, h, _, _, _ => by cases h
  | (k1, v1) :: more, (k2, d2) :: moreD, ws, kvs, h, r, h', r' => by
    simp only [List.map_cons, List.cons.injEq] at h
    have hk : k1 = k2 := h.1
    subst hk
    simp only [List.map_cons] at r
    cases r with
    | cons r1 rt =>
      obtain ⟨p1, p2⟩ := put_RO (k := k1) h' r' r1
      exact merge_RO (more := more) (moreD := moreD) h.2 rt p1 p2
end
section
variable {X : Cx} {E : XK} {pos : Pos} {k v : Expr} {ks : List (Option Expr)} {vs : List Expr} {fk fv : EE} {m : PE2}
def tP2 (K : PySem.W.Frag) (mg : Str → Option Value) (E : XK) (m : PE2) : L2.St → Hp → (List (V × V) → Hp → Prop) → Prop := fun σ H Q => ∃ ι μ st, Rel K H ι st ∧ Sig K H ι σ μ ∧ Post K mg E (RVV K) ι H Q (m μ st)
structure PPd (X : Cx) (E : XK) (pos : Pos) (ks : List (Option Expr)) (vs : List Expr) (m : PE2) : Prop where
  ex : ∃ trs, PPs X pos ks vs trs ∧ ∀ σ H Q, tP2 X.K X.mg E m σ H Q → tPairs trs σ H Q
theorem r_pnil : PPd X E pos [] [] mPnil := ⟨[], pps_nil, fun σ H Q ⟨ι, μ, st, rel, sig, q⟩ => q ι H [] Grow.refl rel ⟨.nil, .nil⟩⟩
theorem r_pcons (hk : PEd X E k fk) (hv : PEd X E v fv) (hr : PPd X E pos ks vs m) : PPd X E pos (some k :: ks) (v :: vs) (mPair fk fv m) := by
  obtain ⟨trs, h1, h2⟩ := hr.ex
  refine ⟨_, pps_cons hk hv h1, fun σ H Q ⟨ι, μ, st, rel, sig, q⟩ => ?_⟩
  refine ⟨ι, μ, st, rel, sig, (Post.bind q).mono fun x H1 ⟨ι1, d, st1, g1, rel1, rv, q1⟩ => ?_⟩
  refine ⟨ι1, μ, st1, rel1, sig.grow g1, (Post.bind q1).mono fun y H2 ⟨ι2, d2, st2, g2, rel2, rv2, q2⟩ => ?_⟩
  refine h2 σ H2 _ ⟨ι2, μ, st2, rel2, (sig.grow g1).grow g2, (Post.bind q2).mono fun ps H3 ⟨ι3, ds, st3, g3, rel3, rr, q3⟩ => ?_⟩
  exact q3 ι3 H3 _ Grow.refl rel3 ⟨.cons ((rv.grow g2).grow g3) rr.1, .cons (rv2.grow g3) rr.2⟩
theorem r_disp (h : PPd X E pos ks vs m) (hall : ks.all (·.isSome) = true := by rfl) (hl : ks.length = vs.length := by rfl) (h0 : ks ≠ [] := by exact List.cons_ne_nil _ _) (h15 : ks.length ≤ 15 := by decide) : PEd X E (.Dict ks vs pos) (mDisp m) := by
  obtain ⟨trs, h1, h2⟩ := h.ex
  refine PE.imp (pe_disp h1 hall hl h0 h15) fun σ H Q ⟨ι, μ, st, rel, sig, q⟩ => fun L hL => ?_
  have gL : Grow ι H (ι ++ [L]) (upd H L (.dK [])) := grow_obj hL
  have relL : Rel X.K (upd H L (.dK [])) (ι ++ [L]) (st ++ [.dct []]) := rel.new hL (o := .dct []) ⟨[], upd_same, rfl, .nil⟩
  have hn : (ι ++ [L])[st.length]? = some L := by rw [← rel.len, List.getElem?_append_right (Nat.le_refl _)]; simp
  refine h2 σ _ _ ⟨ι ++ [L], μ, st ++ [.dct []], relL, sig.grow gL, (Post.bind (RR := RVV X.K) (Post.grow q gL)).mono fun ps H1 ⟨ι1, ds, st1, g1, rel1, rr, q1⟩ => ?_⟩
  have hL1 := g1.at hn
  split at q1
  · rename_i kvs hk he
    obtain ⟨ws, e1, e2, r⟩ := rel1.at hL1 he
    split at q1
    · rename_i hz
      obtain ⟨ws', p1, p2, p3⟩ := keysOf_kv rr hk
      have hl' : ws'.length = kvs.length := by simpa using congrArg List.length p2
      have hw : ws = [] := by simpa using e2
      subst hw
      obtain ⟨m1, m2⟩ := merge_RO (ws := []) (kvs := []) p2 p3 rfl .nil
      refine ⟨e1, ws', p1, by rw [hl']; exact hz, ?_⟩
      exact q1 ι1 _ (.ref L) (rel1.grow_set hL1) (rel1.set hL1 ⟨_, upd_same, m1, m2.grow (rel1.grow_set hL1)⟩) (.ref hL1)
    · exact q1.elim
  · exact q1.elim
theorem r_dnew : PEd X E (.Dict [] [] pos) mDnew := by
  refine PE.imp pe_dnewK fun σ H Q ⟨ι, μ, st, rel, sig, q⟩ => fun L hL => ?_
  have hn : (ι ++ [L])[st.length]? = some L := by rw [← rel.len, List.getElem?_append_right (Nat.le_refl _)]; simp
  exact q (ι ++ [L]) _ (.ref L) (grow_obj hL) (rel.new hL (o := .dct []) ⟨[], upd_same, rfl, .nil⟩) (.ref hn)
end
end Fd
end
section
set_option Elab.async false
set_option linter.all false
set_option maxRecDepth 100000
set_option maxHeartbeats 4000000
/-! Methods. -/
namespace Fd
open PySem PySem.Spec PyProof.Rows L2

def isTy (T : String) (d : D) (st : Sto) : Bool := match d with
  | .ref n => match st[n]? with
    | some (.lst _) => T == "list"
    | some (.dct _) => T == "dict"
    | none => false
  | _ => false
theorem ty_of {K : PySem.W.Frag} {H : Hp} {ι : List Addr} {st : Sto} {T : String} {x : V} {d : D} (rel : Rel K H ι st) (r : RV K H ι x d) (h : isTy T d st = true) : tyV K T x H := by
  unfold isTy at h
  split at h
  · cases r with
    | ref hn =>
    split at h
    · rename_i xs hx
      obtain ⟨ys, e, _⟩ := rel.at hn hx
      exact .inl ⟨by simpa using h, ys, .inl (.inl e)⟩
    · rename_i kvs hk
      obtain ⟨ws, e, _⟩ := rel.at hn hk
      exact .inr (.inr (.inl ⟨by simpa using h, .inl ⟨ws, e⟩⟩))
    · cases h
  · cases h
abbrev MF := D → List D → Sto → R D
def mM (T : String) (g : MF) (f : EE) (as : AE) : EE := fun μ st => (f μ st).bind fun o st1 => if isTy T o st1 = true then (as μ st1).bind fun ds st2 => g o ds st2 else .bad
def OpM (X : Cx) (E : XK) (r : V → List V → Hp → VK → Prop) (g : MF) : Prop := ∀ (x : V) (xs : List V) (d : D) (ds : List D) (ι : List Addr) (H : Hp) (st : Sto) (Q : VK), Rel X.K H ι st → RV X.K H ι x d → RVs X.K H ι xs ds → Post X.K X.mg E (RV X.K) ι H Q (g d ds st) → r x xs H Q
section
variable {X : Cx} {E : XK} {o e : Expr} {es : List Expr} {name : Str} {apos cpos : Pos} {T id : String} {f : EE} {as : AE} {g : MF} {r : V → List V → Hp → VK → Prop}
theorem r_m0 (pa : PlainAttrs T) (slot : Slot T name id) (hty : typeOf (.builtin id) = pure (.type "method_descriptor")) (hm : MtR X id r) (h : OpM X E r g) (ho : PEd X E o f)
    (hbase : attributeBase o name X.env (eval o X.env) = eval o X.env := by rfl) (hline : (apos.endLine == cpos.line) = true := by rfl) : PEd X E (.Call (.Attribute o name apos) [] [] cpos) (mM T g f mNil) := by
  refine PE.imp (pe_bm0 pa slot hty hm ho hbase hline) fun σ H Q ⟨ι, μ, st, rel, sig, q⟩ => ?_
  refine ⟨ι, μ, st, rel, sig, (Post.bind q).mono fun x H1 ⟨ι1, d, st1, g1, rel1, rv, q1⟩ => ?_⟩
  split at q1
  · rename_i ht
    exact ⟨ty_of rel1 rv ht, h x [] d [] ι1 H1 st1 Q rel1 rv .nil q1⟩
  · exact q1.elim
theorem r_m (pa : PlainAttrs T) (slot : Slot T name id) (hty : typeOf (.builtin id) = pure (.type "method_descriptor")) (hm : MtR X id r) (h : OpM X E r g) (ho : PEd X E o f) (ha : PAd X E (e :: es) as)
    (hbase : attributeBase o name X.env (eval o X.env) = eval o X.env := by rfl)
    (hfew : ((backTo cpos (starEach (e :: es) X.env)).all (fun x => !x.1) && (backToKw cpos (keywordEach [] X.env)).all (fun x => x.1.isSome)
      && decide ((e :: es).length + ([] : List Keyword).length + (if ([] : List Keyword).isEmpty then 0 else 1) < 30)) = true := by rfl)
    (hline : (apos.endLine == cpos.line) = true := by rfl) (hs : starEach (e :: es) X.env = (false, eval e X.env) :: starEach es X.env := by rfl) (hplain : (backTo cpos (starEach es X.env)).any (·.1) = false := by rfl) :
    PEd X E (.Call (.Attribute o name apos) (e :: es) [] cpos) (mM T g f as) := by
  refine PE.imp (pe_bm pa slot hty hm ho ha hbase hfew hline hs hplain) fun σ H Q ⟨ι, μ, st, rel, sig, q⟩ => ?_
  refine ⟨ι, μ, st, rel, sig, (Post.bind q).mono fun x H1 ⟨ι1, d, st1, g1, rel1, rv, q1⟩ => ?_⟩
  split at q1
  · rename_i ht
    refine ⟨ty_of rel1 rv ht, ι1, μ, st1, rel1, sig.grow g1, (Post.bind q1).mono fun xs H2 ⟨ι2, ds, st2, g2, rel2, rs, q2⟩ => ?_⟩
    exact h x xs d ds ι2 H2 st2 Q rel2 (rv.grow g2) rs q2
  · exact q1.elim
end
def mfAppend : MF := fun d ds st => match d, ds with
  | .ref n, [y] => match st[n]? with
    | some (.lst xs) => if xs.length < sizeLine then .ok .non (st.set n (.lst (xs ++ [y]))) else .bad
    | _ => .bad
  | _, _ => .bad
def mfExtend : MF := fun d ds st => match d, ds with
  | .ref n, [.ref m] => match st[n]?, st[m]? with
    | some (.lst xs), some (.lst zs) => if xs.length + zs.length ≤ sizeLine then .ok .non (st.set n (.lst (xs ++ zs))) else .bad
    | _, _ => .bad
  | _, _ => .bad
def mfPop0 : MF := fun d ds st => match d, ds with
  | .ref n, [] => match st[n]? with
    | some (.lst xs) => match xs[xs.length - 1]? with
      | some y => .ok y (st.set n (.lst xs.dropLast))
      | none => .bad
    | _ => .bad
  | _, _ => .bad
def mfPop1 : MF := fun d ds st => match d, ds with
  | .ref n, [.int i] => match st[n]? with
    | some (.lst xs) => if -(2 ^ 63) ≤ i ∧ i < 2 ^ 63 then match seqIndex? i xs.length with
      | some k => match xs[k]? with
        | some y => .ok y (st.set n (.lst (xs.eraseIdx k)))
        | none => .bad
      | none => .bad
      else .bad
    | _ => .bad
  | _, _ => .bad
def mfReverse : MF := fun d ds st => match d, ds with
  | .ref n, [] => match st[n]? with
    | some (.lst xs) => .ok .non (st.set n (.lst xs.reverse))
    | _ => .bad
  | _, _ => .bad
def mfCount : MF := fun d ds st => match d, ds with
  | .ref n, [.int k] => match st[n]? with
    | some (.lst xs) => match intsOf xs with
      | some ns => .ok (.int (ns.count k : Nat)) st
      | none => .bad
    | _ => .bad
  | _, _ => .bad
def mfUpdate : MF := fun d ds st => match d, ds with
  | .ref n, [.ref m] => match st[n]?, st[m]? with
    | some (.dct kvs), some (.dct more) => if n ≠ m ∧ kvs.length + more.length ≤ sizeLine then .ok .non (st.set n (.dct (mergeD kvs more))) else .bad
    | _, _ => .bad
  | _, _ => .bad
section
variable {X : Cx} {E : XK}
theorem RVs.dropLast {K : PySem.W.Frag} {H : Hp} {ι : List Addr} : ∀ {ys : List V} {xs : List D}, RVs K H ι ys xs → RVs K H ι ys.dropLast xs.dropLast
  | _, _, .nil => .nil
  | _, _, .cons a .nil => .nil
  | _, _, .cons a (.cons b c) => .cons a (RVs.dropLast (.cons b c))
theorem RVs.eraseIdx {K : PySem.W.Frag} {H : Hp} {ι : List Addr} : ∀ {ys : List V} {xs : List D} (i : Nat), RVs K H ι ys xs → RVs K H ι (ys.eraseIdx i) (xs.eraseIdx i)
  | _, _, _, .nil => .nil
  | _, _, 0, .cons _ t => t
  | _, _, i + 1, .cons r t => .cons r (RVs.eraseIdx i t)
theorem o_append : OpM X E rAppend mfAppend := by
  intro x xs d ds ι H st Q rel rv rs q
  unfold mfAppend at q
  split at q
  · cases rv with
    | ref hn =>
    cases rs with
    | cons ry rt =>
    cases rt
    split at q
    · rename_i xs hx
      obtain ⟨ys, e, r⟩ := rel.at hn hx
      split at q
      · rename_i hz
        exact ⟨_, ys, _, rfl, rfl, e, by rw [r.length]; exact hz, q ι _ .non (rel.grow_set hn) (rel.set hn ⟨_, upd_same, (r.append (.cons ry .nil)).grow (rel.grow_set hn)⟩) .non⟩
      · exact q.elim
    · exact q.elim
  · exact q.elim
theorem o_extend : OpM X E rExtend mfExtend := by
  intro x xs d ds ι H st Q rel rv rs q
  unfold mfExtend at q
  split at q
  · cases rv with
    | ref hn =>
    cases rs with
    | cons ry rt =>
    cases rt
    cases ry with
    | ref hm =>
    split at q
    · rename_i xs zs hx hz
      obtain ⟨ys, e, r⟩ := rel.at hn hx
      obtain ⟨ys', e', r'⟩ := rel.at hm hz
      split at q
      · rename_i hz
        exact ⟨_, _, ys, ys', rfl, rfl, e, e', by rw [r.length, r'.length]; exact hz, q ι _ .non (rel.grow_set hn) (rel.set hn ⟨_, upd_same, (r.append r').grow (rel.grow_set hn)⟩) .non⟩
      · exact q.elim
    · exact q.elim
  · exact q.elim
theorem o_pop0 : OpM X E rPop mfPop0 := by
  intro x xs d ds ι H st Q rel rv rs q
  unfold mfPop0 at q
  split at q
  · cases rv with
    | ref hn =>
    cases rs
    split at q
    · rename_i xs hx
      obtain ⟨ys, e, r⟩ := rel.at hn hx
      split at q
      · rename_i y hy
        obtain ⟨v, hv, rv⟩ := r.get hy
        exact ⟨_, ys, v, rfl, rfl, e, by rw [r.length]; exact hv, q ι _ v (rel.grow_set hn) (rel.set hn ⟨_, upd_same, r.dropLast.grow (rel.grow_set hn)⟩) (rv.grow (rel.grow_set hn))⟩
      · exact q.elim
    · exact q.elim
  · exact q.elim
theorem o_pop1 : OpM X E rPopAt mfPop1 := by
  intro x xs d ds ι H st Q rel rv rs q
  unfold mfPop1 at q
  split at q
  · cases rv with
    | ref hn =>
    cases rs with
    | cons ry rt =>
    cases rt
    cases ry
    split at q
    · rename_i xs hx
      obtain ⟨ys, e, r⟩ := rel.at hn hx
      split at q
      · rename_i hb
        split at q
        · rename_i k hk
          split at q
          · rename_i y hy
            obtain ⟨v, hv, rv⟩ := r.get hy
            exact ⟨_, ys, _, k, v, rfl, rfl, e, hb.1, hb.2, by rw [r.length]; exact hk, hv, q ι _ v (rel.grow_set hn) (rel.set hn ⟨_, upd_same, (r.eraseIdx k).grow (rel.grow_set hn)⟩) (rv.grow (rel.grow_set hn))⟩
          · exact q.elim
        · exact q.elim
      · exact q.elim
    · exact q.elim
  · exact q.elim
theorem o_reverse : OpM X E rReverse mfReverse := by
  intro x xs d ds ι H st Q rel rv rs q
  unfold mfReverse at q
  split at q
  · cases rv with
    | ref hn =>
    cases rs
    split at q
    · rename_i xs hx
      obtain ⟨ys, e, r⟩ := rel.at hn hx
      exact ⟨_, ys, rfl, rfl, e, q ι _ .non (rel.grow_set hn) (rel.set hn ⟨_, upd_same, r.reverse.grow (rel.grow_set hn)⟩) .non⟩
    · exact q.elim
  · exact q.elim
theorem o_count : OpM X E (rCntI X.K) mfCount := by
  intro x xs d ds ι H st Q rel rv rs q
  unfold mfCount at q
  split at q
  · cases rv with
    | ref hn =>
    cases rs with
    | cons ry rt =>
    cases rt
    cases ry
    split at q
    · rename_i xs hx
      obtain ⟨ys, e, r⟩ := rel.at hn hx
      split at q
      · rename_i ns hns
        refine ⟨_, ns, _, rfl, rfl, ?_, q ι H _ Grow.refl rel (.int _)⟩
        rw [intsOf_eq hns] at r
        rw [r.of_ints] at e
        exact .inl (.inl e)
      · exact q.elim
    · exact q.elim
  · exact q.elim
def rUpd : V → List V → Hp → VK → Prop := fun x vs H Q => ∃ l b kvs more, x = .ref l ∧ vs = [.ref b] ∧ l ≠ b ∧ H l = some (.dK kvs) ∧ H b = some (.dK more) ∧ kvs.length + more.length ≤ sizeLine ∧ Q .non (upd H l (.dK (mergeK kvs more)))
theorem mt_update : MtR X "dict.update" rUpd := by
  intro pins s σ H x vs v us Q I rx rv h
  obtain ⟨l, b, kvs, more, rfl, rfl, hne, hH, hB, hz, q⟩ := h
  cases rx
  obtain ⟨u, rfl, ru⟩ := rv.one
  cases ru
  obtain ⟨z, hd, ws, rel, dd⟩ := dk_of I.hok hH
  obtain ⟨z2, hd2, ws2, rel2, dd2⟩ := dk_of I.hok hB
  refine call_meetsIn PySem.F.slot_dict_update dd.typeIs PySem.F.entry_dict_update (PySem.F.args_dict_update_2 _ _) (meets_dict_update (mixKind X.prog X.w) l b hne hd2) ⟨ws, ws2, dd, dd2, by rw [← rel.length, ← rel2.length]; exact hz, fun h' dd' _ hs => ?_⟩
  have he : ∃ q, h'.get? l = some q := let ⟨q, _, _, hq, _⟩ := dd'; ⟨q, hq⟩
  refine ⟨.non, _, d_write I (by rw [hH]; exact True.intro) hs he (dk_new ?_ hd (rel2.merge rel) dd'), rfl, q⟩
  have := length_mergeK more kvs
  omega
theorem o_update : OpM X E rUpd mfUpdate := by
  intro x xs d ds ι H st Q rel rv rs q
  unfold mfUpdate at q
  split at q
  · cases rv with
    | ref hn =>
    cases rs with
    | cons ry rt =>
    cases rt
    cases ry with
    | ref hm =>
    split at q
    · rename_i xs zs hx hz
      obtain ⟨ws, e1, e2, r⟩ := rel.at hn hx
      obtain ⟨ws', e1', e2', r'⟩ := rel.at hm hz
      split at q
      · rename_i hz
        have hl : ws.length = xs.length := by simpa using congrArg List.length e2
        have hl' : ws'.length = zs.length := by simpa using congrArg List.length e2'
        obtain ⟨m1, m2⟩ := merge_RO e2' r' e2 r
        exact ⟨_, _, ws, ws', rfl, rfl, fun hab => hz.1 ((List.getElem?_inj (List.getElem?_eq_some_iff.mp hn).1 rel.nd).mp (hn.trans ((congrArg some hab).trans hm.symm))), e1, e1', by rw [hl, hl']; exact hz.2, q ι _ .non (rel.grow_set hn) (rel.set hn ⟨_, upd_same, m1, m2.grow (rel.grow_set hn)⟩) .non⟩
      · exact q.elim
    · exact q.elim
  · exact q.elim
end
section
variable {X : Cx} {E : XK} {o e : Expr} {apos cpos : Pos} {f : EE} {as : AE}
theorem r_append (ho : PEd X E o f) (ha : PAd X E [e] as) (hbase : attributeBase o "append" X.env (eval o X.env) = eval o X.env := by rfl)
    (hfew : ((backTo cpos (starEach [e] X.env)).all (fun x => !x.1) && (backToKw cpos (keywordEach [] X.env)).all (fun x => x.1.isSome) && decide ([e].length + ([] : List Keyword).length + (if ([] : List Keyword).isEmpty then 0 else 1) < 30)) = true := by rfl)
    (hline : (apos.endLine == cpos.line) = true := by rfl) (hs : starEach [e] X.env = (false, eval e X.env) :: starEach [] X.env := by rfl) (hpl : (backTo cpos (starEach [] X.env)).any (·.1) = false := by rfl) : PEd X E (.Call (.Attribute o "append" apos) [e] [] cpos) (mM "list" mfAppend f as) :=
  r_m F.plainAttrs_list F.slot_list_append F.type_list_append mt_append o_append ho ha hbase hfew hline hs hpl
theorem r_extend (ho : PEd X E o f) (ha : PAd X E [e] as) (hbase : attributeBase o "extend" X.env (eval o X.env) = eval o X.env := by rfl)
    (hfew : ((backTo cpos (starEach [e] X.env)).all (fun x => !x.1) && (backToKw cpos (keywordEach [] X.env)).all (fun x => x.1.isSome) && decide ([e].length + ([] : List Keyword).length + (if ([] : List Keyword).isEmpty then 0 else 1) < 30)) = true := by rfl)
    (hline : (apos.endLine == cpos.line) = true := by rfl) (hs : starEach [e] X.env = (false, eval e X.env) :: starEach [] X.env := by rfl) (hpl : (backTo cpos (starEach [] X.env)).any (·.1) = false := by rfl) : PEd X E (.Call (.Attribute o "extend" apos) [e] [] cpos) (mM "list" mfExtend f as) :=
  r_m F.plainAttrs_list F.slot_list_extend F.type_list_extend mt_extend o_extend ho ha hbase hfew hline hs hpl
theorem r_pop1 (ho : PEd X E o f) (ha : PAd X E [e] as) (hbase : attributeBase o "pop" X.env (eval o X.env) = eval o X.env := by rfl)
    (hfew : ((backTo cpos (starEach [e] X.env)).all (fun x => !x.1) && (backToKw cpos (keywordEach [] X.env)).all (fun x => x.1.isSome) && decide ([e].length + ([] : List Keyword).length + (if ([] : List Keyword).isEmpty then 0 else 1) < 30)) = true := by rfl)
    (hline : (apos.endLine == cpos.line) = true := by rfl) (hs : starEach [e] X.env = (false, eval e X.env) :: starEach [] X.env := by rfl) (hpl : (backTo cpos (starEach [] X.env)).any (·.1) = false := by rfl) : PEd X E (.Call (.Attribute o "pop" apos) [e] [] cpos) (mM "list" mfPop1 f as) :=
  r_m F.plainAttrs_list F.slot_list_pop F.type_list_pop mt_popAt o_pop1 ho ha hbase hfew hline hs hpl
theorem r_lcount (ho : PEd X E o f) (ha : PAd X E [e] as) (hbase : attributeBase o "count" X.env (eval o X.env) = eval o X.env := by rfl)
    (hfew : ((backTo cpos (starEach [e] X.env)).all (fun x => !x.1) && (backToKw cpos (keywordEach [] X.env)).all (fun x => x.1.isSome) && decide ([e].length + ([] : List Keyword).length + (if ([] : List Keyword).isEmpty then 0 else 1) < 30)) = true := by rfl)
    (hline : (apos.endLine == cpos.line) = true := by rfl) (hs : starEach [e] X.env = (false, eval e X.env) :: starEach [] X.env := by rfl) (hpl : (backTo cpos (starEach [] X.env)).any (·.1) = false := by rfl) : PEd X E (.Call (.Attribute o "count" apos) [e] [] cpos) (mM "list" mfCount f as) :=
  r_m F.plainAttrs_list F.slot_list_count F.type_list_count mt_lcount o_count ho ha hbase hfew hline hs hpl
theorem r_update (ho : PEd X E o f) (ha : PAd X E [e] as) (hbase : attributeBase o "update" X.env (eval o X.env) = eval o X.env := by rfl)
    (hfew : ((backTo cpos (starEach [e] X.env)).all (fun x => !x.1) && (backToKw cpos (keywordEach [] X.env)).all (fun x => x.1.isSome) && decide ([e].length + ([] : List Keyword).length + (if ([] : List Keyword).isEmpty then 0 else 1) < 30)) = true := by rfl)
    (hline : (apos.endLine == cpos.line) = true := by rfl) (hs : starEach [e] X.env = (false, eval e X.env) :: starEach [] X.env := by rfl) (hpl : (backTo cpos (starEach [] X.env)).any (·.1) = false := by rfl) : PEd X E (.Call (.Attribute o "update" apos) [e] [] cpos) (mM "dict" mfUpdate f as) :=
  r_m F.plainAttrs_dict F.slot_dict_update F.type_dict_update mt_update o_update ho ha hbase hfew hline hs hpl
theorem r_pop0 (ho : PEd X E o f) (hbase : attributeBase o "pop" X.env (eval o X.env) = eval o X.env := by rfl) (hline : (apos.endLine == cpos.line) = true := by rfl) : PEd X E (.Call (.Attribute o "pop" apos) [] [] cpos) (mM "list" mfPop0 f mNil) :=
  r_m0 F.plainAttrs_list F.slot_list_pop F.type_list_pop mt_pop o_pop0 ho hbase hline
theorem r_reverse (ho : PEd X E o f) (hbase : attributeBase o "reverse" X.env (eval o X.env) = eval o X.env := by rfl) (hline : (apos.endLine == cpos.line) = true := by rfl) : PEd X E (.Call (.Attribute o "reverse" apos) [] [] cpos) (mM "list" mfReverse f mNil) :=
  r_m0 F.plainAttrs_list F.slot_list_reverse F.type_list_reverse mt_reverse o_reverse ho hbase hline
end
end Fd
end
section
set_option Elab.async false
set_option linter.all false
set_option maxRecDepth 100000
set_option maxHeartbeats 4000000
/-! Statements. -/
namespace Fd
open PySem PySem.Spec PyProof.Rows L2

inductive Out where
  | nx (μ : Mu)
  | rt (d : D)
  | bk (μ : Mu)
  | ct (μ : Mu)
inductive VO where
  | nx (σ : L2.St)
  | rt (v : V)
  | bk (σ : L2.St)
  | ct (σ : L2.St)
abbrev SE := Mu → Sto → R Out
def EndQ (D : Ends) : VO → Hp → Prop
  | .nx σ, H => D.nx σ H
  | .rt v, H => D.rt v H
  | .bk σ, H => D.bk σ H
  | .ct σ, H => D.ct σ H
def ROut (K : PySem.W.Frag) (H : Hp) (ι : List Addr) : VO → Out → Prop
  | .nx σ, .nx μ => Sig K H ι σ μ
  | .rt v, .rt d => RV K H ι v d
  | .bk σ, .bk μ => Sig K H ι σ μ
  | .ct σ, .ct μ => Sig K H ι σ μ
  | _, _ => False
def tS (K : PySem.W.Frag) (mg : Str → Option Value) (E : XK) (m : SE) : TS := fun D σ H => ∃ ι μ st, Rel K H ι st ∧ Sig K H ι σ μ ∧ Post K mg E (ROut K) ι H (EndQ D) (m μ st)
abbrev PSd (X : Cx) (E : XK) (st : Stmt) (m : SE) : Prop := PS X st (tS X.K X.mg E m)
abbrev PSsd (X : Cx) (E : XK) (st : List Stmt) (m : SE) : Prop := PSs X st (tS X.K X.mg E m)
theorem PS.imp {X : Cx} {e : Stmt} {t t' : TS} (h : PS X e t) (i : ∀ D σ H, t' D σ H → t D σ H) : PS X e t' := ⟨fun pins s σ H D I q => h.run pins s σ H D I (i D σ H q)⟩
theorem PSs.imp {X : Cx} {e : List Stmt} {t t' : TS} (h : PSs X e t) (i : ∀ D σ H, t' D σ H → t D σ H) : PSs X e t' := ⟨fun pins s σ H D I q => h.run pins s σ H D I (i D σ H q)⟩
def mNext : SE := fun μ st => .ok (.nx μ) st
def thenS (k : Mu → Sto → R Out) (o : Out) (st : Sto) : R Out := match o with
  | .nx μ => k μ st
  | o => .ok o st
def mSeq (a b : SE) : SE := fun μ st => (a μ st).bind (thenS b)
def mDrop (f : EE) : SE := fun μ st => (f μ st).bind fun _ st1 => .ok (.nx μ) st1
def mAsg (f : EE) (g : GE) : SE := fun μ st => (f μ st).bind fun d st1 => (g d μ st1).bind fun μ1 st2 => .ok (.nx μ1) st2
def mRet (f : EE) : SE := fun μ st => (f μ st).bind fun d st1 => .ok (.rt d) st1
def mRetN : SE := fun _ st => .ok (.rt .non) st
def mIfS (c : BE) (a b : SE) : SE := fun μ st => (c μ st).bind fun x st1 => if x = true then a μ st1 else b μ st1
def mBreak : SE := fun μ st => .ok (.bk μ) st
def mCont : SE := fun μ st => .ok (.ct μ) st
def mBad : SE := fun _ _ => .bad
def mPar2 (i j : Nat) (fs : AE) : SE := fun μ st => (fs μ st).bind fun ds st1 => match ds with
  | [a, b] => .ok (.nx ((μ.set i (some a)).set j (some b))) st1
  | _ => .bad
def mPar3 (i j l : Nat) (fs : AE) : SE := fun μ st => (fs μ st).bind fun ds st1 => match ds with
  | [a, b, c] => .ok (.nx (((μ.set i (some a)).set j (some b)).set l (some c))) st1
  | _ => .bad
def ipD (f : Int → Int → Int) (x y : D) (st : Sto) : R D := match x, y with
  | .int i, .int j => .ok (.int (f i j)) st
  | _, _ => .bad
def mAug (i : Nat) (g : D → D → Sto → R D) (f : EE) : SE := fun μ st => match getS μ i with
  | some x => (f μ st).bind fun y st1 => (g x y st1).bind fun z st2 => .ok (.nx (μ.set i (some z))) st2
  | none => .bad
def loopK (k : Mu → Sto → R Out) (o : Out) (st : Sto) : R Out := match o with
  | .nx μ => k μ st
  | .ct μ => k μ st
  | .bk μ => .ok (.nx μ) st
  | .rt d => .ok (.rt d) st
def forGo (gs : Gd) (g : GE) (b : SE) : List D → Mu → Sto → R Out
  | [], μ, st => if gok gs st = true then .ok (.nx μ) st else .bad
  | x :: r, μ, st => if gok gs st = true then (g x μ st).bind fun μ1 st1 => (b μ1 st1).bind (loopK (forGo gs g b r)) else .bad
def mFor (mi : IE) (g : GE) (b : SE) : SE := fun μ st => (mi μ st).bind fun p st1 => forGo p.2 g b p.1 μ st1
def whGo (c : BE) (b : SE) : Nat → Mu → Sto → R Out
  | 0, _, _ => .bad
  | n + 1, μ, st => (c μ st).bind fun x st1 => if x = true then (b μ st1).bind (loopK (whGo c b n)) else .ok (.nx μ) st1
def mWhile (n : Nat) (c : BE) (b : SE) : SE := whGo c b n
section
variable {X : Cx} {E : XK} {st : Stmt} {rest : List Stmt} {a b m : SE} {e : Expr} {f : EE} {pos : Pos} {ws : List Nat} {g : GE}
theorem r_snil : PSsd X E [] mNext := PSs.imp pss_nil fun D σ H ⟨ι, μ, st, rel, sig, q⟩ => q ι H (.nx σ) Grow.refl rel sig
/-- what follows a statement that goes on -/
theorem post_then {K : PySem.W.Frag} {mg : Str → Option Value} {ι : List Addr} {H : Hp} {D : Ends} {r : R Out} {k : Mu → Sto → R Out} {N : L2.St → Hp → Prop} (h : Post K mg E (ROut K) ι H (EndQ D) (r.bind (thenS k)))
    (hn : ∀ ι1 σ1 H1 μ1 st1, Grow ι H ι1 H1 → Rel K H1 ι1 st1 → Sig K H1 ι1 σ1 μ1 → Post K mg E (ROut K) ι1 H1 (EndQ D) (k μ1 st1) → N σ1 H1) : Post K mg E (ROut K) ι H (EndQ { D with nx := N }) r := by
  refine (Post.bind h).mono fun v H1 ⟨ι1, o, st1, g, rel, r, q⟩ => ?_
  cases o with
  | nx μ =>
    cases v with
    | nx σ => exact hn ι1 σ H1 μ st1 g rel r q
    | rt v => exact r.elim
    | bk v => exact r.elim
    | ct v => exact r.elim
  | rt d =>
    cases v with
    | rt v => exact q ι1 H1 (.rt v) Grow.refl rel r
    | nx v => exact r.elim
    | bk v => exact r.elim
    | ct v => exact r.elim
  | bk μ =>
    cases v with
    | bk v => exact q ι1 H1 (.bk v) Grow.refl rel r
    | nx v => exact r.elim
    | rt v => exact r.elim
    | ct v => exact r.elim
  | ct μ =>
    cases v with
    | ct v => exact q ι1 H1 (.ct v) Grow.refl rel r
    | nx v => exact r.elim
    | bk v => exact r.elim
    | rt v => exact r.elim
theorem r_scons (h1 : PSd X E st a) (h2 : PSsd X E rest b) : PSsd X E (st :: rest) (mSeq a b) := by
  refine PSs.imp (pss_cons h1 h2) fun D σ H ⟨ι, μ, st, rel, sig, q⟩ => ?_
  exact ⟨ι, μ, st, rel, sig, post_then q fun ι1 σ1 H1 μ1 st1 g rel1 sig1 q1 => ⟨ι1, μ1, st1, rel1, sig1, q1⟩⟩
theorem r_sone (h1 : PSd X E st a) : PSsd X E [st] a := pss_one h1
theorem r_pass : PSd X E (.Pass pos) mNext := PS.imp ps_pass fun D σ H ⟨ι, μ, st, rel, sig, q⟩ => q ι H (.nx σ) Grow.refl rel sig
theorem r_break : PSd X E (.Break pos) mBreak := PS.imp ps_break fun D σ H ⟨ι, μ, st, rel, sig, q⟩ => q ι H (.bk σ) Grow.refl rel sig
theorem r_cont : PSd X E (.Continue pos) mCont := PS.imp ps_continue fun D σ H ⟨ι, μ, st, rel, sig, q⟩ => q ι H (.ct σ) Grow.refl rel sig
theorem r_never : PSd X E st mBad := PS.imp ps_never fun D σ H ⟨ι, μ, st, rel, sig, q⟩ => q.elim
theorem r_expr (he : PEd X E e f) (hs : swapsWith e none pos.line X.env = pure false := by rfl) : PSd X E (.Expr e pos) (mDrop f) := by
  refine PS.imp (ps_expr he hs) fun D σ H ⟨ι, μ, st, rel, sig, q⟩ => ?_
  exact ⟨ι, μ, st, rel, sig, (Post.bind q).mono fun v H1 ⟨ι1, d, st1, g1, rel1, rv, q1⟩ => q1 ι1 H1 (.nx σ) Grow.refl rel1 (sig.grow g1)⟩
theorem r_ret (he : PEd X E e f) : PSd X E (.Return (some e) pos) (mRet f) := by
  refine PS.imp (ps_ret he) fun D σ H ⟨ι, μ, st, rel, sig, q⟩ => ?_
  exact ⟨ι, μ, st, rel, sig, (Post.bind q).mono fun v H1 ⟨ι1, d, st1, g1, rel1, rv, q1⟩ => q1 ι1 H1 (.rt v) Grow.refl rel1 rv⟩
theorem r_retN : PSd X E (.Return none pos) mRetN := PS.imp ps_retN fun D σ H ⟨ι, μ, st, rel, sig, q⟩ => q ι H (.rt .non) Grow.refl rel .non
theorem r_sif {c : Expr} {xs ys : List Stmt} {t : BE} (hc : PTd X E c t) (ha : PSsd X E xs a) (hb : PSsd X E ys b) : PSd X E (.If c xs ys pos) (mIfS t a b) := by
  refine PS.imp (ps_if hc ha hb) fun D σ H ⟨ι, μ, st, rel, sig, q⟩ => ?_
  refine ⟨ι, μ, st, rel, sig, (Post.bind q).mono fun v H1 ⟨ι1, d, st1, g1, rel1, rv, q1⟩ => ?_⟩
  obtain rfl : v = d := rv
  split
  · rename_i h; rw [if_pos h] at q1; exact ⟨ι1, μ, st1, rel1, sig.grow g1, q1⟩
  · rename_i h; rw [if_neg h] at q1; exact ⟨ι1, μ, st1, rel1, sig.grow g1, q1⟩
theorem asg_of {tg : Expr} {D : Ends} {σ : L2.St} {H : Hp} (q : tS X.K X.mg E (mAsg f g) D σ H) : tAsg (tE X.K X.mg E f) (tG X.K X.mg E ws g) D σ H := by
  obtain ⟨ι, μ, st, rel, sig, q⟩ := q
  refine ⟨ι, μ, st, rel, sig, (Post.bind q).mono fun v H1 ⟨ι1, d, st1, g1, rel1, rv, q1⟩ => ?_⟩
  exact ⟨ι1, μ, st1, d, rel1, sig.grow g1, rv, (Post.bind q1).mono fun σ2 H2 ⟨ι2, μ2, st2, g2, rel2, rg, q2⟩ => q2 ι2 H2 (.nx σ2) Grow.refl rel2 rg.1⟩
theorem r_asg {tg : Expr} (he : PEd X E e f) (hg : PGd X E ws tg g) (hs : swapsWithSole [tg] e pos.line X.env = pure false := by rfl) (hw : swappedStores [tg] e X.env = pure none := by rfl)
    (h1 : (assignEach [tg] X.env).map (·.2) = [assign tg X.env] := by rfl) : PSd X E (.Assign [tg] e pos) (mAsg f g) := PS.imp (ps_asg he hg hs hw h1) fun D σ H q => asg_of (tg := tg) q
theorem r_set {i : Nat} {x : Str} {pos' : Pos} (hN : X.N.Nodup) (he : PEd X E e f) (hi : X.N[i]? = some x := by rfl) (hx : Loc X.env.scope x := by first | exact Or.inl rfl | exact Or.inr rfl) (hs : swapsWith e (some (.Name x pos')) pos.line X.env = pure false := by rfl)
    (hf : X.fn x = true ∨ X.env.scope.names.lookup x = some .local := by first | exact .inl rfl | exact .inr rfl) : PSd X E (.Assign [.Name x pos'] e pos) (mAsg f (gN i)) := by
  refine PS.imp (ps_set hN hi hx he hs hf) fun D σ H ⟨ι, μ, st, rel, sig, q⟩ => ?_
  refine ⟨ι, μ, st, rel, sig, (Post.bind q).mono fun v H1 ⟨ι1, d, st1, g1, rel1, rv, q1⟩ => ?_⟩
  exact q1 ι1 H1 (.nx _) Grow.refl rel1 ((sig.grow g1).set rv)
theorem r_par2 (i j : Nat) {x y : Str} {a b : Expr} {fs : AE} {px py pt : Pos} {kt k2 pt2} (hc : X.calm = true) (hN : X.N.Nodup) (ha : PAd X E [a, b] fs) (hi : X.N[i]? = some x := by rfl) (hj : X.N[j]? = some y := by rfl) (hij : i ≠ j := by decide)
    (hx : X.env.scope.names.lookup x = some .local := by rfl) (hy : X.env.scope.names.lookup y = some .local := by rfl)
    (hw : swappedStores [.Tuple [.Name x px, .Name y py] kt pt] (.Tuple [a, b] k2 pt2) X.env = pure (some [x, y]) := by rfl)
    (hs : swapsWithSole [.Tuple [.Name x px, .Name y py] kt pt] (.Tuple [a, b] k2 pt2) pos.line X.env = pure false := by rfl) :
    PSd X E (.Assign [.Tuple [.Name x px, .Name y py] kt pt] (.Tuple [a, b] k2 pt2) pos) (mPar2 i j fs) := by
  refine PS.imp (ps_par hc hN hi hj hij hx hy ha hw hs) fun D σ H ⟨ι, μ, st, rel, sig, q⟩ => ?_
  refine ⟨ι, μ, st, rel, sig, (Post.bind q).mono fun vs H1 ⟨ι1, ds, st1, g1, rel1, rs, q1⟩ => ?_⟩
  split at q1
  · obtain ⟨v, w, rfl, r1, r2⟩ := rs.two
    exact ⟨v, w, rfl, q1 ι1 H1 (.nx _) Grow.refl rel1 (((sig.grow g1).set r1).set r2)⟩
  · exact q1.elim
theorem r_par3 (i j l : Nat) {x y z : Str} {a b c : Expr} {fs : AE} {px py pz pt : Pos} {kt k2 pt2} (hc : X.calm = true) (hN : X.N.Nodup) (ha : PAd X E [a, b, c] fs) (hi : X.N[i]? = some x := by rfl) (hj : X.N[j]? = some y := by rfl) (hl : X.N[l]? = some z := by rfl) (hij : i ≠ j := by decide) (hil : i ≠ l := by decide) (hjl : j ≠ l := by decide)
    (hx : X.env.scope.names.lookup x = some .local := by rfl) (hy : X.env.scope.names.lookup y = some .local := by rfl) (hz : X.env.scope.names.lookup z = some .local := by rfl)
    (hw : swappedStores [.Tuple [.Name x px, .Name y py, .Name z pz] kt pt] (.Tuple [a, b, c] k2 pt2) X.env = pure (some [x, y, z]) := by rfl)
    (hs : swapsWithSole [.Tuple [.Name x px, .Name y py, .Name z pz] kt pt] (.Tuple [a, b, c] k2 pt2) pos.line X.env = pure false := by rfl) :
    PSd X E (.Assign [.Tuple [.Name x px, .Name y py, .Name z pz] kt pt] (.Tuple [a, b, c] k2 pt2) pos) (mPar3 i j l fs) := by
  refine PS.imp (ps_par3 hc hN hi hj hl hij hil hjl hx hy hz ha hw hs) fun D σ H ⟨ι, μ, st, rel, sig, q⟩ => ?_
  refine ⟨ι, μ, st, rel, sig, (Post.bind q).mono fun vs H1 ⟨ι1, ds, st1, g1, rel1, rs, q1⟩ => ?_⟩
  split at q1
  · cases rs with
    | cons r1 rs =>
    obtain ⟨v, w, rfl, r2, r3⟩ := rs.two
    exact ⟨_, v, w, rfl, q1 ι1 H1 (.nx _) Grow.refl rel1 ((((sig.grow g1).set r1).set r2).set r3)⟩
  · exact q1.elim
/-- a loop -/
theorem post_loop {K : PySem.W.Frag} {mg : Str → Option Value} {ι : List Addr} {H : Hp} {D : Ends} {r : R Out} {k : Mu → Sto → R Out} {N : L2.St → Hp → Prop} (h : Post K mg E (ROut K) ι H (EndQ D) (r.bind (loopK k)))
    (hn : ∀ ι1 σ1 H1 μ1 st1, Grow ι H ι1 H1 → Rel K H1 ι1 st1 → Sig K H1 ι1 σ1 μ1 → Post K mg E (ROut K) ι1 H1 (EndQ D) (k μ1 st1) → N σ1 H1) : Post K mg E (ROut K) ι H (EndQ { D with nx := N, ct := N, bk := D.nx }) r := by
  refine (Post.bind h).mono fun v H1 ⟨ι1, o, st1, g, rel, r, q⟩ => ?_
  cases o with
  | nx μ =>
    cases v with
    | nx σ => exact hn ι1 σ H1 μ st1 g rel r q
    | rt v => exact r.elim
    | bk v => exact r.elim
    | ct v => exact r.elim
  | rt d =>
    cases v with
    | rt v => exact q ι1 H1 (.rt v) Grow.refl rel r
    | nx v => exact r.elim
    | bk v => exact r.elim
    | ct v => exact r.elim
  | bk μ =>
    cases v with
    | bk v => exact q ι1 H1 (.nx v) Grow.refl rel r
    | nx v => exact r.elim
    | rt v => exact r.elim
    | ct v => exact r.elim
  | ct μ =>
    cases v with
    | ct v => exact hn ι1 v H1 μ st1 g rel r q
    | nx v => exact r.elim
    | bk v => exact r.elim
    | rt v => exact r.elim
theorem r_for {tg iter : Expr} {body : List Stmt} {mi : IE} (hp : PassesOwn (model X.prog X.w) X.A X.env X.xe) (hc : X.calm = true) (hi : PId X E tg iter mi) (hg : PGd X E ws tg g) (hb : PSsd X E body b)
    (hs : ∀ x, foldedSetIterable iter X.env x = pure x := by intro _; rfl) : PSd X E (.For tg iter body [] pos) (mFor mi g b) := by
  refine PS.imp (ps_for hp hc hi hg hb hs) fun D σ H ⟨ι, μ, st, rel, sig, q⟩ => ?_
  refine ⟨ι, μ, st, rel, sig, (Post.bind q).mono fun J H1 ⟨ι1, p, st1, g1, rel1, jok, q1⟩ => ?_⟩
  obtain ⟨items, gs⟩ := p
  have jok : JOk X.K J ι1 H1 items gs := jok
  refine ⟨fun i m σ H2 => m = items.length - i ∧ i ≤ items.length ∧ ∃ ι2 μ2 st2, Grow ι1 H1 ι2 H2 ∧ Rel X.K H2 ι2 st2 ∧ Sig X.K H2 ι2 σ μ2 ∧ Post X.K X.mg E (ROut X.K) ι2 H2 (EndQ D) (forGo gs g b (items.drop i) μ2 st2),
    ⟨items.length, by simp, Nat.zero_le _, ι1, μ, st1, Grow.refl, rel1, sig.grow g1, by rw [List.drop_zero]; exact q1⟩, ?_⟩
  rintro i m σ2 H2 ⟨rfl, hi, ι2, μ2, st2, g2, rel2, sig2, q2⟩
  by_cases hlt : i < items.length
  · rw [List.drop_eq_getElem_cons hlt] at q2
    unfold forGo at q2
    split at q2
    · rename_i hg
      obtain ⟨jg, jy⟩ := jok.go i ι2 H2 st2 items[i] g2 rel2 hg (List.getElem?_eq_getElem hlt)
      refine .inr ⟨jg, fun σ3 H3 => ∃ ι3 μ3 st3, Grow ι1 H1 ι3 H3 ∧ Rel X.K H3 ι3 st3 ∧ Sig X.K H3 ι3 σ3 μ3 ∧ Post X.K X.mg E (ROut X.K) ι3 H3 (EndQ D) (forGo gs g b (items.drop (i + 1)) μ3 st3),
        fun σ3 H3 ⟨ι3, μ3, st3, a, b, c, d⟩ => ⟨items.length - (i + 1), by omega, rfl, hlt, ι3, μ3, st3, a, b, c, d⟩, fun x H3 hy => ?_⟩
      obtain ⟨g3, rel3, rx⟩ := jy x H3 hy
      refine ⟨ι2, μ2, st2, items[i], rel3, sig2.grow g3, rx, (Post.bind (RR := RG X.K σ2 ws) (Post.grow q2 g3)).mono fun σ4 H4 ⟨ι4, μ4, st4, g4, rel4, ⟨sig4, _⟩, q4⟩ => ?_⟩
      refine ⟨ι4, μ4, st4, rel4, sig4, post_loop q4 fun ι5 σ5 H5 μ5 st5 g5 rel5 sig5 q5 => ?_⟩
      exact ⟨ι5, μ5, st5, ((g2.trans g3).trans g4).trans g5, rel5, sig5, q5⟩
    · exact q2.elim
  · have hi' : i = items.length := by omega
    subst hi'
    rw [List.drop_length] at q2
    unfold forGo at q2
    split at q2
    · rename_i hg
      exact .inl ⟨jok.stop ι2 H2 st2 g2 rel2 hg, q2 ι2 H2 (.nx σ2) Grow.refl rel2 sig2⟩
    · exact q2.elim
theorem r_while (n : Nat) {c : Expr} {body : List Stmt} {t : BE} (hp : PassesOwn (model X.prog X.w) X.A X.env X.xe) (hc : PTd X E c t) (hb : PSsd X E body b) : PSd X E (.While c body [] pos) (mWhile n t b) := by
  refine PS.imp (ps_while hp hc hb) fun D σ H ⟨ι, μ, st, rel, sig, q⟩ => ?_
  refine ⟨fun m σ H => ∃ ι μ st, Rel X.K H ι st ∧ Sig X.K H ι σ μ ∧ Post X.K X.mg E (ROut X.K) ι H (EndQ D) (whGo t b m μ st), ⟨n, ι, μ, st, rel, sig, q⟩, ?_⟩
  rintro m σ2 H2 ⟨ι2, μ2, st2, rel2, sig2, q2⟩
  cases m with
  | zero => exact q2.elim
  | succ m =>
    unfold whGo at q2
    refine ⟨ι2, μ2, st2, rel2, sig2, (Post.bind (RR := RB) q2).mono fun x H3 ⟨ι3, d, st3, g3, rel3, rv, q3⟩ => ?_⟩
    obtain rfl : x = d := rv
    split
    · rename_i h
      rw [if_pos h] at q3
      refine ⟨fun σ3 H3 => ∃ ι μ st, Rel X.K H3 ι st ∧ Sig X.K H3 ι σ3 μ ∧ Post X.K X.mg E (ROut X.K) ι H3 (EndQ D) (whGo t b m μ st), fun σ3 H3 w => ⟨m, Nat.lt_succ_self _, w⟩, ι3, μ2, st3, rel3, sig2.grow g3, post_loop q3 fun ι4 σ4 H4 μ4 st4 g4 rel4 sig4 q4 => ⟨ι4, μ4, st4, rel4, sig4, q4⟩⟩
    · rename_i h
      rw [if_neg h] at q3
      exact q3 ι3 H3 (.nx σ2) Grow.refl rel3 (sig2.grow g3)
theorem r_aug (i : Nat) {x : Str} {op : Operator} {h : Int → Int → Int} {pos' : Pos} (hN : X.N.Nodup) (he : PEd X E e f) (ho : PIp X op (ipI h)) (hi : X.N[i]? = some x := by rfl) (hx : Loc X.env.scope x := by first | exact Or.inl rfl | exact Or.inr rfl)
    (hf : X.fn x = true ∨ X.env.scope.names.lookup x = some .local := by first | exact .inl rfl | exact .inr rfl) : PSd X E (.AugAssign (.Name x pos') op e pos) (mAug i (ipD h) f) := by
  refine PS.imp (ps_aug hN hi hx he ho hf) fun D σ H ⟨ι, μ, st, rel, sig, q⟩ => ?_
  unfold mAug at q
  split at q
  · rename_i d hd
    unfold getS at hd
    cases hm : μ[i]? with
    | none => rw [hm] at hd; cases hd
    | some o =>
      rw [hm] at hd
      obtain rfl : o = some d := hd
      obtain ⟨v, hv, rv⟩ := sig.2 i d hm
      refine ⟨v, hv, ι, μ, st, rel, sig, (Post.bind q).mono fun y H1 ⟨ι1, d1, st1, g1, rel1, ry, q1⟩ => ?_⟩
      unfold ipD at q1
      split at q1
      · cases rv
        cases ry
        exact ⟨_, _, rfl, rfl, q1 ι1 H1 (.nx _) Grow.refl rel1 ((sig.grow g1).set (.int _))⟩
      · exact q1.elim
  · exact q.elim
theorem r_setLc {i : Nat} {y : Str} {py : Pos} {elt tg iter : Expr} {ifs : List Expr} {scope : Scope} {own : List (Str × Nat)} {cpos : Pos} {mi : IE} {vs : List Nat} {t : BE} (hc : X.calm = true) (hN : X.N.Nodup) (hi : PId X E tg iter mi) (ok : BlkOk X.N X.env.scope scope own) (hv : own.map (·.2) = vs := by rfl) (hws : ∀ i ∈ ws, i ∈ vs := by decide)
    (hg : ∀ (s : Shared) (H : Hp) (C : Addr) (cl : List (Str × Addr)) (fp : List Addr), PGd (X.blk s H scope (compEnvC scope cl C X.env) fp) E00 ws tg g)
    (ht : ∀ (s : Shared) (H : Hp) (C : Addr) (cl : List (Str × Addr)) (fp : List Addr), PTsd (X.blk s H scope (compEnvC scope cl C X.env) fp) E00 ifs t)
    (he : ∀ (s : Shared) (H : Hp) (C : Addr) (cl : List (Str × Addr)) (fp : List Addr), PEd (X.blk s H scope (compEnvC scope cl C X.env) fp) E00 elt f)
    (hy : X.N[i]? = some y := by rfl) (hyl : X.env.scope.names.lookup y = some .local := by rfl) (hk : X.env.scope.kind = .function := by rfl) (hl : (py.line == cpos.line) = true := by rfl)
    (hany : (scope.names.any fun (n, k) => n == y && (k == .local || k == .cell)) = false := by rfl)
    (hs : ∀ x, foldedSetIterable iter X.env x = pure x := by intro _; rfl) : PSd X E (.Assign [.Name y py] (.ListComp elt [⟨tg, iter, ifs, 0⟩] scope cpos) pos) (mAsg (mLc mi g t f vs) (gN i)) := by
  refine PS.imp (ps_setLc (g := tG X.K X.mg E00 ws g) (tt := tT X.K X.mg E00 t) (te := tE X.K X.mg E00 f) hc hN hy hyl (sw_true hk hyl hl hany) hi ok hg ht he hs) fun D σ H ⟨ι, μ, st, rel, sig, q⟩ => ?_
  rw [hv]
  refine go_lc hws ⟨ι, μ, st, rel, sig, (Post.bind q).mono fun v H1 ⟨ι1, d, st1, g1, rel1, rv, q1⟩ => ?_⟩
  exact q1 ι1 H1 (.nx _) Grow.refl rel1 ((sig.grow g1).set rv)
end
end Fd
end
section
set_option Elab.async false
set_option linter.all false
set_option maxRecDepth 100000
set_option maxHeartbeats 4000000
/-! Defs, calls, the law's head: HandS's rules for a room that knows its guards. -/
namespace Fd
open PySem PySem.Spec PyProof.Rows L2

abbrev DF := List D → Sto → R D
def startD (n : Nat) (ds : List D) : Mu := ds.map some ++ List.replicate (n - ds.length) none
def endD (o : Out) (st : Sto) : R D := match o with
  | .nx _ => .ok .non st
  | .rt d => .ok d st
  | _ => .bad
/-- a def of n names and p parameters by its body -/
def fnD (n p : Nat) (m : SE) : DF := fun ds st => if ds.length = p then (m (startD n ds) st).bind endD else .bad
/-- what is promised of a def -/
def Wish (K : PySem.W.Frag) (mg : Str → Option Value) (G : DF) (vs : List V) (H : Hp) (Q : VK) : Prop :=
  ∃ ι st ds, Rel K H ι st ∧ RVs K H ι vs ds ∧ Post K mg E00 (RV K) ι H Q (G ds st)
def Good (outer : List Env) (P : Program) (w : World) (H : Hp) (s : Shared) (Q : VK) (r : Result) (s' : Shared) : Prop := CR CX0 outer P w H s Q E00 r s'
structure FnG (P : Program) (w : World) (K : PySem.W.Frag) (mg : Str → Option Value) (base : Heap) (k : Nat) (f : Addr) (fd : FuncData) (ps : List Str) (G : DF) : Prop where
  len : ∀ vs H Q, Wish K mg G vs H Q → vs.length = ps.length
  go : ∀ (B : Around) (out : List Env) (t : Shared) (H : Hp) (ar : Args) (xs : List Value) (vs : List V) (Q : VK), Rm k B → Env0 P w K mg base B out t H →
    BindsTo t fd ar (ps.zip xs) → Vals vs xs → Wish K mg G vs H Q → codeAny (model P w) B (.call (.ref f) ar) (Good out P w H t Q) t
section
variable {P : Program} {w : World} {K : PySem.W.Frag} {mg : Str → Option Value} {base : Heap} {f : Addr} {fd : FuncData} {ps : List Str} {G : DF}
theorem FnG.lift {j k : Nat} (F : FnG P w K mg base j f fd ps G) (h : j ≤ k) : FnG P w K mg base k f fd ps G :=
  ⟨F.len, fun B out t H ar xs vs Q r => F.go B out t H ar xs vs Q (r.mono h)⟩
theorem sig_start {H : Hp} {ι : List Addr} {N : List Str} {n : Nat} {vs : List V} {ds : List D} (hn : N.length = n) (r : RVs K H ι vs ds) : Sig K H ι (L2.start N vs) (startD n ds) := by
  have hl := r.length
  subst hn
  refine ⟨by simp [L2.start, startD, hl], fun i d e => ?_⟩
  unfold startD at e
  by_cases hi : i < ds.length
  · rw [List.getElem?_append_left (by simpa using hi), List.getElem?_map] at e
    cases hd : ds[i]? with
    | none => rw [hd] at e; cases e
    | some d' =>
      rw [hd] at e
      cases e
      obtain ⟨v, hv, rv⟩ := r.get hd
      refine ⟨v, ?_, rv⟩
      unfold L2.start
      rw [List.getElem?_append_left (by simpa [hl] using hi), List.getElem?_map, hv]
      rfl
  · rw [List.getElem?_append_right (by simpa using hi), List.getElem?_replicate] at e
    split at e <;> cases e
/-- a def of the text, by its body -/
theorem FnG.of {x qual : Str} {st : Stmt} {N : List Str} {k n p : Nat} {m : SE} (F : Fun K x qual st f fd) (S : FnScope N ps (defScope st)) (hn : N.length = n) (hp : ps.length = p)
    (body : ∀ (cdv : Value) (B : Around) (out : List Env) (t : Shared) (H : Hp), Rm k (B.deeper (envOfC qual (defScope st) t.heap.objs.size f cdv)) →
      PSsd (cxOf CX0 P w K mg base N qual (defScope st) f cdv B out t H E00).nox E00 (defBody st) m) : FnG P w K mg base (k + 1) f fd ps (fnD n p m) := by
  have hlen : ∀ vs H Q, Wish K mg (fnD n p m) vs H Q → vs.length = ps.length := by
    rintro vs H Q ⟨ι, st, ds, rel, rs, q⟩
    unfold fnD at q
    split at q
    · rename_i hd
      rw [rs.length, hd, hp]
    · exact q.elim
  refine ⟨hlen, fun B out t H ar xs vs Q rm e0 bnd vals wish => ?_⟩
  have count := hlen _ _ _ wish
  obtain ⟨oc, od, kV, doc, pm, an, cdv, ct, osl, rfl, lk, code⟩ := F.ex
  have inK : K.In t.heap := e0.mod.kin.keeps fun b o e => (e0.bs b o e).1
  have noLim : t.heap.NoLimit := e0.mod.nolimit.keeps fun b o e => (e0.bs b o e).1
  refine codeAny_call_function rm.room.depth (inK _ _ lk) rfl S.co S.gen rfl (PySem.W.codeRec_of inK code) (bnd _ _ _ _ ?_)
  refine wpAny_newFunctionEnv_cells S.kind ?_ ?_
  · rintro ⟨nm, v⟩ hy
    refine (S.par nm (List.of_mem_zip hy).1).imp id fun q => ⟨q, PySem.W.cellsFrom_some _ _ _ (.inl q)⟩
  · intro env he t1 inC
    subst he
    refine ⟨noLim.keeps inC.toInCall.keep, codeAny_func ?_⟩
    have start0 := inv_start (CX := CX0) (E := E00) S rm.room.hd e0 count vals inC
    obtain ⟨ι, st0, ds, rel, rs, q⟩ := wish
    unfold fnD at q
    rw [if_pos (by rw [← rs.length, count, hp])] at q
    have rm' : Rm k (B.deeper (envOfC qual (defScope st) t.heap.objs.size f cdv)) := ⟨rm.room.deeper _, rm.gd⟩
    have bodyOk := (body cdv B out t H rm').nox
    refine wpAny_mono (bodyOk.run [] t1 (L2.start N vs) H { nx := fun _ H' => Q .non H', rt := Q } start0 ⟨ι, _, st0, rel, sig_start hn rs, (Post.bind (RR := ROut K) q).mono ?_⟩) ?_ fun e s' hs => hs
    · rintro vo H1 ⟨ι1, o, st1, g1, rel1, ro, q1⟩
      cases o with
      | nx μ =>
        cases vo with
        | nx σ => exact q1 ι1 H1 .non Grow.refl rel1 .non
        | rt v => exact ro.elim
        | bk v => exact ro.elim
        | ct v => exact ro.elim
      | rt d =>
        cases vo with
        | rt v => exact q1 ι1 H1 v Grow.refl rel1 ro
        | nx v => exact ro.elim
        | bk v => exact ro.elim
        | ct v => exact ro.elim
      | bk μ => exact q1.elim
      | ct μ => exact q1.elim
    · intro fl s' hs
      cases fl with
      | ret u =>
        obtain ⟨v, σ', H', J, rv, q⟩ := hs
        exact ⟨v, H', J.os, J.bare, J.base, J.hok, rv, q⟩
      | next =>
        obtain ⟨σ', H', J, q⟩ := hs
        exact ⟨.non, H', J.os, J.bare, J.base, J.hok, rfl, q⟩
      | brk => obtain ⟨_, _, _, z⟩ := hs; exact z.elim
      | cont => obtain ⟨_, _, _, z⟩ := hs; exact z.elim
end
section
variable {X : Cx} {k j : Nat} {f : Addr} {fd : FuncData} {ps : List Str} {G : DF} {x : Str} {p pos : Pos} {e : Expr} {es : List Expr} {fs : AE}
theorem FnG.runs {pins : List (Addr × Obj)} {σ : L2.St} {H : Hp} {t : Shared} {Q : VK} {xs : List Value} {vs : List V} (F : FnG X.prog X.w X.K X.mg X.base j f fd ps G) (hr : Rm k X.A) (hj : j ≤ k) (hb : Binds X.K fd ps [])
    (I : Inv X pins σ H t) (r : Vals vs xs) (h : Wish X.K X.mg G vs H Q) : wpAny (model X.prog X.w) X.A (call (.ref f) xs) (EP X pins σ Q) X.xe t := by
  have hl : xs.length = ps.length := by rw [← r.length]; exact F.len _ _ _ h
  have hb' := hb t xs I.kIn (by rw [List.append_nil]; exact hl)
  rw [List.append_nil] at hb'
  refine wpAny_call (codeAny_mono ((F.lift hj).go X.A X.stack t H ⟨xs, []⟩ xs vs Q hr I.env0 hb' r h) ?_)
  intro res t' q
  match res, q with
  | .ok (.ret u), q => exact I.after q
theorem r_call (F : FnG X.prog X.w X.K X.mg X.base j f fd ps G) (hr : Rm k X.A) (hm : X.mg x = some (.ref f)) (hk : PySem.W.keepIn X.K (.ref f) = true) (hb : Binds X.K fd ps []) (ha : PAd X E00 (e :: es) fs) (hj : j ≤ k := by decide) (hg : Gl X x := by rfl)
    (hdb : (x == ("__debug__" : Str)) = false := by decide) (he : starEach (e :: es) X.env = (false, eval e X.env) :: starEach es X.env := by rfl) (hpl : (backTo pos (starEach es X.env)).any (·.1) = false := by rfl) : PEd X E00 (.Call (.Name x p) (e :: es) [] pos) (mN G fs) := by
  refine ⟨fun pins t σ H Q I ⟨ι, μ, st, rel, sig, q⟩ => wpAny_Call_Name_kw (ld_glob I hg hm ?_ hdb)⟩
  refine PySem.W.callWith_K (h₀ := X.base) I.ok.mod.kin hk (thn (ha.run pos pins t σ H _ I ⟨ι, μ, st, rel, sig, Post.bind q⟩) ?_) he hpl
  rintro us s1 ⟨vs, H1, I1, r, ι1, ds, st1, g1, rel1, rs, q1⟩
  exact ⟨I1.kIn, F.runs hr hj hb I1 r ⟨ι1, st1, ds, rel1, rs, q1⟩⟩
theorem r_call0 (F : FnG X.prog X.w X.K X.mg X.base j f fd ps G) (hr : Rm k X.A) (hm : X.mg x = some (.ref f)) (hk : PySem.W.keepIn X.K (.ref f) = true) (hb : Binds X.K fd ps []) (hj : j ≤ k := by decide) (hg : Gl X x := by rfl)
    (hdb : (x == ("__debug__" : Str)) = false := by decide) : PEd X E00 (.Call (.Name x p) [] [] pos) (mN G mNil) := by
  refine ⟨fun pins t σ H Q I ⟨ι, μ, st, rel, sig, q⟩ => wpAny_Call_Name_kw (ld_glob I hg hm ?_ hdb)⟩
  exact PySem.W.callWith_K0 I.kIn hk (F.runs (xs := []) hr hj hb I .nil ⟨ι, st, [], rel, .nil, q⟩)
end
/-- a def as the callers want it -/
structure Cl (P : Program) (w : World) (K : PySem.W.Frag) (mg : Str → Option Value) (base : Heap) (k : Nat) (x : Str) (ps : List Str) (G : DF) : Prop where
  ex : ∃ f fd, FnG P w K mg base k f fd ps G ∧ mg x = some (.ref f) ∧ PySem.W.keepIn K (.ref f) = true ∧ Binds K fd ps []
section
variable {X : Cx} {k j : Nat} {ps : List Str} {G : DF} {x : Str} {p pos : Pos} {e : Expr} {es : List Expr} {fs : AE}
theorem r_cl (F : Cl X.prog X.w X.K X.mg X.base j x ps G) (hr : Rm k X.A) (ha : PAd X E00 (e :: es) fs) (hj : j ≤ k := by decide) (hg : Gl X x := by rfl)
    (hdb : (x == ("__debug__" : Str)) = false := by decide) (he : starEach (e :: es) X.env = (false, eval e X.env) :: starEach es X.env := by rfl) (hpl : (backTo pos (starEach es X.env)).any (·.1) = false := by rfl) : PEd X E00 (.Call (.Name x p) (e :: es) [] pos) (mN G fs) := by
  obtain ⟨f, fd, F, hm, hk, hb⟩ := F.ex
  exact r_call F hr hm hk hb ha hj hg hdb he hpl
theorem r_cl0 (F : Cl X.prog X.w X.K X.mg X.base j x ps G) (hr : Rm k X.A) (hj : j ≤ k := by decide) (hg : Gl X x := by rfl) (hdb : (x == ("__debug__" : Str)) = false := by decide) : PEd X E00 (.Call (.Name x p) [] [] pos) (mN G mNil) := by
  obtain ⟨f, fd, F, hm, hk, hb⟩ := F.ex
  exact r_call0 F hr hm hk hb hj hg hdb
end
end Fd
end
section
set_option Elab.async false
set_option linter.all false
set_option maxRecDepth 100000
set_option maxHeartbeats 4000000
/-! The law's head for a promise Fd.Wish. -/
namespace Fd
open PySem PySem.Spec PyProof.Rows L2

def Done (t0 : Shared) (r : Result) (t : Shared) : Prop := r = .ok (.ret (.bool true)) ∧ OldK t0.heap t.heap ∧ t.os = t0.os ∧ AllBare t.gens
section
variable {P : Program} {w : World} {K : PySem.W.Frag} {mg mb : Str → Option Value} {k : Nat} {fa a : Addr} {fd : FuncData} {x : Str} {G : DF} {t0 : Shared} {vs : List Value} {ns : List Int}
/-- from a heap in which nothing is tracked but (perhaps) the script -/
theorem head_core {H : Hp} (inK : K.In t0.heap) (g : t0.heap.Ns mainGlobals mg) (b : t0.heap.Ns builtinsNs mb) (bb : ∀ y : Str, y ≠ "__name__" → mb y = bootBuiltins y) (lim : t0.heap.NoLimit) (gens : t0.gens = #[])
    (script : t0.heap.get? a = some { cls := .type "list", data := .seq vs.toArray }) (room : Rm k callerA) (only : Only H) (one : ∀ c, H c ≠ none → c = a) (out : H a ≠ none → K.lookup a = none) (hok : HOk P w H t0.heap)
    (F : ∀ base : Heap, K.In base → base.Ns mainGlobals mg → FnG P w K mg base k fa fd [x] G) (bnd : ∀ (s : Shared) (u : Value), BindsTo s fd ⟨[u], []⟩ [(x, u)])
    (wish : Wish K mg G [.ref a] H fun v _ => v = .bl true) : codeAny (model P w) callerA (.call (.ref fa) ⟨[.ref a], []⟩) (Done t0) t0 := by
  have free : ∀ {c : Addr} {o : Obj}, t0.heap.get? c = some o → (c = a → H c = none) → H c = none := fun {c o} _ h => by
    rcases hc : H c with _ | u
    · rfl
    · exact hc ▸ h (one c (by rw [hc]; exact Option.some_ne_none _))
  have nsp : ∀ {c : Addr} {m : Str → Option Value}, t0.heap.Ns c m → (hidT t0.heap H).Ns c m := fun {c m} ⟨o, es, ep, e, d, rest⟩ => by
    refine ⟨o, es, ep, hidT_get e (free e fun ca => ?_), d, rest⟩
    subst ca
    rw [script] at e
    cases e
    exact absurd (show Data.seq vs.toArray _ = Data.dict es ep from d) (by intro z; cases z)
  have inB : K.In (hidT t0.heap H) := fun c o e => hidT_get (inK c o e) (free (inK c o e) fun ca => by
    subst ca
    rcases hc : H c with _ | u
    · rfl
    · rw [out (by rw [hc]; exact Option.some_ne_none _)] at e; cases e)
  obtain ⟨mc, lim1, lim2⟩ := lim
  have env : Env0 P w K mg (hidT t0.heap H) callerA [] t0 H :=
    { frames := rfl, mod := ⟨inB, nsp g, ⟨mb, nsp b, bb⟩, mc, nsp lim1, lim2⟩, bs := fun c o e => of_hidT e, bsz := Nat.le_of_eq (hidT_size _ _), funs := trivial, frf := (fun c hc => nomatch hc), hok := hok, bare := .of_eq gens }
  refine codeAny_mono ((F _ inB (nsp g)).go callerA [] t0 H ⟨[.ref a], []⟩ [.ref a] [.ref a] _ room env (bnd t0 (.ref a)) (.cons rfl .nil) wish) ?_
  intro res t h
  match res, h with
  | .ok (.ret u), ⟨v, H', os, bare, un, hok', rv, ev⟩ =>
    subst ev
    obtain rfl : u = Value.bool true := rv
    refine ⟨rfl, OldK.of_keep fun c o e => ?_, os, bare⟩
    rcases hc : H c with _ | u
    · exact un.keep c o e hc (fun z => nomatch z) (fun z => nomatch z)
    · rcases only c with z | ⟨ob, xs, z⟩
      · rw [hc] at z; cases z
      · have l1 := (hok c _ z).1
        rw [e] at l1
        cases l1
        exact (hok' c _ (un.frzs c _ _ z)).1
/-- the law's def at the script -/
theorem head_run (inK : K.In t0.heap) (g : t0.heap.Ns mainGlobals mg) (b : t0.heap.Ns builtinsNs mb) (bb : ∀ y : Str, y ≠ "__name__" → mb y = bootBuiltins y) (lim : t0.heap.NoLimit) (gens : t0.gens = #[])
    (script : t0.heap.get? a = some { cls := .type "list", data := .seq vs.toArray }) (isI : IntsAre vs ns) (small : ns.length ≤ sizeLine) (room : Rm k callerA)
    (F : ∀ base : Heap, K.In base → base.Ns mainGlobals mg → FnG P w K mg base k fa fd [x] G) (bnd : ∀ (s : Shared) (u : Value), BindsTo s fd ⟨[u], []⟩ [(x, u)])
    (hG : ∃ st, G [.rol (ns.map D.int)] [] = .ok (.bl true) st) : codeAny (model P w) callerA (.call (.ref fa) ⟨[.ref a], []⟩) (Done t0) t0 := by
  have vals := vals_ints isI
  have len := isI.length
  obtain ⟨st, hst⟩ := hG
  have wish : ∀ H : Hp, SqR K H a (ns.map V.int) → Wish K mg G [.ref a] H fun v _ => v = .bl true := fun H hs =>
    ⟨[], [], [.rol (ns.map D.int)], ⟨rfl, List.nodup_nil, fun n b o e => nomatch e⟩, .cons (.rol hs (RVs.ints ns)) .nil, by
      rw [hst]
      intro ι' H' v _ _ rv
      cases rv
      rfl⟩
  rcases hk : K.lookup a with _ | o
  · let H : Hp := fun c => if c = a then some (.frz { cls := .type "list", data := .seq vs.toArray } (.lst (ns.map V.int))) else none
    have hH : ∀ {c u}, H c = some u → c = a ∧ u = .frz { cls := .type "list", data := .seq vs.toArray } (.lst (ns.map V.int)) := fun {c u} h => by
      by_cases hc : c = a
      · simp only [H, hc, if_true, Option.some.injEq] at h
        exact ⟨hc, h.symm⟩
      · simp only [H, hc, if_false] at h
        cases h
    have at_a : H a = some (.frz { cls := .type "list", data := .seq vs.toArray } (.lst (ns.map V.int))) := by simp only [H, if_true]
    refine head_core (H := H) inK g b bb lim gens script room (fun c => ?_) (fun c hc => ?_) (fun _ => hk) (fun c u hu => ?_) F bnd (wish H (.inl ⟨_, at_a⟩))
    · rcases hc : H c with _ | u
      · exact .inl rfl
      · exact .inr ⟨_, _, congrArg some (hH hc).2⟩
    · rcases hc' : H c with _ | u
      · exact absurd hc' hc
      · exact (hH hc').1
    · obtain ⟨rfl, rfl⟩ := hH hu
      exact ⟨script, by rw [List.length_map]; exact small, vs, _, vals, script⟩
  · have e := inK a o hk
    rw [script] at e
    cases e
    refine head_core (H := fun _ => none) inK g b bb lim gens script room (fun _ => .inl rfl) (fun c hc => absurd rfl hc) (fun hc => absurd rfl hc) (fun c u hu => by cases hu) F bnd (wish _ (.inr ⟨_, vs.toArray, _, hk, rfl, rfl, rfl, ?_, by simpa using vals⟩))
    rw [List.size_toArray, len]
    exact small
end
theorem walk_fd {l : PySem.W.OpenLaw} {n k : Nat} {q : Program} {loose : List Str} {XP : (Str → Option Value) → Heap → Prop} {YP : World → Heap → Prop} {d : DefRec} {K : Params → PySem.W.Frag} {G : World → DF} {x : Str}
    (most : l.most = some n) (small : n ≤ sizeLine) (plain : d.params.defaults = []) (room : Rm k callerA) (look : ∀ (w : World) (h : Heap), YP w h → (K w.params).In h)
    (F : ∀ (w : World) (mg : Str → Option Value) (fa : Addr) (h : Heap), (K w.params).In h → h.Ns mainGlobals mg → XP mg h → mg d.name = some (.ref fa) →
      ∃ fd : FuncData, (∀ (s : Shared) (u : Value), BindsTo s fd ⟨[u], []⟩ [(x, u)]) ∧ ∀ base : Heap, (K w.params).In base → base.Ns mainGlobals mg → FnG l.prog w (K w.params) mg base k fa fd [x] (G w))
    (law : ∀ (w : World) (ns : List Int), ns.length ≤ n → ∃ st, G w [.rol (ns.map D.int)] [] = .ok (.bl true) st) : PySem.W.WalkO q loose XP YP l.row.toRowW d [] (fun f vs => PySem.call f vs) := by
  refine Att.attach_call most plain fun w s0 s1 mg mb fa o pm cd doc a vs ns Gr Y ho hd hcd hmg hobj hints hlen hg => ?_
  have inK := look w _ Y
  obtain ⟨fd, bnd, ok⟩ := F w mg fa _ inK Gr.T.g Gr.X hmg
  exact head_run inK Gr.T.g Gr.T.b Gr.T.builtins Gr.T.nolimit hg hobj hints (Nat.le_trans hlen small) room ok bnd (law w ns hlen)
theorem loose_int {p : Program} {lv : List (Str × PySem.W.WData)} {mg : Str → Option Value} {h : Heap} {x : Str} {i : Int} (e : PySem.W.XL p lv mg h) (hx : (x, PySem.W.WData.int i) ∈ lv) : ∃ t, mg x = some (.int i t) := by
  obtain ⟨v, a, b⟩ := e.2.val _ hx
  cases b with
  | int => exact ⟨_, a⟩
theorem room0 {k : Nat} (h : k ≤ 100) : Rm k callerA := by
  have d : callerA.depth = 301 := rfl
  have u : callerA.units = 4 := rfl
  have r : recursionLimit = 1000 := rfl
  have c : cLine = 9900 := rfl
  exact ⟨⟨rfl, by omega, by omega⟩, rfl⟩
end Fd
end
section
set_option Elab.async false
set_option linter.all false
set_option maxRecDepth 100000
set_option maxHeartbeats 4000000
/-! Slices with a step; list(range(..)); chains of three. -/
namespace Fd
open PySem PySem.Spec PyProof.Rows L2

/-- the places that a tuple's slice picks, the step not one -/
def stepPl (n : Nat) (lo hi : Option Int) (c : Int) : List Nat :=
  let p := Builtin.Slice.sliceAdjust lo hi c n
  (List.range (Builtin.Slice.slicePlaces p.1 p.2 c)).map fun (k : Nat) => (p.1 + (k : Int) * c).toNat
def pickAt {α : Type} (xs : List α) (js : List Nat) : List α := js.filterMap fun j => xs[j]?
def stepT {α : Type} (xs : List α) (lo hi : Option Int) (c : Int) : List α := pickAt xs (stepPl xs.length lo hi c)
def stepLs (n : Nat) (lo hi : Option Int) (c : Int) : List Nat :=
  let b := sliceBounds lo hi (some c) n
  sliceRange b.1 b.2.1 b.2.2
def stepL {α : Type} (xs : List α) (lo hi : Option Int) (c : Int) : List α := pickAt xs (stepLs xs.length lo hi c)
theorem RVs.pick {K : PySem.W.Frag} {H : Hp} {ι : List Addr} {vs : List V} {ds : List D} (r : RVs K H ι vs ds) : ∀ js : List Nat, RVs K H ι (pickAt vs js) (pickAt ds js)
  | [] => .nil
  | j :: js => by
    unfold pickAt
    rw [List.filterMap_cons, List.filterMap_cons]
    have ih := RVs.pick r js
    cases hd : ds[j]? with
    | some d =>
      obtain ⟨v, hv, rv⟩ := r.get hd
      rw [hv]
      exact .cons rv ih
    | none =>
      have : vs[j]? = none := by rw [List.getElem?_eq_none_iff] at hd ⊢; rw [r.length]; exact hd
      rw [this]
      exact ih
theorem Vals.pick {vs : List V} {us : List Value} (r : Vals vs us) : ∀ js : List Nat, Vals (pickAt vs js) (pickAt us js)
  | [] => .nil
  | j :: js => by
    unfold pickAt
    rw [List.filterMap_cons, List.filterMap_cons]
    have ih := Vals.pick r js
    cases hd : vs[j]? with
    | some v =>
      obtain ⟨u, hu, rv⟩ := r.get hd
      rw [hu]
      exact .cons rv ih
    | none =>
      have : us[j]? = none := by rw [List.getElem?_eq_none_iff] at hd ⊢; rw [← r.length]; exact hd
      rw [this]
      exact ih
section
variable {prog : Program} {w : World} {A : Around} {E : Value → Shared → Prop} {s : Shared}
theorem applied_step {sl : Addr} {vl vu : Value} {lo hi : Option Int} {c : Int} {t : Tok} {n : Nat} {Q : Int × Int × Nat → Shared → Prop} (hs : s.heap.IsSliceOf sl vl vu (.int c t)) (pl : IsPart vl lo) (pu : IsPart vu hi) (h0 : c ≠ 0)
    (h : Q ((Builtin.Slice.sliceAdjust lo hi c n).1, c, Builtin.Slice.slicePlaces (Builtin.Slice.sliceAdjust lo hi c n).1 (Builtin.Slice.sliceAdjust lo hi c n).2 c) s) : wpAny (model prog w) A (Builtin.Slice.sliceApplied (.ref sl) (pure (n : Int))) Q E s := by
  obtain ⟨ob, get, cls, dat⟩ := id hs
  unfold Builtin.Slice.sliceApplied Builtin.Slice.sliceFields
  refine wpAny_bind (wpAny_bind (wpAny_field get dat (x := vl) rfl (wpAny_bind (wpAny_field get dat (x := vu) rfl (wpAny_bind (wpAny_field get dat (x := .int c t) rfl (wpAny_pure ?_)))))))
  refine wpAny_bind (slicePart_int ?_)
  show wpAny _ _ (if (c == 0) = true then _ else _) _ _ s
  rw [if_neg (by simpa using h0)]
  exact wpAny_bind (HT.slicePart_ pl (wpAny_bind (HT.slicePart_ pu (wpAny_bind (wpAny_pure (wpAny_pure h))))))
theorem item_step {t sl : Addr} {items : Array Value} {vl vu : Value} {lo hi : Option Int} {c : Int} {tk : Tok} {Q : Value → Shared → Prop} (ht : IsTup s.heap t items) (hs : s.heap.IsSliceOf sl vl vu (.int c tk)) (pl : IsPart vl lo) (pu : IsPart vu hi) (h0 : c ≠ 0) (h1 : c ≠ 1)
    (small : (stepT items.toList lo hi c).length ≤ sizeLine) (h : Q (.ref s.heap.objs.size) { s with heap := s.heap.push { cls := .type "tuple", data := .seq (stepT items.toList lo hi c).toArray } }) : wpAny (model prog w) A (getItem (.ref t) (.ref sl)) Q E s := by
  have isSl : s.TypeIs (.ref sl) "slice" := let ⟨o, g, k, _⟩ := hs; ⟨o, g, k⟩
  unfold getItem
  try with_reducible refine wpAny_holding ?_
  first | refine wpAny_bind (wpAny_pure ?_) | skip
  refine wpAny_bind (wpAny_sequenceKey ht.typeIs (by decide) ?_)
  refine wpAny_bind (wpAny_callSpecial?_slot (name := Str.ofString "__getitem__") ht.typeIs PyProof.Rows.slot_tuple_getitem
    (wpAny_call_entry PyProof.Rows.slot_tuple_getitem ht.typeIs entry_tuple_getitem ?_ (args_tuple_getitem _ _)))
  show wpAny _ _ (Builtin.Tuple.tupleItemsOf (.ref t) >>= _) _ _ s
  refine wpAny_bind (tupleItemsOf_ ht ?_)
  refine wpAny_bind (wpAny_typeOf isSl ?_)
  rw [if_pos (by decide)]
  refine wpAny_bind (applied_step hs pl pu h0 ?_)
  have no : ¬ (((Builtin.Slice.sliceAdjust lo hi c items.size).1 == 0 && c == 1 && Builtin.Slice.slicePlaces (Builtin.Slice.sliceAdjust lo hi c items.size).1 (Builtin.Slice.sliceAdjust lo hi c items.size).2 c == items.size) = true) := by
    intro q
    rw [Bool.and_eq_true, Bool.and_eq_true] at q
    exact h1 (eq_of_beq q.1.2)
  have pick : ((List.range (Builtin.Slice.slicePlaces (Builtin.Slice.sliceAdjust lo hi c items.size).1 (Builtin.Slice.sliceAdjust lo hi c items.size).2 c)).filterMap fun (k : Nat) => items[((Builtin.Slice.sliceAdjust lo hi c items.size).1 + (k : Int) * c).toNat]?) = stepT items.toList lo hi c := by
    unfold stepT pickAt stepPl
    simp only [List.filterMap_map, Array.length_toList]
    congr 1
    funext k
    simp
  show wpAny _ _ (if ((Builtin.Slice.sliceAdjust lo hi c items.size).1 == 0 && c == 1 && Builtin.Slice.slicePlaces (Builtin.Slice.sliceAdjust lo hi c items.size).1 (Builtin.Slice.sliceAdjust lo hi c items.size).2 c == items.size) = true then _ else _) _ _ s
  rw [if_neg no, pick]
  have sz : sizeOk (.seq (stepT items.toList lo hi c).toArray) := by
    show (stepT items.toList lo hi c).toArray.size ≤ sizeLine
    rw [List.size_toArray]
    exact small
  first
    | exact wpAny_bind (m := Builtin.Tuple.tupleExact _) (wpAny_newObj_type (wpAny_pure ⟨_, rfl, wpAny_pure h⟩) sz)
    | exact wpAny_bind (m := Builtin.Tuple.tupleExact _) (wpAny_newObj_type (wpAny_bind (wpAny_pure (wpAny_pure ⟨_, rfl, wpAny_pure h⟩))) sz)
    | exact wpAny_bind (wpAny_bind (m := Builtin.Tuple.tupleExact _) (wpAny_newObj_type (wpAny_pure (wpAny_pure ⟨_, rfl, wpAny_pure h⟩)) sz))
    | exact wpAny_bind (wpAny_bind (m := Builtin.Tuple.tupleExact _) (wpAny_newObj_type (wpAny_pure ⟨_, rfl, wpAny_pure h⟩) sz))
end
def opSlS (x : D) (lo hi : Option Int) (c : D) (st : Sto) : R D := match c with
  | .int c => if c = 0 ∨ c = 1 then .bad else match x with
    | .tup xs => if (stepT xs lo hi c).length ≤ sizeLine then .ok (.tup (stepT xs lo hi c)) st else .bad
    | x => match lstOf x st with
      | some xs => if (stepL xs lo hi c).length ≤ sizeLine then .ok (.ref st.length) (st ++ [.lst (stepL xs lo hi c)]) else .bad
      | none => .bad
  | _ => .bad
def mSlS (f : EE) (lo hi : Option EE) (fc : EE) : EE := fun μ st => (f μ st).bind fun x st1 => (mPart lo μ st1).bind fun l st2 => (mPart hi μ st2).bind fun h st3 => (fc μ st3).bind fun c st4 => opSlS x l h c st4
section
variable {X : Cx} {E : XK} {e : Expr} {fa fc : EE} {p2 pos : Pos}
def rSt (K : PySem.W.Frag) (x : V) (lo hi : Option Int) (c : Int) (H : Hp) (Q : VK) : Prop := c ≠ 0 ∧ c ≠ 1 ∧ ((∃ a xs, x = .ref a ∧ SqT K H a xs ∧ (stepT xs lo hi c).length ≤ sizeLine ∧ ∀ p, H p = none → Q (.ref p) (upd H p (.tup (stepT xs lo hi c)))) ∨
  (∃ a xs, x = .ref a ∧ SqL K H a xs ∧ (stepL xs lo hi c).length ≤ sizeLine ∧ ∀ p, H p = none → Q (.ref p) (upd H p (.lst (stepL xs lo hi c)))))
theorem sl_step {pins : List (Addr × Obj)} {s : Shared} {σ : L2.St} {H : Hp} {x : V} {v vl vu : Value} {lo hi : Option Int} {c : Int} {tk : Tok} {sl : Addr} {Q : VK} (I : Inv X pins σ H s) (rx : RelV x v) (hs : s.heap.IsSliceOf sl vl vu (.int c tk)) (pl : IsPart vl lo) (pu : IsPart vu hi) (h : rSt X.K x lo hi c H Q) :
    ∃ T id, typeLookup (.type T) "__getitem__" = pure (some (.builtin id)) ∧ s.TypeIs v T ∧ wpAny (model X.prog X.w) X.A (getItem v (.ref sl)) (EP X pins σ Q) X.xe s := by
  obtain ⟨h0, h1, ⟨a, xs, rfl, hx, hz, q⟩ | ⟨a, xs, rfl, hx, hz, q⟩⟩ := h
  · cases rx
    obtain ⟨its, r, ht, _⟩ := I.tuple hx
    refine ⟨"tuple", _, PyProof.Rows.slot_tuple_getitem.lookup, ht.typeIs, ?_⟩
    have e : (stepT its lo hi c).length = (stepT xs lo hi c).length := by
      have := (Vals.pick r (stepPl xs.length lo hi c)).length
      unfold stepT
      rw [← r.length]
      exact this.symm
    refine item_step ht hs pl pu h0 h1 (by simpa [e] using hz) ?_
    refine ⟨.ref s.heap.objs.size, _, I.laid (t' := s.toks) (o := .tup (stepT xs lo hi c)) (fun b ob q => Heap.get?_push_of_some _ q) (Nat.le_refl _) ?_, rfl, q _ (I.hok.fresh (Nat.le_refl _))⟩
    refine ⟨hz, _, ?_, IsTup.new _ _⟩
    have := Vals.pick r (stepPl xs.length lo hi c)
    unfold stepT
    rw [show (its.toArray.toList) = its from rfl, ← r.length]
    exact this
  · cases rx
    obtain ⟨its, r, ht, hz0⟩ := I.list hx
    refine ⟨"list", _, slot_list_getitem.lookup, ht.isList.typeIs, ?_⟩
    refine wpAny_getItem_list_slice ht.isList hs pl pu (.int c tk) (by simpa using h0) ?_ (by rw [List.size_toArray, ← r.length]; exact hz0)
    have e : slicePick its.toArray lo hi (some c) = (stepL its lo hi c).toArray := by
      unfold slicePick stepL stepLs pickAt
      simp
    rw [e]
    refine ⟨.ref s.heap.objs.size, _, I.laid (t' := s.toks) (o := .lst (stepL xs lo hi c)) (fun b ob q => Heap.get?_push_of_some _ q) (Nat.le_refl _) ?_, rfl, q _ (I.hok.fresh (Nat.le_refl _))⟩
    refine ⟨hz, _, 0, ?_, Heap.get?_push_size _ rfl⟩
    have := Vals.pick r (stepLs xs.length lo hi c)
    unfold stepL
    rw [← r.length]
    exact this
theorem v_step {x : V} {dx dc : D} {z : V} {l h : Option Int} {ι : List Addr} {H : Hp} {st : Sto} {Q : VK} (rel : Rel X.K H ι st) (rx : RV X.K H ι x dx) (rc : RV X.K H ι z dc) (q : Post X.K X.mg E (RV X.K) ι H Q (opSlS dx l h dc st)) : ∃ c : Int, z = .int c ∧ rSt X.K x l h c H Q := by
  unfold opSlS at q
  split at q
  · cases rc
    rename_i c
    refine ⟨_, rfl, ?_⟩
    split at q
    · exact q.elim
    · rename_i hc
      refine ⟨fun e => hc (.inl e), fun e => hc (.inr e), ?_⟩
      split at q
      · cases rx with
        | tup h1 r =>
        split at q
        · rename_i hz
          have e := fun n => RVs.pick r (stepPl n l h c)
          refine .inl ⟨_, _, rfl, h1, ?_, fun p hp => post_tup rel hp ?_ q⟩
          · unfold stepT at hz ⊢; rw [r.length, (e _).length]; exact hz
          · unfold stepT; rw [r.length]; exact e _
        · exact q.elim
      · split at q
        · rename_i xs hx
          obtain ⟨a, vs, rfl, hs, r⟩ := lstOf_sq rel rx hx
          split at q
          · rename_i hz
            have e := fun n => RVs.pick r (stepLs n l h c)
            refine .inr ⟨a, vs, rfl, hs, ?_, fun p hp => post_lst rel hp ?_ q⟩
            · unfold stepL at hz ⊢; rw [r.length, (e _).length]; exact hz
            · unfold stepL; rw [r.length]; exact e _
          · exact q.elim
        · exact q.elim
  · exact q.elim
theorem r_sls {ml mh : Option EE} {lo hi : Option Expr} {c : Expr} (he : PEd X E e fa) (hl : POd X E lo ml) (hh : POd X E hi mh) (hc : PEd X E c fc) : PEd X E (.Subscript e (.Slice lo hi (some c) p2) pos) (mSlS fa ml mh fc) := by
  obtain ⟨tl, pl, gl⟩ := hl.run
  obtain ⟨th, ph, gh⟩ := hh.run
  refine ⟨fun pins s σ H Q I ⟨ι, μ, st, rel, sig, q⟩ => ?_⟩
  unfold mSlS at q
  refine Subscript_ (thn (he.run pins s σ H _ I ⟨ι, μ, st, rel, sig, Post.bind q⟩) fun v s1 ⟨x, H1, I1, r1, ι1, d, st1, g1, rel1, rv, q1⟩ => ?_)
  refine wpAny_Slice (thn (pl.run pins s1 σ H1 (fun i H2 => ∃ ι2 st2, Grow ι1 H1 ι2 H2 ∧ Rel X.K H2 ι2 st2 ∧ Post X.K X.mg E (RV X.K) ι2 H2 Q ((mPart mh μ st2).bind fun h st3 => (fc μ st3).bind fun c st4 => opSlS d i h c st4)) I1 (gl σ H1 Q ι1 μ st1 _ _ rel1 (sig.grow g1) q1 fun i ι2 H2 st2 g2 rel2 q2 => ⟨ι2, st2, g2, rel2, q2⟩)) ?_)
  rintro vl s2 ⟨l, H2, I2, ptl, ι2, st2, g2, rel2, q2⟩
  refine thn (ph.run pins s2 σ H2 (fun i H3 => ∃ ι3 st3, Grow ι2 H2 ι3 H3 ∧ Rel X.K H3 ι3 st3 ∧ Post X.K X.mg E (RV X.K) ι3 H3 Q ((fc μ st3).bind fun c st4 => opSlS d l i c st4)) I2 (gh σ H2 Q ι2 μ st2 _ _ rel2 ((sig.grow g1).grow g2) q2 fun i ι3 H3 st3 g3 rel3 q3 => ⟨ι3, st3, g3, rel3, q3⟩)) ?_
  rintro vu s3 ⟨u, H3, I3, ptu, ι3, st3, g3, rel3, q3⟩
  rw [evalPart_some]
  refine thn (hc.run pins s3 σ H3 _ I3 ⟨ι3, μ, st3, rel3, ((sig.grow g1).grow g2).grow g3, Post.bind q3⟩) ?_
  rintro vc s4 ⟨z, H4, I4, rz, ι4, dc, st4, g4, rel4, rvz, q4⟩
  obtain ⟨c, rfl, hst⟩ := v_step rel4 (((rv.grow g2).grow g3).grow g4) rvz q4
  obtain ⟨tk, rfl⟩ := rz
  have I5 : Inv X pins σ H4 { s4 with heap := s4.heap.push { cls := .type "slice", data := .fields #[vl, vu, .int c tk] } } := I4.kept (t' := s4.toks) fun b ob q => Heap.get?_push_of_some _ q
  obtain ⟨T, id, hT, ht, hg⟩ := sl_step (sl := s4.heap.objs.size) (tk := tk) I5 r1 (Heap.IsSliceOf.new ..) ptl ptu hst
  exact tail_any (ops := [v, .ref s4.heap.objs.size]) ht hT hg (by with_unfolding_all rfl)
end
end Fd
end
section
set_option Elab.async false
set_option linter.all false
set_option maxRecDepth 100000
set_option maxHeartbeats 4000000
/-! Chains of comparisons of any length; list(range(..)). -/
namespace Fd
open PySem PySem.Spec PyProof.Rows L2

abbrev CE2 := D → Mu → Sto → R D
structure PLk (X : Cx) (E : XK) (ops : List CmpOp) (es : List Expr) (m : CE2) : Prop where
  val : ∀ (pos : Pos) (pins : List (Addr × Obj)) (s : Shared) (σ : L2.St) (H : Hp) (y : V) (u : Value) (Q : VK) (ι : List Addr) (μ : Mu) (st : Sto) (d : D), Inv X pins σ H s → RelV y u → Rel X.K H ι st → Sig X.K H ι σ μ → RV X.K H ι y d → Post X.K X.mg E (RV X.K) ι H Q (m d μ st) →
    wpAny (model X.prog X.w) X.A (compareChain pos u ops (evalEach es X.env)) (EP X pins σ Q) X.xe s
  tst : ∀ (pos : Pos) (pins : List (Addr × Obj)) (s : Shared) (σ : L2.St) (H : Hp) (y : V) (u : Value) (Q : Bool → Hp → Prop) (ι : List Addr) (μ : Mu) (st : Sto) (d : D), Inv X pins σ H s → RelV y u → Rel X.K H ι st → Sig X.K H ι σ μ → RV X.K H ι y d → Post X.K X.mg E RB ι H Q ((m d μ st).bind asB) →
    wpAny (model X.prog X.w) X.A (testChain pos u ops (evalEach es X.env)) (TP X pins σ Q) X.xe s
def lkLast (g : D → D → Sto → R D) (f : EE) : CE2 := fun d μ st => (f μ st).bind fun e st1 => g d e st1
def lkCons (g : D → D → Sto → R D) (f : EE) (m : CE2) : CE2 := fun d μ st => (f μ st).bind fun e st1 => (g d e st1).bind fun z st2 => (asB z st2).bind fun b st3 => if b = true then m e μ st3 else .ok (.bl false) st3
def mChn (fa : EE) (m : CE2) : EE := fun μ st => (fa μ st).bind fun d st1 => m d μ st1
section
variable {X : Cx} {E : XK} {op op' : CmpOp} {ops : List CmpOp} {e e' a : Expr} {es : List Expr} {g : D → D → Sto → R D} {f fa : EE} {m : CE2} {r : L2.R2} {pos : Pos}
/-- a bool asked of a value -/
theorem post_asB {γ δ : Type} {K : PySem.W.Frag} {mg : Str → Option Value} {R2 : Hp → List Addr → δ → γ → Prop} {ι : List Addr} {H : Hp} {Q : δ → Hp → Prop} {z : D} {st : Sto} {k : Bool → Sto → R γ} {v : V} (rv : RV K H ι v z) (q : Post K mg E R2 ι H Q ((asB z st).bind k)) : ∃ b, v = .bl b ∧ Post K mg E R2 ι H Q (k b st) := by
  cases rv with
  | bl b => exact ⟨b, rfl, q⟩
  | _ => exact q.elim
theorem r_lkLast (ho : OpR X (compareOp op) r) (h : Op2 X E r g) (he : PEd X E e f) : PLk X E [op] [e] (lkLast g f) where
  val := by
    intro pos pins s σ H y u Q ι μ st d I ry rel sig rv q
    refine chain_last (thn (he.run pins s σ H _ I ⟨ι, μ, st, rel, sig, Post.bind q⟩) ?_)
    rintro u2 s2 ⟨z, H2, I2, r2, ι2, d2, st2, g2, rel2, rv2, q2⟩
    exact ho pins s2 σ H2 y z u u2 Q I2 ry r2 (h y z d d2 ι2 H2 st2 Q rel2 (rv.grow g2) rv2 q2)
  tst := by
    intro pos pins s σ H y u Q ι μ st d I ry rel sig rv q
    unfold lkLast at q
    rw [R.bind_assoc] at q
    refine test_last (thn (he.run pins s σ H _ I ⟨ι, μ, st, rel, sig, Post.bind q⟩) ?_)
    rintro u2 s2 ⟨z, H2, I2, r2, ι2, d2, st2, g2, rel2, rv2, q2⟩
    refine thn (ho pins s2 σ H2 y z u u2 _ I2 ry r2 (h y z d d2 ι2 H2 st2 _ rel2 (rv.grow g2) rv2 (Post.bind q2))) ?_
    rintro u3 s3 ⟨z3, H3, I3, r3, ι3, d3, st3, g3, rel3, rv3, q3⟩
    cases rv3 with
    | bl b =>
      cases r3
      exact wpAny_truthy_bool ⟨H3, I3, q3 ι3 H3 b Grow.refl rel3 rfl⟩
    | _ => exact q3.elim
theorem r_lkCons (ho : OpR X (compareOp op) r) (h : Op2 X E r g) (he : PEd X E e f) (hr : PLk X E (op' :: ops) (e' :: es) m) : PLk X E (op :: op' :: ops) (e :: e' :: es) (lkCons g f m) where
  val := by
    intro pos pins s σ H y u Q ι μ st d I ry rel sig rv q
    refine chain_link (thn (he.run pins s σ H _ I ⟨ι, μ, st, rel, sig, Post.bind q⟩) ?_)
    rintro u2 s2 ⟨z, H2, I2, r2, ι2, d2, st2, g2, rel2, rv2, q2⟩
    refine thn (ho pins s2 σ H2 y z u u2 _ I2 ry r2 (h y z d d2 ι2 H2 st2 _ rel2 (rv.grow g2) rv2 (Post.bind q2))) ?_
    rintro u3 s3 ⟨z3, H3, I3, r3, ι3, d3, st3, g3, rel3, rv3, q3⟩
    obtain ⟨b, rfl, q4⟩ := post_asB rv3 q3
    cases r3
    refine wpAny_truthy_bool ?_
    cases b with
    | true =>
      rw [if_pos rfl] at q4
      exact ite_tt (hr.val pos pins s3 σ H3 z u2 Q ι3 μ st3 d2 I3 r2 rel3 ((sig.grow g2).grow g3) (rv2.grow g3) q4)
    | false =>
      rw [if_neg (by decide)] at q4
      exact ite_ff ⟨.bl false, H3, I3, rfl, tE_ok rel3 (.bl false) q4⟩
  tst := by
    intro pos pins s σ H y u Q ι μ st d I ry rel sig rv q
    unfold lkCons at q
    simp only [R.bind_assoc] at q
    refine test_link (thn (he.run pins s σ H _ I ⟨ι, μ, st, rel, sig, Post.bind q⟩) ?_)
    rintro u2 s2 ⟨z, H2, I2, r2, ι2, d2, st2, g2, rel2, rv2, q2⟩
    refine thn (ho pins s2 σ H2 y z u u2 _ I2 ry r2 (h y z d d2 ι2 H2 st2 _ rel2 (rv.grow g2) rv2 (Post.bind q2))) ?_
    rintro u3 s3 ⟨z3, H3, I3, r3, ι3, d3, st3, g3, rel3, rv3, q3⟩
    obtain ⟨b, rfl, q4⟩ := post_asB rv3 q3
    cases r3
    refine wpAny_truthy_bool ?_
    cases b with
    | true =>
      rw [if_pos rfl] at q4
      exact ite_tt (hr.tst pos pins s3 σ H3 z u2 Q ι3 μ st3 d2 I3 r2 rel3 ((sig.grow g2).grow g3) (rv2.grow g3) q4)
    | false =>
      rw [if_neg (by decide)] at q4
      exact ite_ff ⟨H3, I3, q4 ι3 H3 false Grow.refl rel3 rfl⟩
theorem r_chn (ha : PEd X E a fa) (hr : PLk X E (op :: op' :: ops) (e :: e' :: es) m) (hm : lastMarks (op :: op' :: ops) (e :: e' :: es) = false := by with_unfolding_all rfl) : PEd X E (.Compare a (op :: op' :: ops) (e :: e' :: es) pos) (mChn fa m) := by
  refine ⟨fun pins s σ H Q I ⟨ι, μ, st, rel, sig, q⟩ => Compare_chain (thn (ha.run pins s σ H _ I ⟨ι, μ, st, rel, sig, Post.bind q⟩) ?_) hm⟩
  rintro u s1 ⟨y, H1, I1, r1, ι1, d, st1, g1, rel1, rv, q1⟩
  exact hr.val pos pins s1 σ H1 y u Q ι1 μ st1 d I1 r1 rel1 (sig.grow g1) rv q1
theorem r_tchn (ha : PEd X E a fa) (hr : PLk X E (op :: op' :: ops) (e :: e' :: es) m) (hm : lastMarks (op :: op' :: ops) (e :: e' :: es) = false := by with_unfolding_all rfl) : PTd X E (.Compare a (op :: op' :: ops) (e :: e' :: es) pos) (mB (mChn fa m)) := by
  refine ⟨fun pins s σ H Q I ⟨ι, μ, st, rel, sig, q⟩ => ?_⟩
  have q' : Post X.K X.mg E RB ι H Q ((fa μ st).bind fun d st1 => (m d μ st1).bind asB) := by
    rw [← R.bind_assoc]; exact q
  refine isTrue_chain (thn (ha.run pins s σ H _ I ⟨ι, μ, st, rel, sig, Post.bind q'⟩) ?_) hm
  rintro u s1 ⟨y, H1, I1, r1, ι1, d, st1, g1, rel1, rv, q1⟩
  exact hr.tst pos pins s1 σ H1 y u Q ι1 μ st1 d I1 r1 rel1 (sig.grow g1) rv q1
end

/-! ### list(range(..)), tuple(range(..)) -/
def rgD (a b : Int) : List D := (List.range (b - a).toNat).map fun i => D.int (a + (i : Nat))
def mRg1 (f : EE) : Mu → Sto → R (Int × Int) := fun μ st => (f μ st).bind fun d st1 => match d with
  | .int n => .ok (0, n) st1
  | _ => .bad
def mRg2 (f g : EE) : Mu → Sto → R (Int × Int) := fun μ st => (f μ st).bind fun d st1 => (g μ st1).bind fun e st2 => match d, e with
  | .int a, .int b => .ok (a, b) st2
  | _, _ => .bad
def rgOk (a b : Int) : Bool := decide (-(2 ^ 62) ≤ a ∧ a < 2 ^ 62 ∧ -(2 ^ 62) ≤ b ∧ b < 2 ^ 62 ∧ (b - a).toNat ≤ 2 ^ 24)
def mLRg (r : Mu → Sto → R (Int × Int)) : EE := fun μ st => (r μ st).bind fun p st1 => if rgOk p.1 p.2 = true then .ok (.ref st1.length) (st1 ++ [.lst (rgD p.1 p.2)]) else .bad
def mTRg (r : Mu → Sto → R (Int × Int)) : EE := fun μ st => (r μ st).bind fun p st1 => if rgOk p.1 p.2 = true then .ok (.tup (rgD p.1 p.2)) st1 else .bad
def RI2 (_ : Hp) (_ : List Addr) (p q : Int × Int) : Prop := p = q
/-- a range in the making -/
structure PRd (X : Cx) (E : XK) (e : Expr) (m : Mu → Sto → R (Int × Int)) : Prop where
  ex : ∃ t, PRg X e t ∧ ∀ σ H Q ι μ st, Rel X.K H ι st → Sig X.K H ι σ μ → Post X.K X.mg E RI2 ι H (fun p H' => Q p.1 p.2 H') (m μ st) → t σ H Q
section
variable {X : Cx} {E : XK} {a b e : Expr} {f f' : EE} {m : Mu → Sto → R (Int × Int)} {p pos : Pos}
theorem rg_of {K : PySem.W.Frag} {H : Hp} {ι : List Addr} (a b : Int) : RVs K H ι (rgV a b) (rgD a b) := by
  have : rgV a b = ((List.range (b - a).toNat).map fun i => a + (i : Nat)).map V.int := by unfold rgV; rw [List.map_map]; rfl
  rw [this]
  have : rgD a b = ((List.range (b - a).toNat).map fun i => a + (i : Nat)).map D.int := by unfold rgD; rw [List.map_map]; rfl
  rw [this]
  exact RVs.ints _
theorem r_rg1 (hm : X.mg "range" = none) (ha : PEd X E a f) (hg : Gl X "range" := by rfl) (na : starEach [a] X.env = (false, eval a X.env) :: starEach [] X.env := by rfl) : PRd X E (.Call (.Name "range" p) [a] [] pos) (mRg1 f) := by
  refine ⟨_, prg_1 hg hm ha na, fun σ H Q ι μ st rel sig q => ⟨ι, μ, st, rel, sig, (Post.bind q).mono ?_⟩⟩
  rintro v H1 ⟨ι1, d, st1, g1, rel1, rv, q1⟩
  cases rv with
  | int n => exact ⟨n, rfl, q1 ι1 H1 (0, n) Grow.refl rel1 rfl⟩
  | _ => exact q1.elim
theorem r_rg2 (hm : X.mg "range" = none) (ha : PEd X E a f) (hb : PEd X E b f') (hg : Gl X "range" := by rfl) (na : starEach [a, b] X.env = (false, eval a X.env) :: starEach [b] X.env := by rfl) (nb : starEach [b] X.env = (false, eval b X.env) :: starEach [] X.env := by rfl) (hp : (backTo pos (starEach [b] X.env)).any (·.1) = false := by rfl) :
    PRd X E (.Call (.Name "range" p) [a, b] [] pos) (mRg2 f f') := by
  refine ⟨_, prg_2 hg hm ha hb na nb hp, fun σ H Q ι μ st rel sig q => ⟨ι, μ, st, rel, sig, (Post.bind q).mono ?_⟩⟩
  rintro v H1 ⟨ι1, d, st1, g1, rel1, rv, q1⟩
  refine ⟨ι1, μ, st1, rel1, sig.grow g1, (Post.bind q1).mono ?_⟩
  rintro w H2 ⟨ι2, d2, st2, g2, rel2, rv2, q2⟩
  cases rv with
  | int i =>
    cases rv2 with
    | int j => exact ⟨i, j, rfl, rfl, q2 ι2 H2 (i, j) Grow.refl rel2 rfl⟩
    | _ => exact q2.elim
  | _ => exact q2.elim
theorem r_lrg (hc : X.calm = true) (hm : X.mg "list" = none) (he : PRd X E e m) (hg : Gl X "list" := by rfl) (na : starEach [e] X.env = (false, eval e X.env) :: starEach [] X.env := by rfl) : PEd X E (.Call (.Name "list" p) [e] [] pos) (mLRg m) := by
  obtain ⟨t, h1, h2⟩ := he.ex
  refine PE.imp (pe_listRg hc hg hm h1 na) fun σ H Q ⟨ι, μ, st, rel, sig, q⟩ => h2 σ H _ ι μ st rel sig ((Post.bind q).mono ?_)
  rintro v H1 ⟨ι1, d, st1, g1, rel1, rv, q1⟩
  obtain rfl : v = d := rv
  split at q1
  · rename_i hk
    simp only [rgOk, decide_eq_true_eq] at hk
    exact ⟨hk, fun q hq => post_lst rel1 hq (rg_of _ _) q1⟩
  · exact q1.elim
theorem r_trg (hc : X.calm = true) (hm : X.mg "tuple" = none) (he : PRd X E e m) (hg : Gl X "tuple" := by rfl) (na : starEach [e] X.env = (false, eval e X.env) :: starEach [] X.env := by rfl) : PEd X E (.Call (.Name "tuple" p) [e] [] pos) (mTRg m) := by
  obtain ⟨t, h1, h2⟩ := he.ex
  refine PE.imp (pe_tupRg hc hg hm h1 na) fun σ H Q ⟨ι, μ, st, rel, sig, q⟩ => h2 σ H _ ι μ st rel sig ((Post.bind q).mono ?_)
  rintro v H1 ⟨ι1, d, st1, g1, rel1, rv, q1⟩
  obtain rfl : v = d := rv
  split at q1
  · rename_i hk
    simp only [rgOk, decide_eq_true_eq] at hk
    exact ⟨hk, fun q hq => post_tup rel1 hq (rg_of _ _) q1⟩
  · exact q1.elim
end
end Fd
end
section
set_option Elab.async false
set_option linter.all false
set_option maxRecDepth 100000
set_option maxHeartbeats 4000000
/-! sorted(set(xs)) of ints. -/
namespace Fd
open PySem PySem.Spec PyProof.Rows L2

def newSetO (w : World) : Obj := { cls := .type "set", dict := none, data := .set #[] 0 (.fresh 0 0 (!w.params.followText "set-order")) }
section
variable {P : Program} {w : World} {A : Around} {E : Value → Shared → Prop} {s : Shared}
/-- set(xs), xs a list of ints -/
theorem set_of_list {l : Addr} {items : Array Value} (ns : List Int) {Q : Value → Shared → Prop} (calm : A.handled = none) (lst : s.heap.IsList l items) (are : IntsAre items.toList ns) (few : ns.length + 1 < scanBound)
    (fin : ∀ (h' : Heap) (tk c : Nat), SetR w h' s.heap.objs.size (fun j => decide (j ∈ ns)) c → c ≤ ns.length → (∀ b o, s.heap.get? b = some o → h'.get? b = some o) → Q (.ref s.heap.objs.size) { s with heap := h', toks := tk }) :
    wpAny (model P w) A (call (.type "set") [.ref l]) Q E s := by
  have size : items.size = ns.length := (Array.length_toList (xs := items)).symm.trans (IntsAre.length are)
  have made := F.called_set.made
  have same := F.called_set.sub
  have noty := F.called_set.notType
  have can := F.called_set.canCreate
  have args := F.typeCall_set_1 (.ref l)
  obtain ⟨c0, tl0, hmro⟩ := F.called_set.mro
  refine wpAny_call (codeAny_of_tree ?_)
  show wpAny _ _ (callAny (.type "set") _) _ _ _
  refine wpAny_pure ⟨Code.quiet_builtin _ (by decide +kernel), codeAny_builtin F.entry_type_call ?_⟩
  rw [Around.under_plain (weight_type_call_type "set" [.ref l] []) rfl]
  repeat (any_goals (first | assumption | wp_step))
  refine codeAny_mono (code_set_led1 (.ref l) (E := E) (Q₁ := fun r t => r = .ref s.heap.objs.size ∧ t = { s with heap := s.heap.push (newSetO w) }) ⟨rfl, rfl⟩) fun r t hr => ?_
  match r, hr with
  | .error e, hr => exact hr
  | .ok (.ret obj), ⟨e1, e2⟩ =>
    subst e1; subst e2
    have stands : (s.heap.push (newSetO w)).get? s.heap.objs.size = some (newSetO w) := Heap.get?_push_size _ rfl
    have isSet : Shared.TypeIs { s with heap := s.heap.push (newSetO w) } (.ref s.heap.objs.size) "set" := ⟨_, stands, rfl⟩
    have look := F.called_set.init.lookup
    have bind := F.called_set.init.bind (.ref s.heap.objs.size)
    repeat (any_goals (first | assumption | wp_step))
    refine codeAny_mono (codeAny_call_builtin (R := wants (fun r t => r = .none ∧ ∃ h' tk c, t = { s with heap := h', toks := tk } ∧ SetR w h' s.heap.objs.size (fun j => decide (j ∈ ns)) c ∧ c ≤ ns.length ∧
      (∀ b o, s.heap.get? b = some o → h'.get? b = some o)) E) F.called_set.init.plain F.entry_set_init (check_set_init_1 isSet ?_)) fun r2 t2 hr2 => ?_
    · obtain ⟨⟨oc, od, oa, os⟩, got, k1, nl, k2⟩ := lst
      simp only at k1 k2
      subst k1; subst k2
      have got' : (s.heap.push (newSetO w)).get? l = some { cls := .type "list", dict := od, data := .seq items nl, slots := os } := Heap.get?_push_of_some _ got
      have n1 := F.sub_list_set
      have n2 := F.sub_list_frozenset
      have n3 : (Value.type "list" == Value.type "dict") = false := by decide
      have lst' : (s.heap.push (newSetO w)).IsList l items := ⟨_, got', rfl, nl, rfl⟩
      unfold Builtin.«set.__init__» noKeywords Builtin.Frozenset.updateFrom
      generalize hold : pyIter = walkIt
      wp_walk
      subst hold
      refine wpAny_pyIter_list lst' (wpAny_bind (wpAny_runValue ?_))
      have below : l < s.heap.objs.size := Heap.lt_size got
      have calm3 : A.in1.in1.in1.handled = none := by simp [calm]
      have it_ne : l ≠ (s.heap.push (newSetO w)).objs.size := by rw [Heap.size_push]; exact Nat.ne_of_lt (Nat.lt_succ_of_lt below)
      have set_out : s.heap.objs.size ∉ [(s.heap.push (newSetO w)).objs.size, l] := by
        rw [Heap.size_push]
        simp only [List.mem_cons, List.not_mem_nil, or_false, not_or]
        exact ⟨Nat.ne_of_lt (Nat.lt_succ_self _), Nat.ne_of_gt below⟩
      have each : ∀ (i : Nat) (v : Value), items[i]? = some v → ∃ k t, ns[i]? = some k ∧ v = .int k t := fun i v hv => by
        have hi : i < ns.length := by rw [← size]; exact (Array.getElem?_eq_some_iff.mp hv).1
        obtain ⟨t, e⟩ := PyProof.Rows.IntsAre.int_at are i v (by rw [Array.getElem?_toList]; exact hv)
        exact ⟨ns[i], t, List.getElem?_eq_getElem hi, by rw [e, List.getD_eq_getElem?_getD, List.getElem?_eq_getElem hi]; rfl⟩
      refine set_update_ints ((Walks.list calm3 _ l it_ne items).toS) s.heap.objs.size set_out ns size few each (items.size - 0) 0 _ (by omega) (Nat.zero_le _) ⟨⟨_, Heap.get?_push_size _ rfl, rfl, rfl⟩, lst'.push _⟩ ?first ?last
      case first => exact ⟨0, Nat.le_refl 0, setR_new_at (ns := ns) (Heap.get?_push_of_some _ stands)⟩
      case last =>
        rintro ⟨h', g2, d2, tk2, os2⟩ c mv hc isR
        obtain rfl : g2 = s.gens := mv.gens
        obtain rfl : d2 = s.drawn := mv.drawn
        obtain rfl : os2 = s.os := mv.os
        show wpAny _ _ _ _ _ _
        refine wpAny_pure ?_
        show wpAny _ _ (ret Value.none) _ _ _
        refine wpAny_pure ⟨rfl, h', tk2, c, rfl, isR, by rw [← size]; exact hc, fun b o e => ?_⟩
        have hb := Heap.lt_size e
        refine mv.heap b o ?_ (Heap.get?_push_of_some _ (Heap.get?_push_of_some _ e))
        simp only [List.mem_cons, List.not_mem_nil, or_false, not_or]
        exact ⟨Nat.ne_of_lt hb, by rw [Heap.size_push]; exact Nat.ne_of_lt (Nat.lt_succ_of_lt hb)⟩
    · match r2, hr2 with
      | .error e, hr2 => exact hr2
      | .ok (.ret r), ⟨e1, h', tk, c, e2, isR, hc, keep⟩ =>
        subst e1; subst e2
        repeat (any_goals (first | assumption | wp_step))
        exact fin _ _ _ isR hc keep
end

/-! ### the list that comes out -/
def insU (k : Int) : List Int → List Int
  | [] => [k]
  | x :: r => if k < x then k :: x :: r else if k = x then x :: r else x :: insU k r
def sset (ns : List Int) : List Int := ns.foldr insU []
theorem mem_insU (k j : Int) : ∀ l, j ∈ insU k l ↔ j = k ∨ j ∈ l
  | [] => by simp [insU]
  | x :: r => by
    unfold insU
    split
    · simp
    · split
      · rename_i h; subst h; simp
      · simp only [List.mem_cons, mem_insU k j r]
        constructor
        · rintro (h | h | h) <;> simp [h]
        · rintro (h | h | h) <;> simp [h]
theorem mem_sset {ns : List Int} {j : Int} : j ∈ sset ns ↔ j ∈ ns := by
  induction ns with
  | nil => simp [sset]
  | cons n r ih => show j ∈ insU n (sset r) ↔ _; rw [mem_insU, ih]; simp
theorem insU_sorted (k : Int) : ∀ {l : List Int}, l.Pairwise (· < ·) → (insU k l).Pairwise (· < ·)
  | [], _ => List.pairwise_singleton _ _
  | x :: r, h => by
    unfold insU
    rw [List.pairwise_cons] at h
    split
    · rename_i hk
      refine List.pairwise_cons.mpr ⟨fun y hy => ?_, List.pairwise_cons.mpr h⟩
      rcases List.mem_cons.mp hy with e | e
      · rw [e]; exact hk
      · exact Int.lt_trans hk (h.1 y e)
    · split
      · exact List.pairwise_cons.mpr h
      · rename_i h1 h2
        refine List.pairwise_cons.mpr ⟨fun y hy => ?_, insU_sorted k h.2⟩
        rcases (mem_insU k y r).mp hy with e | e
        · omega
        · exact h.1 y e
theorem sset_sorted : ∀ ns : List Int, (sset ns).Pairwise (· < ·)
  | [] => List.Pairwise.nil
  | n :: r => insU_sorted n (sset_sorted r)
theorem sorted_eq : ∀ {l m : List Int}, l.Pairwise (· < ·) → m.Pairwise (· < ·) → (∀ k, k ∈ l ↔ k ∈ m) → l = m
  | [], [], _, _, _ => rfl
  | [], x :: r, _, _, h => absurd ((h x).mpr List.mem_cons_self) (by simp)
  | x :: r, [], _, _, h => absurd ((h x).mp List.mem_cons_self) (by simp)
  | x :: r, y :: t, h1, h2, h => by
    rw [List.pairwise_cons] at h1 h2
    have e : x = y := by
      have a := (h x).mp List.mem_cons_self
      have b := (h y).mpr List.mem_cons_self
      rcases List.mem_cons.mp a with a | a
      · exact a
      · rcases List.mem_cons.mp b with b | b
        · exact b.symm
        · have := h2.1 x a
          have := h1.1 y b
          omega
    subst e
    refine congrArg (x :: ·) (sorted_eq h1.2 h2.2 fun k => ?_)
    constructor
    · intro hk
      have := (h k).mp (List.mem_cons_of_mem _ hk)
      rcases List.mem_cons.mp this with e | e
      · have := h1.1 k hk; omega
      · exact e
    · intro hk
      have := (h k).mpr (List.mem_cons_of_mem _ hk)
      rcases List.mem_cons.mp this with e | e
      · have := h2.1 k hk; omega
      · exact e
def opSSet (d : D) (st : Sto) : R D := match seqOf d st with
  | some xs => match intsOf xs with
    | some ns => if ns.length < 64 then .ok (.ref st.length) (st ++ [.lst ((sset ns).map D.int)]) else .bad
    | none => .bad
  | none => .bad
section
variable {X : Cx} {E : XK} {a : Expr} {f : EE} {p p2 q pos : Pos}
theorem set_any_ints {pins : List (Addr × Obj)} {s : Shared} {σ : L2.St} {H : Hp} {l : Addr} {ns : List Int} {Q : Value → Shared → Prop} (hc : X.calm = true) (I : Inv X pins σ H s) (h : SqL X.K H l (ns.map V.int) ∨ SqT X.K H l (ns.map V.int)) (few : ns.length < 64)
    (fin : ∀ (h' : Heap) (tk c : Nat), SetR X.w h' s.heap.objs.size (fun j => decide (j ∈ ns)) c → c ≤ ns.length → (∀ b o, s.heap.get? b = some o → h'.get? b = some o) → Q (.ref s.heap.objs.size) { s with heap := h', toks := tk }) :
    wpAny (model X.prog X.w) X.A (call (.type "set") [.ref l]) Q X.xe s := by
  rcases h with h | h
  · obtain ⟨its, r, pl, hz⟩ := I.list h
    exact set_of_list ns (I.ok.hd hc) pl.isList (intsAre_of r) (by unfold scanBound; omega) fin
  · obtain ⟨its, r, pl, hz⟩ := I.tuple h
    exact call_set_tupI ns (I.ok.hd hc) pl (intsAre_of r) (by unfold scanBound; omega) fin
theorem r_sset (hc : X.calm = true) (hm : X.mg "sorted" = none) (hm2 : X.mg "set" = none) (ha : PEd X E a f) (hg : Gl X "sorted" := by rfl) (hg2 : Gl X "set" := by rfl) (na : starEach [a] X.env = (false, eval a X.env) :: starEach [] X.env := by rfl) :
    PEd X E (.Call (.Name "sorted" p) [.Call (.Name "set" p2) [a] [] q] [] pos) (m1 opSSet f) := by
  refine ⟨fun pins s σ H Q I ⟨ι, μ, st, rel, sig, qq⟩ => ?_⟩
  refine Call_ (ld_blt I hg hm boot_sorted ?_)
  refine PyProof.Rows.callWith_builtin1 (PyProof.Rows.args_cons ?_ rfl) rfl rfl
  refine Call_ (ld_blt I hg2 hm2 boot_set ?_)
  refine PyProof.Rows.callWith_type1 (PyProof.Rows.args_cons (thn (ha.run pins s σ H _ I ⟨ι, μ, st, rel, sig, Post.bind qq⟩) ?_) na) na rfl
  rintro v s1 ⟨x, H1, I1, r1, ι1, d, st1, g1, rel1, rv, q1⟩
  refine PyProof.Rows.args_nil ?_
  unfold opSSet at q1
  split at q1
  · rename_i xs hxs
    split at q1
    · rename_i ns hns
      split at q1
      · rename_i few
        obtain ⟨l, ys, rfl, hs, r⟩ := seqOf_sq rel1 rv hxs
        cases r1
        rw [intsOf_eq hns] at r
        rw [r.of_ints] at hs
        refine set_any_ints hc I1 hs few fun h' tk c isR hcl keep => PyProof.Rows.args_nil ?_
        have I2 : Inv X pins σ H1 { s1 with heap := h', toks := tk } := I1.kept keep
        refine sorted_set (s := { s1 with heap := h', toks := tk }) isR (I1.ok.hd hc) (by omega) fun t p out c2 ms k g o hp hg hi hs hmem hl => ?_
        have em : ms = sset ns := sorted_eq hs (sset_sorted ns) fun k => by rw [hmem k, mem_sset]; simp
        subst em
        have hn : H1 p = none := I2.hok.fresh hp
        have hlen : ((sset ns).map V.int).length ≤ sizeLine := by rw [List.length_map, hl, sizeLine_eq]; omega
        have J : Inv X pins σ (upd H1 p (.lst ((sset ns).map V.int))) { ({ s1 with heap := h', toks := tk } : Shared) with heap := t.heap, gens := t.gens, drawn := t.drawn, toks := t.toks } :=
          Inv.call (s := { s1 with heap := h', toks := tk }) I2 (ch := []) (Un.laid k hp hn) (I2.hok.laid k hp ⟨hlen, out.toList, c2, vals_of_ints hi, hg⟩) (by rw [g]; exact I2.bare) (fun _ z => nomatch z)
        have e : t = { ({ s1 with heap := h', toks := tk } : Shared) with heap := t.heap, gens := t.gens, drawn := t.drawn, toks := t.toks } := by
          cases t
          cases o
          rfl
        rw [e]
        exact ⟨.ref p, _, J, rfl, post_lst rel1 hn (RVs.ints _) q1⟩
      · exact q1.elim
    · exact q1.elim
  · exact q1.elim
end
end Fd
end
section
set_option Elab.async false
set_option linter.all false
set_option maxRecDepth 100000
/-! What the top has written. -/
namespace Fd
open PySem PySem.Spec PyProof.Rows L2
def DefAt (K : PySem.W.Frag) (mg : Str → Option Value) (x : Str) (st : Stmt) (ps : List Str) : Prop := ∃ f fd, Fun K x x st f fd ∧ mg x = some (.ref f) ∧ Binds K fd ps []
section
variable {P : Program} {w : World} {K : PySem.W.Frag} {mg : Str → Option Value} {base : Heap} {k : Nat} {x : Str} {st : Stmt} {ps : List Str} {G : DF}
theorem Cl.of (d : DefAt K mg x st ps) (h : ∀ f fd, Fun K x x st f fd → FnG P w K mg base k f fd ps G) : Cl P w K mg base k x ps G := by
  obtain ⟨f, fd, F, hm, hb⟩ := d
  exact ⟨f, fd, h f fd F, hm, F.kp, hb⟩
theorem Cl.none (d : DefAt K mg x st ps) : Cl P w K mg base k x ps (fun _ _ => .bad) := by
  obtain ⟨f, fd, F, hm, hb⟩ := d
  exact ⟨f, fd, ⟨fun vs H Q ⟨_, _, _, _, _, q⟩ => q.elim, fun B out t H ar xs vs Q _ _ _ _ ⟨_, _, _, _, _, q⟩ => q.elim⟩, hm, F.kp, hb⟩
theorem Cl.lift {j : Nat} (C : Cl P w K mg base j x ps G) (h : j ≤ k) : Cl P w K mg base k x ps G := by
  obtain ⟨f, fd, F, r⟩ := C.ex
  exact ⟨f, fd, F.lift h, r⟩
theorem DefAt.mk {h : Heap} {f : Addr} {od an : Option Addr} {sl : Array (Option Value)} {oc kV dc pm cd ct : Value} (inK : K.In h) (G : h.Ns mainGlobals mg)
    (a : PySem.W.nsIn K mainGlobals x = some (some (.ref f))) (l : K.lookup f = some ⟨oc, od, .func (PySem.W.fnOf x x (defArgs st) (defBody st) (defScope st) .none kV dc pm an cd ct), sl⟩) (c : PySem.W.codeIn K cd x = true) (kp : PySem.W.keepIn K (.ref f) = true)
    (b : ∀ (kV doc pm : Value) (an : Option Addr) (cdv ct : Value) (us : List Value), us.length = ps.length → bindArgs (PySem.W.fnOf x x (defArgs st) (defBody st) (defScope st) .none kV doc pm an cdv ct) ⟨us, []⟩ = pure (ps.zip us)) : DefAt K mg x st ps := by
  have F := fun_mk (st := st) l c kp
  exact ⟨f, _, F, PySem.W.mg_of inK G a, F.binds b⟩
end
end Fd
end
section
set_option Elab.async false
set_option linter.all false
set_option maxRecDepth 100000
set_option maxHeartbeats 4000000
/-! A logic for the readings: what a run gives. -/
namespace Fd
open PySem
def W {α : Type} (r : R α) (Q : α → Sto → Prop) : Prop := match r with
  | .ok a st => Q a st
  | _ => False
section
variable {α β : Type} {r : R α} {Q Q' : α → Sto → Prop} {k : α → Sto → R β} {Q2 : β → Sto → Prop}
@[simp] theorem W_ok (a : α) (st : Sto) : W (.ok a st) Q = Q a st := rfl
@[simp] theorem W_bad : W (.bad : R α) Q = False := rfl
@[simp] theorem W_ex (c : Str) (w : D) (st : Sto) : W (.ex c w st : R α) Q = False := rfl
theorem W_bind : W (r.bind k) Q2 = W r fun a st => W (k a st) Q2 := by cases r <;> rfl
theorem W.mono (h : W r Q) (i : ∀ a st, Q a st → Q' a st) : W r Q' := by
  cases r with
  | ok a st => exact i a st h
  | _ => exact h
theorem W.out (h : W r Q) : ∃ a st, r = .ok a st ∧ Q a st := by
  cases r with
  | ok a st => exact ⟨a, st, rfl, h⟩
  | _ => exact h.elim
theorem W.of {a : α} {st : Sto} (h : r = .ok a st) (q : Q a st) : W r Q := by rw [h]; exact q
theorem W_noX (h : W r Q) : W (noX r) Q := by
  cases r with
  | ok a st => exact h
  | _ => exact h.elim
end
/-- what stood stays, but at the places S -/
def Kx (S : List Nat) (st st' : Sto) : Prop := st.length ≤ st'.length ∧ ∀ n, n < st.length → n ∉ S → st'[n]? = st[n]?
section
variable {S T : List Nat} {st st1 st2 : Sto} {o : O} {n : Nat}
theorem Kx.refl : Kx S st st := ⟨Nat.le_refl _, fun _ _ _ => rfl⟩
theorem Kx.trans (a : Kx S st st1) (b : Kx S st1 st2) : Kx S st st2 := ⟨Nat.le_trans a.1 b.1, fun n h1 h2 => (b.2 n (Nat.lt_of_lt_of_le h1 a.1) h2).trans (a.2 n h1 h2)⟩
theorem Kx.wide (a : Kx S st st1) (h : ∀ n ∈ S, n ∈ T) : Kx T st st1 := ⟨a.1, fun n h1 h2 => a.2 n h1 fun z => h2 (h n z)⟩
theorem Kx.nil (a : Kx [] st st1) : Kx S st st1 := a.wide fun _ h => nomatch h
theorem Kx.push (a : Kx S st st1) (os : List O) : Kx S st (st1 ++ os) := ⟨by rw [List.length_append]; have := a.1; omega, fun n h1 h2 => by rw [List.getElem?_append_left (Nat.lt_of_lt_of_le h1 a.1)]; exact a.2 n h1 h2⟩
theorem Kx.app (os : List O) : Kx S st (st ++ os) := Kx.refl.push os
theorem Kx.set (a : Kx S st st1) (h : n ∈ S ∨ st.length ≤ n) : Kx S st (st1.set n o) := ⟨by rw [List.length_set]; exact a.1, fun m h1 h2 => by
  have : n ≠ m := by
    rcases h with h | h
    · exact fun e => h2 (e ▸ h)
    · omega
  rw [List.getElem?_set_ne this]
  exact a.2 m h1 h2⟩
theorem Kx.at (a : Kx S st st1) (h : st[n]? = some o) (hn : n ∉ S) : st1[n]? = some o := by
  rw [a.2 n (List.getElem?_eq_some_iff.mp h).1 hn]; exact h
theorem get_new {os : List O} : (st ++ o :: os)[st.length]? = some o := by simp
theorem get_set (h : st[n]? = some o) (o' : O) : (st.set n o')[n]? = some o' := by
  rw [List.getElem?_set_self (List.getElem?_eq_some_iff.mp h).1]
theorem lt_of (h : st[n]? = some o) : n < st.length := (List.getElem?_eq_some_iff.mp h).1
end
@[simp] theorem gok_nil (st : Sto) : gok [] st = true := rfl
theorem gok_one {st : Sto} {n : Nat} {xs : List D} (h : st[n]? = some (.lst xs)) : gok [(n, xs)] st = true := by
  unfold gok
  rw [List.all_cons, List.all_nil, Bool.and_true]
  exact isL_iff.mpr h

/-! ### loops -/
section
variable {gs : Gd} {g : GE} {t : BE} {e : EE} {μ : Mu} {n : Nat} {items : List D}
theorem lcGo_W {Q : D → Sto → Prop} (I : Nat → List D → Sto → Prop)
    (step : ∀ i x acc st, items[i]? = some x → I i acc st → st[n]? = some (.lst acc) → gok gs st = true ∧ W (g x μ st) fun μ2 st2 => W (t μ2 st2) fun b st3 =>
      if b = true then W (e μ2 st3) fun y st4 => st4[n]? = some (.lst acc) ∧ acc.length < sizeLine ∧ I (i + 1) (acc ++ [y]) (st4.set n (.lst (acc ++ [y]))) else st3[n]? = some (.lst acc) ∧ I (i + 1) acc st3)
    (fin : ∀ acc st, I items.length acc st → st[n]? = some (.lst acc) → gok gs st = true ∧ Q (.ref n) st) :
    ∀ (i : Nat) (acc : List D) (st : Sto), i ≤ items.length → I i acc st → st[n]? = some (.lst acc) → W (lcGo gs g t e μ n (items.drop i) st) Q := by
  intro i
  induction h : items.length - i generalizing i with
  | zero =>
    intro acc st hi hI ha
    have : i = items.length := by omega
    subst this
    rw [List.drop_length]
    unfold lcGo
    obtain ⟨a, b⟩ := fin acc st hI ha
    rw [if_pos a]
    exact b
  | succ k ih =>
    intro acc st hi hI ha
    have hlt : i < items.length := by omega
    rw [List.drop_eq_getElem_cons hlt]
    unfold lcGo
    obtain ⟨a, b⟩ := step i items[i] acc st (List.getElem?_eq_getElem hlt) hI ha
    rw [if_pos a, W_bind]
    refine W_noX ?_
    unfold lcStep
    rw [W_bind]
    refine b.mono fun μ2 st2 b => ?_
    rw [W_bind]
    refine b.mono fun c st3 b => ?_
    cases c with
    | true =>
      rw [if_pos rfl] at b ⊢
      rw [W_bind]
      refine b.mono fun y st4 ⟨h1, h2, h3⟩ => ?_
      unfold pushL
      rw [h1]
      simp only
      rw [if_pos h2]
      exact ih (i + 1) (by omega) (acc ++ [y]) _ hlt h3 (get_set h1 _)
    | false =>
      rw [if_neg (by decide)] at b ⊢
      exact ih (i + 1) (by omega) acc st3 hlt b.2 b.1
/-- a comprehension whose items are made one by one, by a function of the item -/
theorem lcGo_fm {Q : D → Sto → Prop} {S : List Nat} {st0 : Sto} (f : D → Option D) (small : items.length ≤ sizeLine) (hn : st0.length ≤ n) (hS : n ∉ S)
    (okG : ∀ st, Kx S st0 st → gok gs st = true)
    (step : ∀ x ∈ items, ∀ st, Kx S st0 st → n < st.length → W (g x μ st) fun μ2 st2 => W (t μ2 st2) fun b st3 =>
      if b = true then W (e μ2 st3) fun y st4 => Kx S st st4 ∧ f x = some y else Kx S st st3 ∧ f x = none)
    (fin : ∀ st, Kx S st0 st → st[n]? = some (.lst (items.filterMap f)) → Q (.ref n) st) {st1 : Sto} (k1 : Kx S st0 st1) (h1 : st1[n]? = some (.lst [])) : W (lcGo gs g t e μ n items st1) Q := by
  have := lcGo_W (gs := gs) (g := g) (t := t) (e := e) (μ := μ) (n := n) (items := items) (Q := Q) (fun i acc st => i ≤ items.length ∧ Kx S st0 st ∧ acc = (items.take i).filterMap f) ?_ ?_ 0 [] st1 (Nat.zero_le _) ⟨Nat.zero_le _, k1, rfl⟩ h1
  · rw [List.drop_zero] at this; exact this
  · rintro i x acc st hx ⟨hi, k, rfl⟩ ha
    have hxi := (List.getElem?_eq_some_iff.mp hx)
    have tk : items.take (i + 1) = items.take i ++ [x] := by rw [List.take_add_one, hx]; rfl
    refine ⟨okG st k, (step x (List.mem_of_getElem? hx) st k (lt_of ha)).mono fun μ2 st2 b => b.mono fun c st3 b => ?_⟩
    cases c with
    | true =>
      rw [if_pos rfl] at b ⊢
      refine b.mono fun y st4 ⟨k4, hf⟩ => ?_
      have l : ((items.take i).filterMap f).length ≤ i := by
        have := List.length_filterMap_le f (items.take i)
        rw [List.length_take] at this
        omega
      refine ⟨k4.at ha hS, by have := hxi.1; omega, by have := hxi.1; omega, (k.trans k4).set (.inr hn), ?_⟩
      rw [tk, List.filterMap_append]
      simp [hf]
    | false =>
      rw [if_neg (by decide)] at b ⊢
      obtain ⟨k3, hf⟩ := b
      refine ⟨k3.at ha hS, by have := hxi.1; omega, k.trans k3, ?_⟩
      rw [tk, List.filterMap_append]
      simp [hf]
  · rintro acc st ⟨_, k, rfl⟩ ha
    rw [List.take_length] at ha
    exact ⟨okG st k, fin st k ha⟩
theorem forGo_W {b : SE} {Q : Out → Sto → Prop} (I : Nat → Mu → Sto → Prop)
    (step : ∀ i x μ st, items[i]? = some x → I i μ st → gok gs st = true ∧ W (g x μ st) fun μ1 st1 => W (b μ1 st1) fun o st2 => match o with
      | .nx μ2 => I (i + 1) μ2 st2
      | .ct μ2 => I (i + 1) μ2 st2
      | .bk μ2 => Q (.nx μ2) st2
      | .rt d => Q (.rt d) st2)
    (fin : ∀ μ st, I items.length μ st → gok gs st = true ∧ Q (.nx μ) st) : ∀ (i : Nat) (μ : Mu) (st : Sto), i ≤ items.length → I i μ st → W (forGo gs g b (items.drop i) μ st) Q := by
  intro i
  induction h : items.length - i generalizing i with
  | zero =>
    intro μ st hi hI
    have : i = items.length := by omega
    subst this
    rw [List.drop_length]
    unfold forGo
    obtain ⟨a, b⟩ := fin μ st hI
    rw [if_pos a]
    exact b
  | succ k ih =>
    intro μ st hi hI
    have hlt : i < items.length := by omega
    rw [List.drop_eq_getElem_cons hlt]
    unfold forGo
    obtain ⟨a, c⟩ := step i items[i] μ st (List.getElem?_eq_getElem hlt) hI
    rw [if_pos a, W_bind]
    refine c.mono fun μ1 st1 c => ?_
    rw [W_bind]
    refine c.mono fun o st2 c => ?_
    unfold loopK
    cases o with
    | nx μ2 => exact ih (i + 1) (by omega) μ2 st2 hlt c
    | ct μ2 => exact ih (i + 1) (by omega) μ2 st2 hlt c
    | bk μ2 => exact c
    | rt d => exact c
theorem whGo_W {c : BE} {b : SE} {Q : Out → Sto → Prop} (I : Nat → Mu → Sto → Prop)
    (step : ∀ m μ st, I m μ st → W (c μ st) fun x st1 => if x = true then W (b μ st1) fun o st2 => match o with
      | .nx μ2 => ∃ m', m' < m ∧ I m' μ2 st2
      | .ct μ2 => ∃ m', m' < m ∧ I m' μ2 st2
      | .bk μ2 => Q (.nx μ2) st2
      | .rt d => Q (.rt d) st2 else Q (.nx μ) st1) : ∀ (k m : Nat) (μ : Mu) (st : Sto), m < k → I m μ st → W (whGo c b k μ st) Q := by
  intro k
  induction k with
  | zero => intro m μ st h; omega
  | succ k ih =>
    intro m μ st h hI
    unfold whGo
    rw [W_bind]
    refine (step m μ st hI).mono fun x st1 s => ?_
    cases x with
    | true =>
      rw [if_pos rfl] at s ⊢
      rw [W_bind]
      refine s.mono fun o st2 s => ?_
      unfold loopK
      cases o with
      | nx μ2 => obtain ⟨m', hm, s⟩ := s; exact ih m' μ2 st2 (by omega) s
      | ct μ2 => obtain ⟨m', hm, s⟩ := s; exact ih m' μ2 st2 (by omega) s
      | bk μ2 => exact s
      | rt d => exact s
    | false =>
      rw [if_neg (by decide)] at s ⊢
      exact s
end
end Fd
end
section
set_option Elab.async false
set_option linter.all false
set_option maxRecDepth 100000
set_option maxHeartbeats 4000000
/-! Single steps, as equations. -/
namespace Fd
open PySem L2
section
variable {i j : Int} {n : Nat} {st : Sto} {xs ys : List D} {x y d : D} {b c : Bool} {s t : Str}
theorem W_if {α : Type} {p : Prop} [Decidable p] {r : R α} {Q : α → Sto → Prop} : W (if p then r else .bad) Q = (p ∧ W r Q) := by
  by_cases h : p
  · simp [h]
  · simp [h]
theorem s_add : opAdd (.int i) (.int j) st = .ok (.int (i + j)) st := rfl
theorem s_addt (h : xs.length + ys.length ≤ sizeLine) : opAdd (.tup xs) (.tup ys) st = .ok (.tup (xs ++ ys)) st := if_pos h
theorem s_sub : opSub (.int i) (.int j) st = .ok (.int (i - j)) st := rfl
theorem s_mul (h : mulOk i j = true) : opMul (.int i) (.int j) st = .ok (.int (i * j)) st := if_pos h
theorem s_mod (h : 0 < j) : opMod (.int i) (.int j) st = .ok (.int (i % j)) st := if_pos h
theorem s_fdiv (h : 0 < j) (h' : j.natAbs.log2 < 9000) : opFdiv (.int i) (.int j) st = .ok (.int (i / j)) st := if_pos ⟨h, h'⟩
theorem s_pow (h : powOk i j = true) : opPow (.int i) (.int j) st = .ok (.int (i ^ j.toNat)) st := if_pos h
theorem s_neg : opNeg (.int i) st = .ok (.int (-i)) st := rfl
theorem s_i2 (f : Int → Int → Bool) : opI2 f (.int i) (.int j) st = .ok (.bl (f i j)) st := rfl
theorem s_eqi : opEqW id (.int i) (.int j) st = .ok (.bl (decide (i = j))) st := rfl
theorem s_nei : opEqW not (.int i) (.int j) st = .ok (.bl (!decide (i = j))) st := rfl
theorem s_eqb : opEqW id (.bl b) (.bl c) st = .ok (.bl (decide (b = c))) st := rfl
theorem s_neb : opEqW not (.bl b) (.bl c) st = .ok (.bl (!decide (b = c))) st := rfl
theorem s_eqs : opEqW id (.str s) (.str t) st = .ok (.bl (decide (s = t))) st := rfl
theorem s_nes : opEqW not (.str s) (.str t) st = .ok (.bl (!decide (s = t))) st := rfl
theorem s_ixt (h : atI xs i = some d) : opIx (.tup xs) (.int i) st = .ok d st := by
  unfold opIx seqOf
  simp only [h]
theorem s_ixr (h : atI xs i = some d) : opIx (.rol xs) (.int i) st = .ok d st := by
  unfold opIx seqOf lstOf
  simp only [h]
theorem s_ixl (e : st[n]? = some (.lst xs)) (h : atI xs i = some d) : opIx (.ref n) (.int i) st = .ok d st := by
  unfold opIx seqOf lstOf
  simp only [e, h]
theorem s_lent : opLen [.tup xs] st = .ok (.int xs.length) st := rfl
theorem s_lenr : opLen [.rol xs] st = .ok (.int xs.length) st := rfl
theorem s_lenl (e : st[n]? = some (.lst xs)) : opLen [.ref n] st = .ok (.int xs.length) st := by unfold opLen seqOf lstOf; simp only [e]
theorem s_int : opInt [.int i] st = .ok (.int i) st := rfl
theorem s_intb : opInt [.bl b] st = .ok (.int (if b then 1 else 0)) st := rfl
theorem s_abs : opAbs [.int i] st = .ok (.int (if i < 0 then -i else i)) st := rfl
theorem s_newL (h : xs.length ≤ sizeLine) : newL xs st = .ok (.ref st.length) (st ++ [.lst xs]) := if_pos h
theorem s_newT (h : xs.length ≤ sizeLine) : newT xs st = .ok (.tup xs) st := if_pos h
theorem s_set {k : Nat} (e : st[n]? = some (.lst xs)) (h : ixN xs.length i = some k) : opSet (.ref n) (.int i) d st = .ok () (st.set n (.lst (xs.set k d))) := by unfold opSet; simp only [e, h]
end
end Fd
end
section
set_option Elab.async false
set_option linter.all false
set_option maxRecDepth 100000
set_option maxHeartbeats 4000000
/-! One rule for each form of a reading. -/
namespace Fd
open PySem L2
def onNx (o : Out) (k : Mu → Prop) (e : Prop) : Prop := match o with
  | .nx μ => k μ
  | _ => e
def onLoop (o : Out) (k : Mu → Prop) (bk : Mu → Prop) (rt : D → Prop) : Prop := match o with
  | .nx μ => k μ
  | .ct μ => k μ
  | .bk μ => bk μ
  | .rt d => rt d
section
variable {μ : Mu} {st : Sto} {QD : D → Sto → Prop} {QL : List D → Sto → Prop} {QB : Bool → Sto → Prop} {QO : Out → Sto → Prop} {QM : Mu → Sto → Prop} {QP : List (D × D) → Sto → Prop}
variable {d : D} {i n : Nat} {a b c f : EE} {fs as : AE} {t t' : BE} {g : GE} {gs : GEs} {s s' : SE} {mi : IE}
theorem v_mC (h : QD d st) : W (mC d μ st) QD := h
theorem v_mVar (e : getS μ i = some d) (h : QD d st) : W (mVar i μ st) QD := by unfold mVar; rw [e]; exact h
theorem v_m1 {o : D → Sto → R D} (h : W (a μ st) fun x st1 => W (o x st1) QD) : W (m1 o a μ st) QD := by unfold m1; rw [W_bind]; exact h
theorem v_m2 {o : D → D → Sto → R D} (h : W (a μ st) fun x st1 => W (b μ st1) fun y st2 => W (o x y st2) QD) : W (m2 o a b μ st) QD := by unfold m2; rw [W_bind]; exact h.mono fun x st1 h => by rw [W_bind]; exact h
theorem v_mN {o : List D → Sto → R D} (h : W (fs μ st) fun xs st1 => W (o xs st1) QD) : W (mN o fs μ st) QD := by unfold mN; rw [W_bind]; exact h
theorem v_mNil (h : QL [] st) : W (mNil μ st) QL := h
theorem v_mCons (h : W (f μ st) fun x st1 => W (fs μ st1) fun xs st2 => QL (x :: xs) st2) : W (mCons f fs μ st) QL := by unfold mCons; rw [W_bind]; exact h.mono fun x st1 h => by rw [W_bind]; exact h
theorem v_mB (h : W (f μ st) fun x st1 => ∃ k, x = .bl k ∧ QB k st1) : W (mB f μ st) QB := by unfold mB; rw [W_bind]; exact h.mono fun x st1 ⟨k, e, h⟩ => by rw [e]; exact h
theorem v_mAndV (h : W (f μ st) fun x st1 => ∃ k, x = .bl k ∧ if k = true then W (c μ st1) QD else QD (.bl false) st1) : W (mAndV f c μ st) QD := by
  unfold mAndV; rw [W_bind]
  refine v_mB (h.mono fun x st1 ⟨k, e, h⟩ => ⟨k, e, ?_⟩)
  cases k with
  | true => exact h
  | false => exact h
theorem v_mOrV (h : W (f μ st) fun x st1 => ∃ k, x = .bl k ∧ if k = true then QD (.bl true) st1 else W (c μ st1) QD) : W (mOrV f c μ st) QD := by
  unfold mOrV; rw [W_bind]
  refine v_mB (h.mono fun x st1 ⟨k, e, h⟩ => ⟨k, e, ?_⟩)
  cases k with
  | true => exact h
  | false => exact h
theorem v_mNotV (h : W (f μ st) fun x st1 => ∃ k, x = .bl k ∧ QD (.bl (!k)) st1) : W (mNotV f μ st) QD := by
  unfold mNotV; rw [W_bind]
  exact v_mB (h.mono fun x st1 ⟨k, e, h⟩ => ⟨k, e, h⟩)
theorem v_mAnd (h : W (t μ st) fun k st1 => if k = true then W (t' μ st1) QB else QB false st1) : W (mAnd t t' μ st) QB := by
  unfold mAnd; rw [W_bind]; refine h.mono fun k st1 h => ?_
  cases k <;> exact h
theorem v_mOr (h : W (t μ st) fun k st1 => if k = true then QB true st1 else W (t' μ st1) QB) : W (mOr t t' μ st) QB := by
  unfold mOr; rw [W_bind]; refine h.mono fun k st1 h => ?_
  cases k <;> exact h
theorem v_mNot (h : W (t μ st) fun k st1 => QB (!k) st1) : W (mNot t μ st) QB := by unfold mNot; rw [W_bind]; exact h
theorem v_mIf (h : W (t μ st) fun k st1 => if k = true then W (a μ st1) QD else W (b μ st1) QD) : W (mIf t a b μ st) QD := by
  unfold mIf; rw [W_bind]; refine h.mono fun k st1 h => ?_
  cases k <;> exact h
theorem v_mChn {m : CE2} (h : W (f μ st) fun x st1 => W (m x μ st1) QD) : W (mChn f m μ st) QD := by unfold mChn; rw [W_bind]; exact h
theorem v_lkLast {o : D → D → Sto → R D} (h : W (f μ st) fun y st1 => W (o d y st1) QD) : W (lkLast o f d μ st) QD := by unfold lkLast; rw [W_bind]; exact h
theorem v_lkCons {o : D → D → Sto → R D} {m : CE2} (h : W (f μ st) fun y st1 => W (o d y st1) fun z st2 => ∃ k, z = .bl k ∧ if k = true then W (m y μ st2) QD else QD (.bl false) st2) : W (lkCons o f m d μ st) QD := by
  unfold lkCons; rw [W_bind]; refine h.mono fun y st1 h => ?_
  rw [W_bind]; refine h.mono fun z st2 ⟨k, e, h⟩ => ?_
  subst e
  show W (if k = true then m y μ st2 else .ok (.bl false) st2) QD
  cases k <;> exact h
theorem v_mPartN {QI : Option Int → Sto → Prop} (h : QI none st) : W (mPart none μ st) QI := h
theorem v_mPartS {QI : Option Int → Sto → Prop} (h : W (f μ st) fun x st1 => ∃ k, x = .int k ∧ QI (some k) st1) : W (mPart (some f) μ st) QI := by
  show W ((f μ st).bind asPart) QI
  rw [W_bind]; exact h.mono fun x st1 ⟨k, e, h⟩ => by rw [e]; exact h
theorem v_mSl {lo hi : Option EE} (h : W (f μ st) fun x st1 => W (mPart lo μ st1) fun l st2 => W (mPart hi μ st2) fun u st3 => W (opSl x l u st3) QD) : W (mSl f lo hi μ st) QD := by
  unfold mSl; rw [W_bind]; refine h.mono fun x st1 h => ?_
  rw [W_bind]; refine h.mono fun l st2 h => ?_
  rw [W_bind]; exact h
theorem v_mSlS {lo hi : Option EE} (h : W (f μ st) fun x st1 => W (mPart lo μ st1) fun l st2 => W (mPart hi μ st2) fun u st3 => W (c μ st3) fun k st4 => W (opSlS x l u k st4) QD) : W (mSlS f lo hi c μ st) QD := by
  unfold mSlS; rw [W_bind]; refine h.mono fun x st1 h => ?_
  rw [W_bind]; refine h.mono fun l st2 h => ?_
  rw [W_bind]; refine h.mono fun u st3 h => ?_
  rw [W_bind]; exact h
theorem v_mM {T : String} {o : MF} (h : W (f μ st) fun x st1 => isTy T x st1 = true ∧ W (as μ st1) fun xs st2 => W (o x xs st2) QD) : W (mM T o f as μ st) QD := by
  unfold mM; rw [W_bind]; refine h.mono fun x st1 ⟨e, h⟩ => ?_
  rw [if_pos e, W_bind]; exact h
theorem v_mDnew (h : QD (.ref st.length) (st ++ [.dct []])) : W (mDnew μ st) QD := h
theorem v_mPnil (h : QP [] st) : W (mPnil μ st) QP := h
theorem v_mPair {r : PE2} (h : W (f μ st) fun k st1 => W (c μ st1) fun v st2 => W (r μ st2) fun ps st3 => QP ((k, v) :: ps) st3) : W (mPair f c r μ st) QP := by
  unfold mPair; rw [W_bind]; refine h.mono fun k st1 h => ?_
  rw [W_bind]; refine h.mono fun v st2 h => ?_
  rw [W_bind]; exact h
/-! statements -/
theorem v_mNext (h : QO (.nx μ) st) : W (mNext μ st) QO := h
theorem v_mSeq (h : W (s μ st) fun o st1 => onNx o (fun μ1 => W (s' μ1 st1) QO) (QO o st1)) : W (mSeq s s' μ st) QO := by
  unfold mSeq; rw [W_bind]; refine h.mono fun o st1 h => ?_
  cases o <;> exact h
theorem v_mDrop (h : W (f μ st) fun _ st1 => QO (.nx μ) st1) : W (mDrop f μ st) QO := by unfold mDrop; rw [W_bind]; exact h
theorem v_mAsg (h : W (f μ st) fun x st1 => W (g x μ st1) fun μ1 st2 => QO (.nx μ1) st2) : W (mAsg f g μ st) QO := by
  unfold mAsg; rw [W_bind]; exact h.mono fun x st1 h => by rw [W_bind]; exact h
theorem v_mRet (h : W (f μ st) fun x st1 => QO (.rt x) st1) : W (mRet f μ st) QO := by unfold mRet; rw [W_bind]; exact h
theorem v_mRetN (h : QO (.rt .non) st) : W (mRetN μ st) QO := h
theorem v_mIfS (h : W (t μ st) fun k st1 => if k = true then W (s μ st1) QO else W (s' μ st1) QO) : W (mIfS t s s' μ st) QO := by
  unfold mIfS; rw [W_bind]; refine h.mono fun k st1 h => ?_
  cases k <;> exact h
theorem v_mPar2 {i j : Nat} (h : W (fs μ st) fun xs st1 => ∃ x y, xs = [x, y] ∧ QO (.nx ((μ.set i (some x)).set j (some y))) st1) : W (mPar2 i j fs μ st) QO := by
  unfold mPar2; rw [W_bind]; refine h.mono fun xs st1 ⟨x, y, e, h⟩ => ?_
  subst e; exact h
theorem v_mPar3 {i j l : Nat} (h : W (fs μ st) fun xs st1 => ∃ x y z, xs = [x, y, z] ∧ QO (.nx (((μ.set i (some x)).set j (some y)).set l (some z))) st1) : W (mPar3 i j l fs μ st) QO := by
  unfold mPar3; rw [W_bind]; refine h.mono fun xs st1 ⟨x, y, z, e, h⟩ => ?_
  subst e; exact h
theorem v_mFor (h : W (mi μ st) fun p st1 => W (forGo p.2 g s p.1 μ st1) QO) : W (mFor mi g s μ st) QO := by unfold mFor; rw [W_bind]; exact h
theorem v_mLc {vs : List Nat} (h : W (mi μ st) fun p st1 => W (lcGo p.2 g t f (wipeM μ vs) st1.length p.1 (st1 ++ [.lst []])) QD) : W (mLc mi g t f vs μ st) QD := by unfold mLc; rw [W_bind]; exact h
theorem v_mIt {QI : List D × Gd → Sto → Prop} (h : W (f μ st) fun x st1 => ∃ p, srcD x st1 = some p ∧ QI p st1) : W (mIt f μ st) QI := by
  unfold mIt; rw [W_bind]; refine h.mono fun x st1 ⟨p, e, h⟩ => ?_
  unfold asSrc; rw [e]; exact h
theorem v_mEnum {QI : List D × Gd → Sto → Prop} (h : W (f μ st) fun x st1 => ∃ p, srcD x st1 = some p ∧ QI (enumD p.1, p.2) st1) : W (mEnum f μ st) QI := by
  unfold mEnum; rw [W_bind]; refine h.mono fun x st1 ⟨p, e, h⟩ => ?_
  unfold enG; rw [e]; exact h
theorem v_mRng {QI : List D × Gd → Sto → Prop} (h : W (as μ st) fun xs st1 => W (rngs xs st1) QI) : W (mRng as μ st) QI := by unfold mRng; rw [W_bind]; exact h
theorem v_gN (h : QM (μ.set i (some d)) st) : W (gN i d μ st) QM := h
theorem v_gT {ds : List D} (e : seqOf d st = some ds) (l : ds.length = n) (h : W (gs ds μ st) QM) : W (gT n gs d μ st) QM := by unfold gT; rw [e]; simp only; rw [if_pos l]; exact h
theorem v_gsNil (h : QM μ st) : W (gsNil [] μ st) QM := h
theorem v_gsCons {ds : List D} (h : W (g d μ st) fun μ1 st1 => W (gs ds μ1 st1) QM) : W (gsCons g gs (d :: ds) μ st) QM := by unfold gsCons; rw [W_bind]; exact h
theorem v_gS (h : W (f μ st) fun o st1 => W (c μ st1) fun i st2 => W (opSet o i d st2) fun _ st3 => QM μ st3) : W (gS f c d μ st) QM := by
  unfold gS; rw [W_bind]; refine h.mono fun x st1 h => ?_
  rw [W_bind]; refine h.mono fun l st2 h => ?_
  rw [W_bind]; exact h
theorem v_yes (h : QB true st) : W (tYesM μ st) QB := h
theorem v_fnD {m : SE} {n p : Nat} {ds : List D} (l : ds.length = p) (h : W (m (startD n ds) st) fun o st1 => W (endD o st1) QD) : W (fnD n p m ds st) QD := by unfold fnD; rw [if_pos l, W_bind]; exact h
theorem v_endN (h : QD .non st) : W (endD (.nx μ) st) QD := h
theorem v_endR (h : QD d st) : W (endD (.rt d) st) QD := h
theorem v_nx {k : Mu → Prop} {e : Prop} (h : k μ) : onNx (.nx μ) k e := h
theorem v_rt {k : Mu → Prop} {e : Prop} (h : e) : onNx (.rt d) k e := h
theorem v_bl {k : Bool} {P : Bool → Prop} (h : P k) : ∃ k', D.bl k = .bl k' ∧ P k' := ⟨k, rfl, h⟩
theorem v_kin {k : Int} {P : Int → Prop} (h : P k) : ∃ k', D.int k = .int k' ∧ P k' := ⟨k, rfl, h⟩
theorem v_itt {P R : Prop} (h : P) : (if true = true then P else R) := h
theorem v_iff {P R : Prop} (h : R) : (if false = true then P else R) := h
theorem v_tyL {n : Nat} {xs : List D} (e : st[n]? = some (.lst xs)) : isTy "list" (.ref n) st = true := by unfold isTy; simp only [e]; rfl
end
end Fd
end
section
set_option Elab.async false
set_option linter.all false
set_option maxRecDepth 100000
set_option maxHeartbeats 4000000
/-! More single steps: sequences, calls, methods. -/
namespace Fd
open PySem L2
/-- a sequence that stays while only S changes -/
def SeqK (S : List Nat) (d : D) (st : Sto) (xs : List D) : Prop := d = .tup xs ∨ d = .rol xs ∨ ∃ n, d = .ref n ∧ n ∉ S ∧ st[n]? = some (.lst xs)
section
variable {S : List Nat} {st st' : Sto} {d e : D} {xs ys : List D} {n k : Nat} {i j : Int} {ns : List Int} {bs : List Bool}
theorem SeqK.keep (h : SeqK S d st xs) (g : Kx S st st') : SeqK S d st' xs := by
  rcases h with h | h | ⟨n, h, h2, h3⟩
  · exact .inl h
  · exact .inr (.inl h)
  · exact .inr (.inr ⟨n, h, h2, g.at h3 h2⟩)
theorem SeqK.seq (h : SeqK S d st xs) : seqOf d st = some xs := by
  rcases h with rfl | rfl | ⟨n, rfl, h2, h3⟩
  · rfl
  · rfl
  · unfold seqOf lstOf; simp only [h3]
theorem SeqK.src (h : SeqK S d st xs) : ∃ gs, srcD d st = some (xs, gs) ∧ ∀ st', Kx S st st' → gok gs st' = true := by
  rcases h with rfl | rfl | ⟨n, rfl, h2, h3⟩
  · exact ⟨[], rfl, fun _ _ => rfl⟩
  · exact ⟨[], rfl, fun _ _ => rfl⟩
  · refine ⟨[(n, xs)], ?_, fun st' g => gok_one (g.at h3 h2)⟩
    unfold srcD; simp only [h3]
theorem seq_lst (e : st[n]? = some (.lst xs)) : seqOf (.ref n) st = some xs := by unfold seqOf lstOf; simp only [e]
theorem lst_lst (e : st[n]? = some (.lst xs)) : lstOf (.ref n) st = some xs := by unfold lstOf; simp only [e]
theorem s_lenq (h : seqOf d st = some xs) : opLen [d] st = .ok (.int xs.length) st := by
  cases d with
  | tup ys => cases h; rfl
  | rol ys => cases h; rfl
  | ref n => unfold opLen; simp only [h]
  | _ => cases h
theorem s_ixq (h : seqOf d st = some xs) (hi : atI xs i = some e) : opIx d (.int i) st = .ok e st := by
  cases d with
  | tup ys => cases h; exact s_ixt hi
  | rol ys => cases h; exact s_ixr hi
  | ref n => unfold opIx; simp only [h, hi]
  | _ => cases h
theorem s_list (h : seqOf d st = some xs) : opList [d] st = .ok (.ref st.length) (st ++ [.lst xs]) := by unfold opList; simp only [h]
theorem s_tuple (h : seqOf d st = some xs) : opTuple [d] st = .ok (.tup xs) st := by unfold opTuple; simp only [h]
theorem s_sorted (h : lstOf d st = some (ns.map D.int)) : opSorted [d] st = .ok (.ref st.length) (st ++ [.lst ((sortI ns).map .int)]) := by unfold opSorted; simp only [h, intsOf_map]
theorem s_sset (h : seqOf d st = some (ns.map D.int)) (l : ns.length < 64) : opSSet d st = .ok (.ref st.length) (st ++ [.lst ((sset ns).map .int)]) := by unfold opSSet; simp only [h, intsOf_map]; rw [if_pos l]
theorem s_all (e : st[n]? = some (.lst (bs.map D.bl))) : opAll [.ref n] st = .ok (.bl (bs.all id)) st := by unfold opAll lstOf; simp only [e, Option.bind_some, boolsOf_map]
theorem s_any (e : st[n]? = some (.lst (bs.map D.bl))) : opAny [.ref n] st = .ok (.bl (bs.any id)) st := by unfold opAny lstOf; simp only [e, Option.bind_some, boolsOf_map]
theorem s_sum (e : st[n]? = some (.lst (ns.map D.int))) : opSum [.ref n] st = .ok (.int ns.sum) st := by unfold opSum lstOf; simp only [e, Option.bind_some, intsOf_map]
theorem s_max2 : opMax [.int i, .int j] st = .ok (.int (if j > i then j else i)) st := rfl
theorem s_min2 : opMin [.int i, .int j] st = .ok (.int (if j < i then j else i)) st := rfl
theorem s_append (e : st[n]? = some (.lst xs)) (h : xs.length < sizeLine) : mfAppend (.ref n) [d] st = .ok .non (st.set n (.lst (xs ++ [d]))) := by unfold mfAppend; simp only [e]; rw [if_pos h]
theorem s_pop1 {x : D} (e : st[n]? = some (.lst xs)) (h0 : 0 ≤ i) (h1 : i < 2 ^ 63) (hx : xs[i.toNat]? = some x) : mfPop1 (.ref n) [.int i] st = .ok x (st.set n (.lst (xs.eraseIdx i.toNat))) := by
  have hl := lt_of' hx
  have hs : seqIndex? i xs.length = some i.toNat := by
    have hn : ¬ i < 0 := by omega
    have hj : (decide (0 ≤ i) && decide (i < (xs.length : Int))) = true := by simp only [Bool.and_eq_true, decide_eq_true_eq]; omega
    unfold seqIndex?
    simp only [hn, if_false, hj, if_true]
  unfold mfPop1
  simp only [e]
  rw [if_pos ⟨by omega, h1⟩]
  simp only [hs, hx]
where
  lt_of' {xs : List D} {k : Nat} {x : D} (h : xs[k]? = some x) : k < xs.length := (List.getElem?_eq_some_iff.mp h).1
theorem s_pop0 {x : D} (e : st[n]? = some (.lst xs)) (hx : xs[xs.length - 1]? = some x) : mfPop0 (.ref n) [] st = .ok x (st.set n (.lst xs.dropLast)) := by unfold mfPop0; simp only [e, hx]
theorem s_extend {m : Nat} (e : st[n]? = some (.lst xs)) (e' : st[m]? = some (.lst ys)) (h : xs.length + ys.length ≤ sizeLine) : mfExtend (.ref n) [.ref m] st = .ok .non (st.set n (.lst (xs ++ ys))) := by unfold mfExtend; simp only [e, e']; rw [if_pos h]
theorem s_count (e : st[n]? = some (.lst (ns.map D.int))) : mfCount (.ref n) [.int i] st = .ok (.int (ns.count i : Nat)) st := by unfold mfCount; simp only [e, intsOf_map]
theorem s_rng1 (h0 : 0 ≤ i) (h1 : i < 4611686018427387904) : rngs [.int i] st = .ok (rangeD 0 i.toNat, []) st := by
  unfold rngs
  simp only
  rw [if_pos (by unfold rngOk big62; simp only [Bool.and_eq_true, decide_eq_true_eq]; omega)]
theorem rgOk_of {m : Nat} (h : m ≤ 16777216) : rgOk 0 (m : Int) = true := by
  unfold rgOk
  have e : (2 : Int) ^ 62 = 4611686018427387904 := by decide
  have e2 : (2 : Nat) ^ 24 = 16777216 := by decide
  rw [decide_eq_true_eq, e, e2]
  omega
theorem v_mLRg {μ : Mu} {r : Mu → Sto → R (Int × Int)} {QD : D → Sto → Prop} (h : W (r μ st) fun p st1 => rgOk p.1 p.2 = true ∧ QD (.ref st1.length) (st1 ++ [.lst (rgD p.1 p.2)])) : W (mLRg r μ st) QD := by
  unfold mLRg
  rw [W_bind]
  refine h.mono fun p st1 ⟨a, b⟩ => ?_
  rw [if_pos a]
  exact b
theorem v_mRg1 {μ : Mu} {f : EE} {QP : Int × Int → Sto → Prop} (h : W (f μ st) fun x st1 => ∃ k, x = .int k ∧ QP (0, k) st1) : W (mRg1 f μ st) QP := by
  unfold mRg1
  rw [W_bind]
  refine h.mono fun x st1 ⟨k, e, q⟩ => ?_
  subst e
  exact q
theorem rgD_nat (m : Nat) : rgD 0 (m : Int) = rangeD 0 m := by unfold rgD rangeD; rw [show ((m : Int) - 0).toNat = m by omega]
theorem v_lrg1 {μ : Mu} {f : EE} {QD : D → Sto → Prop} (h : W (f μ st) fun x st1 => ∃ m : Nat, x = .int m ∧ m ≤ 16777216 ∧ QD (.ref st1.length) (st1 ++ [.lst (rangeD 0 m)])) : W (mLRg (mRg1 f) μ st) QD := by
  refine v_mLRg (v_mRg1 (h.mono fun x st1 ⟨m, e, hm, q⟩ => ⟨m, e, ?_⟩))
  have a := rgOk_of hm
  rw [← rgD_nat] at q
  exact ⟨a, q⟩
theorem rangeD_get {lo : Int} {n k : Nat} (h : k < n) : (rangeD lo n)[k]? = some (.int (lo + (k : Nat))) := by unfold rangeD; rw [List.getElem?_map, List.getElem?_range h]; rfl
theorem rangeD_len {lo : Int} {n : Nat} : (rangeD lo n).length = n := by unfold rangeD; rw [List.length_map, List.length_range]
theorem mem_rangeD {lo : Int} {n : Nat} {x : D} (h : x ∈ rangeD lo n) : ∃ k : Nat, k < n ∧ x = .int (lo + (k : Nat)) := by
  unfold rangeD at h
  obtain ⟨k, hk, rfl⟩ := List.mem_map.mp h
  exact ⟨k, List.mem_range.mp hk, rfl⟩
theorem s_nT0 : newT [] st = .ok (.tup []) st := if_pos (show 0 ≤ sizeLine by decide)
theorem s_nL0 : newL [] st = .ok (.ref st.length) (st ++ [.lst []]) := if_pos (show 0 ≤ sizeLine by decide)
theorem s_nT1 {x0 : D} : newT [x0] st = .ok (.tup [x0]) st := if_pos (show 1 ≤ sizeLine by decide)
theorem s_nL1 {x0 : D} : newL [x0] st = .ok (.ref st.length) (st ++ [.lst [x0]]) := if_pos (show 1 ≤ sizeLine by decide)
theorem s_nT2 {x0 x1 : D} : newT [x0, x1] st = .ok (.tup [x0, x1]) st := if_pos (show 2 ≤ sizeLine by decide)
theorem s_nL2 {x0 x1 : D} : newL [x0, x1] st = .ok (.ref st.length) (st ++ [.lst [x0, x1]]) := if_pos (show 2 ≤ sizeLine by decide)
theorem s_nT3 {x0 x1 x2 : D} : newT [x0, x1, x2] st = .ok (.tup [x0, x1, x2]) st := if_pos (show 3 ≤ sizeLine by decide)
theorem s_nL3 {x0 x1 x2 : D} : newL [x0, x1, x2] st = .ok (.ref st.length) (st ++ [.lst [x0, x1, x2]]) := if_pos (show 3 ≤ sizeLine by decide)
theorem s_nT4 {x0 x1 x2 x3 : D} : newT [x0, x1, x2, x3] st = .ok (.tup [x0, x1, x2, x3]) st := if_pos (show 4 ≤ sizeLine by decide)
theorem s_nL4 {x0 x1 x2 x3 : D} : newL [x0, x1, x2, x3] st = .ok (.ref st.length) (st ++ [.lst [x0, x1, x2, x3]]) := if_pos (show 4 ≤ sizeLine by decide)
theorem s_nT5 {x0 x1 x2 x3 x4 : D} : newT [x0, x1, x2, x3, x4] st = .ok (.tup [x0, x1, x2, x3, x4]) st := if_pos (show 5 ≤ sizeLine by decide)
theorem s_nL5 {x0 x1 x2 x3 x4 : D} : newL [x0, x1, x2, x3, x4] st = .ok (.ref st.length) (st ++ [.lst [x0, x1, x2, x3, x4]]) := if_pos (show 5 ≤ sizeLine by decide)
end
end Fd
end
section
set_option Elab.async false
set_option linter.all false
set_option maxRecDepth 100000
set_option maxHeartbeats 4000000
/-! repr and == of data that hold no list; isinstance. -/
namespace Fd
open PySem L2
theorem v_ite_t {b : Bool} {P R : Prop} (e : b = true) (h : P) : if b = true then P else R := by rw [if_pos e]; exact h
theorem v_ite_f {b : Bool} {P R : Prop} (e : b = false) (h : R) : if b = true then P else R := by rw [if_neg (by rw [e]; decide)]; exact h
theorem v_ite {b : Bool} {P R : Prop} (h1 : b = true → P) (h2 : b = false → R) : if b = true then P else R := by
  cases b with
  | true => exact h1 rfl
  | false => exact h2 rfl
theorem v_bl' {k : Bool} {d : D} {P : Bool → Prop} (e : d = .bl k) (h : P k) : ∃ k', d = .bl k' ∧ P k' := ⟨k, e, h⟩
theorem s_isi {d : D} {st : Sto} {t T : String} (h : tyOf d st = some t) : opIsi T d st = .ok (.bl (isSub t T)) st := by unfold opIsi; rw [h]
/-- data whose lists and dicts stand -/
inductive Dok (st : Sto) : D → Prop
  | non : Dok st .non
  | bl (b : Bool) : Dok st (.bl b)
  | int (i : Int) : Dok st (.int i)
  | str (x : Str) : Dok st (.str x)
  | tup {xs : List D} (h : ∀ x ∈ xs, Dok st x) : Dok st (.tup xs)
  | ref {n : Nat} (h : n < st.length) : Dok st (.ref n)
theorem Dok.keep {st st' : Sto} {d : D} (h : Dok st d) (l : st.length ≤ st'.length) : Dok st' d := by
  induction h with
  | non => exact .non
  | bl b => exact .bl b
  | int b => exact .int b
  | str b => exact .str b
  | tup h ih => exact .tup ih
  | ref h => exact .ref (Nat.lt_of_lt_of_le h l)
def isIB : D → Bool
  | .int _ => true
  | .bl _ => true
  | _ => false
def isB : D → Bool
  | .bl _ => true
  | _ => false
def isT : D → Bool
  | .tup _ => true
  | _ => false
theorem Dok.ty {st : Sto} {d : D} (h : Dok st d) : ∃ t, tyOf d st = some t ∧ isSub t "int" = isIB d ∧ isSub t "bool" = isB d ∧ isSub t "tuple" = isT d := by
  cases h with
  | non => exact ⟨_, rfl, by decide, by decide, by decide⟩
  | bl b => exact ⟨_, rfl, (by decide : isSub "bool" "int" = true), (by decide : isSub "bool" "bool" = true), (by decide : isSub "bool" "tuple" = false)⟩
  | int b => exact ⟨_, rfl, (by decide : isSub "int" "int" = true), (by decide : isSub "int" "bool" = false), (by decide : isSub "int" "tuple" = false)⟩
  | str b => exact ⟨_, rfl, (by decide : isSub "str" "int" = false), (by decide : isSub "str" "bool" = false), (by decide : isSub "str" "tuple" = false)⟩
  | tup h => exact ⟨_, rfl, (by decide : isSub "tuple" "int" = false), (by decide : isSub "tuple" "bool" = false), (by decide : isSub "tuple" "tuple" = true)⟩
  | @ref n h =>
    have e := List.getElem?_eq_getElem h
    unfold tyOf
    simp only [e]
    cases st[n] with
    | lst xs => exact ⟨_, rfl, (by decide : isSub "list" "int" = false), (by decide : isSub "list" "bool" = false), (by decide : isSub "list" "tuple" = false)⟩
    | dct xs => exact ⟨_, rfl, (by decide : isSub "dict" "int" = false), (by decide : isSub "dict" "bool" = false), (by decide : isSub "dict" "tuple" = false)⟩
theorem w_isi {st : Sto} {d : D} {QD : D → Sto → Prop} (h : Dok st d) (q : QD (.bl (isIB d)) st) : W (opIsi "int" d st) QD := by obtain ⟨t, e, a, b, c⟩ := h.ty; rw [s_isi e, a]; exact q
theorem w_isb {st : Sto} {d : D} {QD : D → Sto → Prop} (h : Dok st d) (q : QD (.bl (isB d)) st) : W (opIsi "bool" d st) QD := by obtain ⟨t, e, a, b, c⟩ := h.ty; rw [s_isi e, b]; exact q
theorem w_ist {st : Sto} {d : D} {QD : D → Sto → Prop} (h : Dok st d) (q : QD (.bl (isT d)) st) : W (opIsi "tuple" d st) QD := by obtain ⟨t, e, a, b, c⟩ := h.ty; rw [s_isi e, c]; exact q
/-- d is p at every store; p nests at most k deep, its text has at most w signs -/
structure Rp (k w : Nat) (d : D) (p : PyData) : Prop where
  py : ∀ st n, k ≤ n → toPy n st d = some p
  lay : p.canLay0 = true
  dep : p.depth ≤ k
  sh : p.showable = true
  len : p.shown.length ≤ w
theorem Rp.mono {k k' w w' : Nat} {d : D} {p : PyData} (h : Rp k w d p) (hk : k ≤ k') (hw : w ≤ w') : Rp k' w' d p :=
  ⟨fun st n hn => h.py st n (Nat.le_trans hk hn), h.lay, Nat.le_trans h.dep hk, h.sh, Nat.le_trans h.len hw⟩
theorem toPy_flat {n : Nat} {st : Sto} (i : Int) : toPy n st (.int i) = some (.int i) := by cases n <;> rfl
theorem rp_nat {m : Nat} (h : m < 10 ^ 18) : Rp 0 18 (.int (m : Int)) (.int (m : Int)) where
  py := fun st n _ => toPy_flat _
  lay := rfl
  dep := Nat.le_refl _
  sh := by
    show decide ((m : Int).natAbs.log2 < 1920) = true
    rw [decide_eq_true_eq, Int.natAbs_natCast]
    by_cases e : m = 0
    · subst e; decide
    · have : m.log2 < 64 := (Nat.log2_lt e).mpr (Nat.lt_trans h (by decide))
      omega
  len := by
    show (Str.ofString (toString (m : Int))).cps.size ≤ 18
    rw [← Array.length_toList, PySem.W.KIN.signs_num, List.length_map]
    exact toDigits_len_pow (by decide) (by decide) h
theorem rp_bl (b : Bool) : Rp 0 5 (.bl b) (.bool b) where
  py := fun st n _ => by cases n <;> rfl
  lay := rfl
  dep := Nat.le_refl _
  sh := rfl
  len := by cases b <;> decide
/-- the items' data -/
inductive Rps (k w : Nat) : List D → List PyData → Prop
  | nil : Rps k w [] []
  | cons {d : D} {p : PyData} {ds : List D} {ps : List PyData} : Rp k w d p → Rps k w ds ps → Rps k w (d :: ds) (p :: ps)
section
variable {k w : Nat} {ds : List D} {ps : List PyData}
theorem Rps.length (h : Rps k w ds ps) : ds.length = ps.length := by
  induction h with
  | nil => rfl
  | cons a b ih => rw [List.length_cons, List.length_cons, ih]
theorem Rps.all (h : Rps k w ds ps) {st : Sto} {n : Nat} (hn : k ≤ n) : optAll (ds.map (toPy n st)) = some ps := by
  induction h with
  | nil => rfl
  | cons a b ih => rw [List.map_cons, a.py st n hn]; unfold optAll; rw [ih]; rfl
theorem Rps.lay (h : Rps k w ds ps) : PyData.canLayAll0 ps = true := by
  induction h with
  | nil => rfl
  | cons a b ih => show (PyData.canLay0 _ && PyData.canLayAll0 _) = true; rw [a.lay, ih]; rfl
theorem Rps.dep (h : Rps k w ds ps) : PyData.depthAll ps ≤ k := by
  induction h with
  | nil => exact Nat.zero_le _
  | cons a b ih => show max (PyData.depth _) (PyData.depthAll _) ≤ k; have := a.dep; omega
theorem Rps.sh (h : Rps k w ds ps) : PyData.showableAll ps = true := by
  induction h with
  | nil => rfl
  | cons a b ih => show (PyData.showable _ && PyData.showableAll _) = true; rw [a.sh, ih]; rfl
theorem Rps.len (h : Rps k w ds ps) : piled (PyData.shownAll ps) ≤ ds.length * (w + 2) := by
  induction h with
  | nil => exact Nat.zero_le _
  | @cons d p ds ps a b ih =>
    show piled (p.shown :: PyData.shownAll ps) ≤ _
    rw [piled_cons, List.length_cons, Nat.succ_mul]
    have := a.len
    omega
theorem Rps.of {f : D → Prop} : ∀ {ds : List D}, (∀ d ∈ ds, ∃ p, Rp k w d p) → ∃ ps, Rps k w ds ps
  | [], _ => ⟨[], .nil⟩
  | d :: r, h => by
    obtain ⟨p, hp⟩ := h d List.mem_cons_self
    obtain ⟨ps, hps⟩ := Rps.of (f := f) fun e he => h e (List.mem_cons_of_mem _ he)
    exact ⟨p :: ps, .cons hp hps⟩
theorem shownAll_len : ∀ ps : List PyData, (PyData.shownAll ps).length = ps.length
  | [] => rfl
  | p :: r => by show (PyData.shownAll r).length + 1 = _; rw [shownAll_len r]; rfl
theorem tupleText_len (ts : List Str) : (tupleText ts).length ≤ piled ts + 3 := by
  have e : (tupleText ts).length = 1 + (Str.join ", " ts).length + (if ts.length == 1 then ",)" else ")" : String).length := by
    unfold tupleText
    rw [strLen_append, strLen_append]
    split <;> rfl
  have l : (if ts.length == 1 then ",)" else ")" : String).length ≤ 2 := by split <;> decide
  by_cases h : ts = []
  · subst h
    have : (Str.join ", " ([] : List Str)).length = 0 := by decide
    omega
  · have := join_length_add ts h
    omega
theorem rp_tup (h : Rps k w ds ps) : Rp (k + 1) (ds.length * (w + 2) + 3) (.tup ds) (.tuple ps) where
  py := fun st n hn => by
    obtain ⟨m, rfl⟩ : ∃ m, n = m + 1 := ⟨n - 1, by omega⟩
    show (optAll (ds.map (toPy m st))).map PyData.tuple = _
    rw [h.all (by omega)]
    rfl
  lay := h.lay
  dep := by show PyData.depthAll ps + 1 ≤ k + 1; have := h.dep; omega
  sh := h.sh
  len := by
    show (tupleText (PyData.shownAll ps)).length ≤ _
    have a := tupleText_len (PyData.shownAll ps)
    have b := h.len
    omega
end
/-- data of this size, whatever they are -/
def Rq (k w : Nat) (d : D) : Prop := ∃ p, Rp k w d p
theorem Rq.mono {k k' w w' : Nat} {d : D} (h : Rq k w d) (hk : k ≤ k') (hw : w ≤ w') : Rq k' w' d := h.imp fun _ h => h.mono hk hw
theorem rq_tup {k w n : Nat} {ds : List D} (h : ∀ d ∈ ds, Rq k w d) (hn : ds.length ≤ n) : Rq (k + 1) (n * (w + 2) + 3) (.tup ds) := by
  obtain ⟨ps, hps⟩ := Rps.of (f := fun _ => True) h
  exact ⟨_, (rp_tup hps).mono (Nat.le_refl _) (Nat.add_le_add_right (Nat.mul_le_mul_right _ hn) _)⟩
theorem s_repr {k w : Nat} {d : D} (h : Rq k w d) (hk : k ≤ 16) (hw : w ≤ sizeLine) : ∃ s : Str, ∀ st, opRepr [d] st = .ok (.str s) st := by
  obtain ⟨p, h⟩ := h
  have sh : SeqAt.shaped p = true := by
    show (p.canLay0 && decide (p.depth ≤ 64)) = true
    rw [h.lay, Bool.true_and, decide_eq_true_eq]
    exact Nat.le_trans h.dep (by omega)
  refine ⟨p.shown, fun st => ?_⟩
  unfold opRepr
  simp only [h.py st deepN hk]
  exact if_pos ⟨sh, h.sh, Nat.le_trans h.len hw⟩
end Fd
end
section
set_option Elab.async false
set_option linter.all false
set_option maxRecDepth 100000
set_option maxHeartbeats 4000000
/-! Comprehensions over the image of a list; members. -/
namespace Fd
open PySem L2
section
variable {gs : Gd} {g : GE} {t : BE} {e : EE} {μ : Mu} {n : Nat} {α : Type}
theorem lcGo_mp {Q : D → Sto → Prop} {S : List Nat} {st0 : Sto} (l : List α) (h : α → D) (f : α → Option D) {items : List D} (hi : items = l.map h) (small : l.length ≤ sizeLine) (hn : st0.length ≤ n) (hS : n ∉ S)
    (okG : ∀ st, Kx S st0 st → gok gs st = true)
    (step : ∀ a ∈ l, ∀ st, Kx S st0 st → n < st.length → W (g (h a) μ st) fun μ2 st2 => W (t μ2 st2) fun b st3 =>
      if b = true then W (e μ2 st3) fun y st4 => Kx S st st4 ∧ f a = some y else Kx S st st3 ∧ f a = none)
    (fin : ∀ st, Kx S st0 st → st[n]? = some (.lst (l.filterMap f)) → Q (.ref n) st) {st1 : Sto} (k1 : Kx S st0 st1) (h1 : st1[n]? = some (.lst [])) : W (lcGo gs g t e μ n items st1) Q := by
  subst hi
  have := lcGo_W (gs := gs) (g := g) (t := t) (e := e) (μ := μ) (n := n) (items := l.map h) (Q := Q) (fun i acc st => i ≤ l.length ∧ Kx S st0 st ∧ acc = (l.take i).filterMap f) ?_ ?_ 0 [] st1 (Nat.zero_le _) ⟨Nat.zero_le _, k1, rfl⟩ h1
  · rw [List.drop_zero] at this; exact this
  · rintro i x acc st hx ⟨hi, k, rfl⟩ ha
    rw [List.getElem?_map] at hx
    obtain ⟨a, hxa, rfl⟩ := Option.map_eq_some_iff.mp hx
    have hxi := (List.getElem?_eq_some_iff.mp hxa).1
    have tk : l.take (i + 1) = l.take i ++ [a] := by rw [List.take_add_one, hxa]; rfl
    refine ⟨okG st k, (step a (List.mem_of_getElem? hxa) st k (lt_of ha)).mono fun μ2 st2 b => b.mono fun c st3 b => ?_⟩
    cases c with
    | true =>
      rw [if_pos rfl] at b ⊢
      refine b.mono fun y st4 ⟨k4, hf⟩ => ?_
      have ll : ((l.take i).filterMap f).length ≤ i := by
        have := List.length_filterMap_le f (l.take i)
        rw [List.length_take] at this
        omega
      refine ⟨k4.at ha hS, by omega, hxi, (k.trans k4).set (.inr hn), ?_⟩
      rw [tk, List.filterMap_append]
      simp [hf]
    | false =>
      rw [if_neg (by decide)] at b ⊢
      obtain ⟨k3, hf⟩ := b
      refine ⟨k3.at ha hS, hxi, k.trans k3, ?_⟩
      rw [tk, List.filterMap_append]
      simp [hf]
  · rintro acc st ⟨_, k, rfl⟩ ha
    rw [List.length_map, List.take_length] at ha
    exact ⟨okG st k, fin st k ha⟩
end
theorem v_mWhile {k : Nat} {c : BE} {b : SE} {μ : Mu} {st : Sto} {QO : Out → Sto → Prop} (h : W (whGo c b k μ st) QO) : W (mWhile k c b μ st) QO := h
theorem enumD_map {α : Type} (l : List α) (h : α → D) : enumD (l.map h) = (l.mapIdx fun i a => (i, a)).map fun p => .tup [.int (p.1 : Nat), h p.2] := by
  unfold enumD
  apply List.ext_getElem?
  intro i
  simp only [List.getElem?_mapIdx, List.getElem?_map, Option.map_map]
  rfl
theorem anyB {a b c : Int} : ([D.int a, D.int b].any fun z => eqF z (.int c)) = (decide (a = c) || decide (b = c)) := by
  show (eqF (.int a) (.int c) || (eqF (.int b) (.int c) || false)) = _
  rw [Bool.or_false]
  have : ∀ x y : Int, eqF (.int x) (.int y) = decide (x = y) := fun x y => by unfold eqF; rfl
  rw [this, this]
theorem s_in2 {a b c : Int} {f : Bool → Bool} {st : Sto} : opIn f (.int c) (.tup [.int a, .int b]) st = .ok (.bl (f (decide (a = c) || decide (b = c)))) st := by
  rw [← anyB]
  rfl
end Fd
end
section
set_option Elab.async false
set_option linter.all false
set_option maxRecDepth 100000
set_option maxHeartbeats 4000000
namespace Lk10
open PySem PySem.Spec PyProof.Rows L2 Fd
def topS (i : Nat) : Stmt := PySem.Challenge.pw_eachstreet_k10_whole_towns_and_their_pie.main.body.getD i (.Pass ⟨0, 0, 0, 0⟩)
abbrev s__law_pot : Stmt := topS 41
def m__law_pot : SE :=
 (mSeq (mAsg (mIf (mB (m2 opLt (mVar 1) (mN opLen (mCons (mVar 0) mNil)))) (m2 opIx (mVar 0) (mVar 1)) (m2 opAdd (m2 opMul (mC (.int 701)) (mVar 1)) (mC (.int 563)))) (gN 2))
 (mSeq (mAsg (m2 opMul (m2 opMod (mN opInt (mCons (mN opAbs (mCons (mVar 2) mNil)) mNil)) (m2 opPow (m2 opPow (mC (.int 10)) (mC (.int 60))) (mC (.int 5)))) (mN opInt (mCons (m2 opGe (mN opAbs (mCons (mVar 2) mNil)) (m2 opPow (mC (.int 10)) (mC (.int 18)))) mNil))) (gN 3))
 (mSeq (mAsg (m2 opMod (mN opInt (mCons (mVar 2) mNil)) (mC (.int 2305843009213693951))) (gN 4))
 (mRet (mN newL (mCons (mVar 3) (mCons (m2 opMod (mN opInt (mCons (m2 opAdd (m2 opAdd (m2 opMul (mVar 4) (mC (.int 87251))) (m2 opMul (m2 opMul (mC (.int 8191)) (mVar 1)) (mVar 1))) (mC (.int 659))) mNil)) (mC (.int 2305843009213693921))) (mCons (mC (.int 0)) mNil))))))))
def g__law_pot : DF := fnD 5 2 m__law_pot
abbrev s__law_cells : Stmt := topS 45
def m__law_cells : SE :=
 (mRet (mLRg (mRg1 (mN opMax (mCons (mC (.int 1)) (mCons (mN opMin (mCons (mVar 1) (mCons (mN opLen (mCons (mVar 0) mNil)) mNil))) mNil))))))
def g__law_cells : DF := fnD 2 2 m__law_cells
abbrev s_is_integer : Stmt := topS 7
def m_is_integer : SE :=
 (mRet (mAndV (m1 (opIsi "int") (mVar 0)) (mNotV (m1 (opIsi "bool") (mVar 0)))))
def g_is_integer : DF := fnD 1 1 m_is_integer
abbrev s_is_between : Stmt := topS 8
def m_is_between : SE :=
 (mRet (mAndV (mN g_is_integer (mCons (mVar 0) mNil)) (mChn (mVar 1) (lkCons opLe (mVar 0) (lkLast opLe (mVar 2))))))
def g_is_between : DF := fnD 3 3 m_is_between
abbrev s_is_street : Stmt := topS 16
def m_is_street : SE :=
 (mSeq (mIfS (mOr (mNot (mB (m1 (opIsi "tuple") (mVar 0)))) (mOr (mB (m2 opNe (mN opLen (mCons (mVar 0) mNil)) (mC (.int 3)))) (mNot (mB (mN g_is_between (mCons (m2 opIx (mVar 0) (mC (.int 0))) (mCons (mC (.int 0)) (mCons (m2 opSub (mVar 1) (mC (.int 1))) mNil))))))))
  (mRet (mC (.bl false)))
  mNext)
 (mRet (mAndV (mN g_is_between (mCons (m2 opIx (mVar 0) (mC (.int 1))) (mCons (m2 opAdd (m2 opIx (mVar 0) (mC (.int 0))) (mC (.int 1))) (mCons (m2 opSub (mVar 1) (mC (.int 1))) mNil)))) (mN g_is_between (mCons (m2 opIx (mVar 0) (mC (.int 2))) (mCons (mC (.int 1)) (mCons (mC (.int 1000000)) mNil)))))))
def g_is_street : DF := fnD 2 2 m_is_street
abbrev s_is_town : Stmt := topS 17
def m_is_town : SE :=
 (mSeq (mIfS (mOr (mNot (mB (m1 (opIsi "tuple") (mVar 0)))) (mOr (mB (m2 opNe (mN opLen (mCons (mVar 0) mNil)) (mC (.int 2)))) (mNot (mB (mN g_is_between (mCons (m2 opIx (mVar 0) (mC (.int 0))) (mCons (mC (.int 1)) (mCons (mC (.int 12)) mNil))))))))
  (mRet (mC (.bl false)))
  mNext)
 (mSeq (mIfS (mOr (mNot (mB (m1 (opIsi "tuple") (m2 opIx (mVar 0) (mC (.int 1)))))) (mB (m2 opGt (mN opLen (mCons (m2 opIx (mVar 0) (mC (.int 1))) mNil)) (mC (.int 40)))))
  (mRet (mC (.bl false)))
  mNext)
 (mRet (mN opAll (mCons (mLc (mIt (m2 opIx (mVar 0) (mC (.int 1)))) (gN 1) tYesM (mN g_is_street (mCons (mVar 1) (mCons (m2 opIx (mVar 0) (mC (.int 0))) mNil))) [1]) mNil)))))
def g_is_town : DF := fnD 2 1 m_is_town
abbrev s_check_town : Stmt := topS 18
def m_check_town : SE :=
 (mIfS (mNot (mB (mN g_is_town (mCons (mVar 0) mNil))))
  mBad
  mNext)
def g_check_town : DF := fnD 1 1 m_check_town
abbrev s_degrees_of : Stmt := topS 24
def m_degrees_of : SE :=
 (mSeq (mAsg (m2 opMul (mN newL (mCons (mC (.int 0)) mNil)) (m2 opIx (mVar 0) (mC (.int 0)))) (gN 1))
 (mSeq (mFor (mIt (m2 opIx (mVar 0) (mC (.int 1)))) (gT 3 (gsCons (gN 2) (gsCons (gN 3) (gsCons (gN 4) gsNil))))
  (mAsg (mN newT (mCons (m2 opAdd (m2 opIx (mVar 1) (mVar 2)) (mC (.int 1))) (mCons (m2 opAdd (m2 opIx (mVar 1) (mVar 3)) (mC (.int 1))) mNil))) (gT 2 (gsCons (gS (mVar 1) (mVar 2)) (gsCons (gS (mVar 1) (mVar 3)) gsNil)))))
 (mRet (mVar 1))))
def g_degrees_of : DF := fnD 5 1 m_degrees_of
abbrev s_degrees : Stmt := topS 25
def m_degrees : SE :=
 (mSeq (mDrop (mN g_check_town (mCons (mVar 0) mNil)))
 (mRet (mN opTuple (mCons (mN g_degrees_of (mCons (mVar 0) mNil)) mNil))))
def g_degrees : DF := fnD 1 1 m_degrees
abbrev s_odd_of : Stmt := topS 26
def m_odd_of : SE :=
 (mRet (mN opTuple (mCons (mLc (mEnum (mN g_degrees_of (mCons (mVar 0) mNil))) (gT 2 (gsCons (gN 1) (gsCons (gN 2) gsNil))) (mB (m2 opEq (m2 opMod (mVar 2) (mC (.int 2))) (mC (.int 1)))) (mVar 1) [1, 2]) mNil)))
def g_odd_of : DF := fnD 3 1 m_odd_of
abbrev s_odd : Stmt := topS 27
def m_odd : SE :=
 (mSeq (mDrop (mN g_check_town (mCons (mVar 0) mNil)))
 (mRet (mN g_odd_of (mCons (mVar 0) mNil))))
def g_odd : DF := fnD 1 1 m_odd
abbrev s_hanging : Stmt := topS 28
def m_hanging : SE :=
 (mSeq (mPar2 2 3 (mCons (mDisp (mPair (mVar 1) (mC (.bl true)) mPnil)) (mCons (mN newL (mCons (mVar 1) mNil)) mNil)))
 (mSeq (mWhile 100000 (mB (m2 opNe (mVar 3) (mN newL mNil)))
  (mSeq (mAsg (mM "list" mfPop0 (mVar 3) mNil) (gN 4))
  (mFor (mIt (m2 opIx (mVar 0) (mC (.int 1)))) (gT 3 (gsCons (gN 5) (gsCons (gN 6) (gsCons (gN 7) gsNil))))
   (mIfS (mB (m2 (opIn id) (mVar 4) (mN newT (mCons (mVar 5) (mCons (mVar 6) mNil)))))
    (mSeq (mAsg (mIf (mB (m2 opEq (mVar 4) (mVar 5))) (mVar 6) (mVar 5)) (gN 8))
    (mIfS (mB (m2 (opIn not) (mVar 8) (mVar 2)))
     (mSeq (mAsg (mC (.bl true)) (gS (mVar 2) (mVar 8)))
     (mDrop (mM "list" mfAppend (mVar 3) (mCons (mVar 8) mNil))))
     mNext))
    mNext))))
 (mRet (mN opTuple (mCons (mN opSorted (mCons (mVar 2) mNil)) mNil)))))
def g_hanging : DF := fnD 9 2 m_hanging
abbrev s_pieces_of : Stmt := topS 29
def m_pieces_of : SE :=
 (mSeq (mPar2 2 3 (mCons (mN newL mNil) (mCons mDnew mNil)))
 (mSeq (mFor (mRng (mCons (m2 opIx (mVar 0) (mC (.int 0))) mNil)) (gN 1)
  (mIfS (mB (m2 (opIn not) (mVar 1) (mVar 3)))
   (mSeq (mDrop (mM "list" mfAppend (mVar 2) (mCons (mN g_hanging (mCons (mVar 0) (mCons (mVar 1) mNil))) mNil)))
   (mDrop (mM "dict" mfUpdate (mVar 3) (mCons (mDc (mIt (m2 opIx (mVar 2) (m1 opNeg (mC (.int 1))))) (gN 4) tYesM (mVar 4) (mC (.bl true)) [4]) mNil))))
   mNext))
 (mRet (mVar 2))))
def g_pieces_of : DF := fnD 5 1 m_pieces_of
abbrev s_pieces : Stmt := topS 30
def m_pieces : SE :=
 (mSeq (mDrop (mN g_check_town (mCons (mVar 0) mNil)))
 (mRet (mN opTuple (mCons (mN g_pieces_of (mCons (mVar 0) mNil)) mNil))))
def g_pieces : DF := fnD 1 1 m_pieces
abbrev s_check_corner : Stmt := topS 19
def m_check_corner : SE :=
 (mIfS (mNot (mB (mN g_is_between (mCons (mVar 1) (mCons (mC (.int 0)) (mCons (m2 opSub (m2 opIx (mVar 0) (mC (.int 0))) (mC (.int 1))) mNil))))))
  mBad
  mNext)
def g_check_corner : DF := fnD 2 2 m_check_corner
abbrev s_piece_of : Stmt := topS 31
def m_piece_of : SE :=
 (mSeq (mDrop (mN g_check_town (mCons (mVar 0) mNil)))
 (mSeq (mDrop (mN g_check_corner (mCons (mVar 0) (mCons (mVar 1) mNil))))
 (mRet (mN g_hanging (mCons (mVar 0) (mCons (mVar 1) mNil))))))
def g_piece_of : DF := fnD 2 2 m_piece_of
abbrev s_at_corner : Stmt := topS 32
def m_at_corner : SE :=
 (mRet (mLc (mEnum (m2 opIx (mVar 0) (mC (.int 1)))) (gT 2 (gsCons (gN 2) (gsCons (gN 3) gsNil))) (mB (m2 (opIn id) (mVar 1) (mSl (mVar 3) none (some (mC (.int 2)))))) (mVar 2) [2, 3]))
def g_at_corner : DF := fnD 4 2 m_at_corner
abbrev s_streets_at : Stmt := topS 33
def m_streets_at : SE :=
 (mSeq (mDrop (mN g_check_town (mCons (mVar 0) mNil)))
 (mSeq (mDrop (mN g_check_corner (mCons (mVar 0) (mCons (mVar 1) mNil))))
 (mRet (mN opTuple (mCons (mN g_at_corner (mCons (mVar 0) (mCons (mVar 1) mNil))) mNil)))))
def g_streets_at : DF := fnD 2 2 m_streets_at
abbrev s_are_between : Stmt := topS 9
def m_are_between : SE :=
 (mRet (mAndV (m1 (opIsi "tuple") (mVar 0)) (mN opAll (mCons (mLc (mIt (mVar 0)) (gN 3) tYesM (mN g_is_between (mCons (mVar 3) (mCons (mVar 1) (mCons (mVar 2) mNil)))) [3]) mNil))))
def g_are_between : DF := fnD 4 3 m_are_between
abbrev s_is_ascending : Stmt := topS 10
def m_is_ascending : SE :=
 (mRet (mN opAll (mCons (mLc (mZip (mVar 0) (mSl (mVar 0) (some (mC (.int 1))) none)) (gT 2 (gsCons (gN 1) (gsCons (gN 2) gsNil))) tYesM (m2 opLt (mVar 1) (mVar 2)) [1, 2]) mNil)))
def g_is_ascending : DF := fnD 3 1 m_is_ascending
abbrev s_is_lot : Stmt := topS 20
def m_is_lot : SE :=
 (mRet (mAndV (mN g_are_between (mCons (mVar 1) (mCons (mC (.int 0)) (mCons (m2 opSub (m2 opIx (mVar 0) (mC (.int 0))) (mC (.int 1))) mNil)))) (mN g_is_ascending (mCons (mVar 1) mNil))))
def g_is_lot : DF := fnD 2 2 m_is_lot
abbrev s_check_lot : Stmt := topS 21
def m_check_lot : SE :=
 (mIfS (mNot (mB (mN g_is_lot (mCons (mVar 0) (mCons (mVar 1) mNil)))))
  mBad
  mNext)
def g_check_lot : DF := fnD 2 2 m_check_lot
abbrev s_crossing : Stmt := topS 34
def m_crossing : SE :=
 (mRet (mLc (mEnum (m2 opIx (mVar 0) (mC (.int 1)))) (gT 2 (gsCons (gN 2) (gsCons (gT 3 (gsCons (gN 3) (gsCons (gN 4) (gsCons (gN 5) gsNil)))) gsNil))) (mB (m2 opNe (m2 (opIn id) (mVar 3) (mVar 1)) (m2 (opIn id) (mVar 4) (mVar 1)))) (mVar 2) [2, 3, 4, 5]))
def g_crossing : DF := fnD 6 2 m_crossing
abbrev s_across : Stmt := topS 35
def m_across : SE :=
 (mSeq (mDrop (mN g_check_town (mCons (mVar 0) mNil)))
 (mSeq (mDrop (mN g_check_lot (mCons (mVar 0) (mCons (mVar 1) mNil))))
 (mRet (mN opTuple (mCons (mN g_crossing (mCons (mVar 0) (mCons (mVar 1) mNil))) mNil)))))
def g_across : DF := fnD 2 2 m_across
abbrev s_inside : Stmt := topS 36
def m_inside : SE :=
 (mSeq (mDrop (mN g_check_town (mCons (mVar 0) mNil)))
 (mSeq (mDrop (mN g_check_lot (mCons (mVar 0) (mCons (mVar 1) mNil))))
 (mRet (mN opTuple (mCons (mLc (mEnum (m2 opIx (mVar 0) (mC (.int 1)))) (gT 2 (gsCons (gN 2) (gsCons (gT 3 (gsCons (gN 3) (gsCons (gN 4) (gsCons (gN 5) gsNil)))) gsNil))) (mAnd (mB (m2 (opIn id) (mVar 3) (mVar 1))) (mB (m2 (opIn id) (mVar 4) (mVar 1)))) (mVar 2) [2, 3, 4, 5]) mNil)))))
def g_inside : DF := fnD 6 2 m_inside
abbrev s_is_bunch : Stmt := topS 22
def m_is_bunch : SE :=
 (mRet (mAndV (mN g_are_between (mCons (mVar 1) (mCons (mC (.int 0)) (mCons (m2 opSub (mN opLen (mCons (m2 opIx (mVar 0) (mC (.int 1))) mNil)) (mC (.int 1))) mNil)))) (mN g_is_ascending (mCons (mVar 1) mNil))))
def g_is_bunch : DF := fnD 2 2 m_is_bunch
abbrev s_check_bunch : Stmt := topS 23
def m_check_bunch : SE :=
 (mIfS (mNot (mB (mN g_is_bunch (mCons (mVar 0) (mCons (mVar 1) mNil)))))
  mBad
  mNext)
def g_check_bunch : DF := fnD 2 2 m_check_bunch
abbrev s_part_of : Stmt := topS 37
def m_part_of : SE :=
 (mRet (mN newT (mCons (m2 opIx (mVar 0) (mC (.int 0))) (mCons (mN opTuple (mCons (mLc (mIt (mVar 1)) (gN 2) tYesM (m2 opIx (m2 opIx (mVar 0) (mC (.int 1))) (mVar 2)) [2]) mNil)) mNil))))
def g_part_of : DF := fnD 3 2 m_part_of
abbrev s_part : Stmt := topS 38
def m_part : SE :=
 (mSeq (mDrop (mN g_check_town (mCons (mVar 0) mNil)))
 (mSeq (mDrop (mN g_check_bunch (mCons (mVar 0) (mCons (mVar 1) mNil))))
 (mRet (mN g_part_of (mCons (mVar 0) (mCons (mVar 1) mNil))))))
def g_part : DF := fnD 2 2 m_part
abbrev s_odd_by : Stmt := topS 39
def m_odd_by : SE :=
 (mSeq (mDrop (mN g_check_town (mCons (mVar 0) mNil)))
 (mSeq (mDrop (mN g_check_bunch (mCons (mVar 0) (mCons (mVar 1) mNil))))
 (mRet (mN g_odd_of (mCons (mN g_part_of (mCons (mVar 0) (mCons (mVar 1) mNil))) mNil)))))
def g_odd_by : DF := fnD 2 2 m_odd_by
abbrev s__law_take : Stmt := topS 42
def m__law_take : SE :=
 (mSeq (mIfS (mB (m2 opGt (m2 opIx (mVar 0) (mC (.int 0))) (mC (.int 0))))
  (mSeq (mAsg (m2 opMod (mN opInt (mCons (m2 opIx (mVar 0) (mC (.int 0))) mNil)) (mVar 1)) (gN 4))
  (mSeq (mAsg (m2 opFdiv (m2 opIx (mVar 0) (mC (.int 0))) (mVar 1)) (gS (mVar 0) (mC (.int 0))))
  (mRet (mVar 4))))
  mNext)
 (mSeq (mAsg (m2 opAdd (m2 opIx (mVar 0) (mC (.int 2))) (mC (.int 1))) (gS (mVar 0) (mC (.int 2))))
 (mSeq (mAsg (m2 opIx (mN newL (mCons (mC (.int 2147483647)) (mCons (mC (.int 2147483629)) (mCons (mC (.int 2147483587)) (mCons (mC (.int 2147483579)) (mCons (mC (.int 2147483563)) mNil)))))) (m2 opMod (mN opInt (mCons (m2 opIx (mVar 0) (mC (.int 2))) mNil)) (mC (.int 5)))) (gN 2))
 (mSeq (mAsg (m2 opMod (mN opInt (mCons (m2 opPow (mN opInt (mCons (m2 opAdd (m2 opAdd (m2 opIx (mVar 0) (mC (.int 1))) (m2 opMul (m2 opMul (mC (.int 99859)) (m2 opIx (mVar 0) (mC (.int 2)))) (m2 opIx (mVar 0) (mC (.int 2))))) (mC (.int 683))) mNil)) (mC (.int 3))) mNil)) (mVar 2)) (gN 3))
 (mSeq (mAsg (m2 opMod (mN opInt (mCons (m2 opMul (mVar 3) (m2 opAdd (m2 opMod (mN opInt (mCons (mVar 3) mNil)) (mC (.int 10335))) (m2 opMul (mC (.int 165)) (m2 opIx (mVar 0) (mC (.int 2)))))) mNil)) (mC (.int 2305843009213693907))) (gN 3))
 (mRet (m2 opMod (mN opInt (mCons (m2 opFdiv (mVar 3) (mC (.int 155))) mNil)) (mVar 1))))))))
def g__law_take : DF := fnD 5 2 m__law_take
abbrev s__law_of : Stmt := topS 43
def m__law_of : SE :=
 (mRet (m2 opIx (mVar 1) (mN g__law_take (mCons (mVar 0) (mCons (mN opLen (mCons (mVar 1) mNil)) mNil)))))
def g__law_of : DF := fnD 2 2 m__law_of
abbrev s__law_some : Stmt := topS 44
def m__law_some : SE :=
 (mSeq (mPar2 1 4 (mCons (mN opList (mCons (mVar 1) mNil)) (mCons (mN newL mNil) mNil)))
 (mSeq (mFor (mRng (mCons (mVar 2) mNil)) (gN 3)
  (mDrop (mM "list" mfAppend (mVar 4) (mCons (mM "list" mfPop1 (mVar 1) (mCons (mN g__law_take (mCons (mVar 0) (mCons (mN opLen (mCons (mVar 1) mNil)) mNil))) mNil)) mNil))))
 (mRet (mVar 4))))
def g__law_some : DF := fnD 5 3 m__law_some
abbrev s__law_town : Stmt := topS 46
def m__law_town : SE :=
 (mSeq (mPar2 4 5 (mCons (m2 opAdd (mC (.int 2)) (mN g__law_take (mCons (mVar 0) (mCons (m2 opSub (mVar 1) (mC (.int 1))) mNil)))) (mCons (mN newL mNil) mNil)))
 (mSeq (mFor (mRng (mCons (mN g__law_take (mCons (mVar 0) (mCons (m2 opAdd (mVar 2) (mC (.int 1))) mNil))) mNil)) (gN 3)
  (mSeq (mAsg (mN opSorted (mCons (mN g__law_some (mCons (mVar 0) (mCons (mLRg (mRg1 (mVar 4))) (mCons (mC (.int 2)) mNil)))) mNil)) (gT 2 (gsCons (gN 6) (gsCons (gN 7) gsNil))))
  (mDrop (mM "list" mfAppend (mVar 5) (mCons (mN newT (mCons (mVar 6) (mCons (mVar 7) (mCons (m2 opAdd (mC (.int 1)) (mN g__law_take (mCons (mVar 0) (mCons (mN g__law_of (mCons (mVar 0) (mCons (mN newL (mCons (mC (.int 2)) (mCons (mC (.int 5)) (mCons (mC (.int 20)) mNil)))) mNil))) mNil)))) mNil)))) mNil)))))
 (mRet (mN newT (mCons (mVar 4) (mCons (mN opTuple (mCons (mVar 5) mNil)) mNil))))))
def g__law_town : DF := fnD 8 3 m__law_town
abbrev s__law_degrees : Stmt := topS 47
def m__law_degrees : SE :=
 (mRet (mLc (mRng (mCons (m2 opIx (mVar 0) (mC (.int 0))) mNil)) (gN 1) tYesM (mN opLen (mCons (mLc (mIt (m2 opIx (mVar 0) (mC (.int 1)))) (gN 2) (mB (m2 (opIn id) (mVar 1) (mSl (mVar 2) none (some (mC (.int 2)))))) (mVar 2) [2]) mNil)) [1]))
def g__law_degrees : DF := fnD 3 1 m__law_degrees
abbrev s__law_odd_ones : Stmt := topS 48
def m__law_odd_ones : SE :=
 (mRet (mLc (mEnum (mN g__law_degrees (mCons (mVar 0) mNil))) (gT 2 (gsCons (gN 1) (gsCons (gN 2) gsNil))) (mB (m2 opEq (m2 opMod (mN opInt (mCons (mVar 2) mNil)) (mC (.int 2))) (mC (.int 1)))) (mVar 1) [1, 2]))
def g__law_odd_ones : DF := fnD 3 1 m__law_odd_ones
abbrev s__law_pieces : Stmt := topS 49
def m__law_pieces : SE :=
 (mSeq (mAsg (mLRg (mRg1 (m2 opIx (mVar 0) (mC (.int 0))))) (gN 1))
 (mSeq (mFor (mIt (m2 opIx (mVar 0) (mC (.int 1)))) (gT 3 (gsCons (gN 2) (gsCons (gN 3) (gsCons (gN 4) gsNil))))
  (mSeq (mAsg (mN opSorted (mCons (mN newL (mCons (m2 opIx (mVar 1) (mVar 2)) (mCons (m2 opIx (mVar 1) (mVar 3)) mNil))) mNil)) (gT 2 (gsCons (gN 5) (gsCons (gN 6) gsNil))))
  (mAsg (mLc (mIt (mVar 1)) (gN 7) tYesM (mIf (mB (m2 opEq (mVar 7) (mVar 6))) (mVar 5) (mVar 7)) [7]) (gN 1))))
 (mRet (mLc (mIt (m1 opSSet (mVar 1))) (gN 7) tYesM (mN opTuple (mCons (mLc (mRng (mCons (m2 opIx (mVar 0) (mC (.int 0))) mNil)) (gN 8) (mB (m2 opEq (m2 opIx (mVar 1) (mVar 8)) (mVar 7))) (mVar 8) [8]) mNil)) [7]))))
def g__law_pieces : DF := fnD 9 1 m__law_pieces
abbrev s__law_odd_by : Stmt := topS 50
def m__law_odd_by : SE :=
 (mSeq (mAsg (mN newL mNil) (gN 2))
 (mSeq (mFor (mIt (mVar 1)) (gN 3)
  (mDrop (mM "list" mfExtend (mVar 2) (mCons (mN opList (mCons (mSl (m2 opIx (m2 opIx (mVar 0) (mC (.int 1))) (mVar 3)) none (some (mC (.int 2)))) mNil)) mNil))))
 (mRet (mN opTuple (mCons (mLc (mRng (mCons (m2 opIx (mVar 0) (mC (.int 0))) mNil)) (gN 4) (mB (m2 opEq (m2 opMod (mN opInt (mCons (mM "list" mfCount (mVar 2) (mCons (mVar 4) mNil)) mNil)) (mC (.int 2))) (mC (.int 1)))) (mVar 4) [4]) mNil)))))
def g__law_odd_by : DF := fnD 5 2 m__law_odd_by
abbrev s__law_odd : Stmt := topS 51
def m__law_odd : SE :=
 (mSeq (mAsg (mN newL (mCons (mC .non) (mCons (mC (.bl true)) (mCons (mC (.bl false)) (mCons (mC (.int 0)) (mCons (mC (.int 1)) (mCons (m1 opNeg (mC (.int 1))) (mCons (mC (.int 7)) (mCons (m2 opPow (mC (.int 10)) (mC (.int 11))) (mCons (mC (.str "")) (mCons (mC (.str "a")) (mCons (mC (.str "places")) (mCons (mN newT mNil) (mCons (mN newT (mCons (mC (.int 0)) mNil)) (mCons (mN newT (mCons (mC .non) mNil)) (mCons (mN newL mNil) (mCons (mN newL (mCons (mC (.int 0)) mNil)) (mCons mDnew (mCons (mDisp (mPair (mC (.str "a")) (mC (.int 1)) mPnil)) (mCons (mN newT (mCons (mN newT (mCons (mC (.int 0)) (mCons (mC (.int 0)) mNil))) mNil)) mNil)))))))))))))))))))) (gN 1))
 (mSeq (mAsg (mN g__law_of (mCons (mVar 0) (mCons (mVar 1) mNil))) (gN 2))
 (mSeq (mFor (mRng (mCons (mN g__law_take (mCons (mVar 0) (mCons (mC (.int 3)) mNil))) mNil)) (gN 3)
  (mAsg (mN g__law_of (mCons (mVar 0) (mCons (mN newL (mCons (mN newT (mCons (mVar 2) mNil)) (mCons (mN newL (mCons (mVar 2) mNil)) (mCons (mDisp (mPair (mC (.str "a")) (mVar 2) mPnil)) (mCons (mN newT (mCons (mVar 2) (mCons (mC (.int 0)) mNil))) (mCons (mN newT (mCons (mC (.int 0)) (mCons (mVar 2) mNil))) mNil)))))) mNil))) (gN 2)))
 (mRet (mVar 2)))))
def g__law_odd : DF := fnD 4 1 m__law_odd
abbrev s__law_bent : Stmt := topS 52
def m__law_bent (g : DF) : SE :=
 (mSeq (mIfS (mAnd (mB (m1 (opIsi "tuple") (mVar 1))) (mAnd (mB (m2 opNe (mVar 1) (mN newT mNil))) (mB (m2 opGt (mN g__law_take (mCons (mVar 0) (mCons (mC (.int 5)) mNil))) (mC (.int 0))))))
  (mSeq (mAsg (mN g__law_take (mCons (mVar 0) (mCons (mN opLen (mCons (mVar 1) mNil)) mNil))) (gN 2))
  (mRet (m2 opAdd (m2 opAdd (mSl (mVar 1) none (some (mVar 2))) (mN newT (mCons (mN g (mCons (mVar 0) (mCons (m2 opIx (mVar 1) (mVar 2)) mNil))) mNil))) (mSl (mVar 1) (some (m2 opAdd (mVar 2) (mC (.int 1)))) none))))
  mNext)
 (mSeq (mIfS (mB (m1 (opIsi "tuple") (mVar 1)))
  (mSeq (mAsg (mN g__law_take (mCons (mVar 0) (mCons (m2 opAdd (mN opLen (mCons (mVar 1) mNil)) (mC (.int 1))) mNil))) (gN 2))
  (mSeq (mAsg (mN newL (mCons (mN opList (mCons (mVar 1) mNil)) (mCons (m2 opAdd (mSl (mVar 1) none (some (mVar 2))) (mSl (mVar 1) (some (m2 opAdd (mVar 2) (mC (.int 1)))) none)) (mCons (m2 opAdd (mVar 1) (mSl (mVar 1) (some (mVar 2)) (some (m2 opAdd (mVar 2) (mC (.int 1)))))) (mCons (mSlS (mVar 1) none none (m1 opNeg (mC (.int 1)))) (mCons (m2 opAdd (m2 opAdd (mSl (mVar 1) none (some (mVar 2))) (mN newT (mCons (mN g__law_odd (mCons (mVar 0) mNil)) mNil))) (mSl (mVar 1) (some (mVar 2)) none)) mNil)))))) (gN 3))
  (mRet (mN g__law_of (mCons (mVar 0) (mCons (mVar 3) mNil))))))
  mNext)
 (mSeq (mIfS (mOr (mB (m1 (opIsi "bool") (mVar 1))) (mNot (mB (m1 (opIsi "int") (mVar 1)))))
  (mRet (mN g__law_odd (mCons (mVar 0) mNil)))
  mNext)
 (mRet (mN g__law_of (mCons (mVar 0) (mCons (mN newL (mCons (m2 opAdd (mVar 1) (mC (.int 1))) (mCons (m2 opSub (mVar 1) (mC (.int 1))) (mCons (m2 opAdd (mVar 1) (mC (.int 2))) (mCons (m1 opNeg (mVar 1)) (mCons (mN opStr (mCons (mVar 1) mNil)) (mCons (mN newT (mCons (mVar 1) mNil)) (mCons (m2 opEq (mVar 1) (mC (.int 1))) (mCons (mC .non) (mCons (mC (.int 29)) (mCons (mC (.int 30)) mNil))))))))))) mNil)))))))
def g__law_bent : Nat → DF
  | 0 => fun _ _ => .bad
  | n + 1 => fnD 4 2 (m__law_bent (g__law_bent n))
abbrev s__law_is_town : Stmt := topS 53
def m__law_is_town : SE :=
 (mSeq (mIfS (mOr (mNot (mB (m1 (opIsi "tuple") (mVar 0)))) (mOr (mB (m2 opNe (mN opLen (mCons (mVar 0) mNil)) (mC (.int 2)))) (mOr (mNot (mB (m1 (opIsi "tuple") (m2 opIx (mVar 0) (mC (.int 1)))))) (mB (m2 opGt (mN opLen (mCons (m2 opIx (mVar 0) (mC (.int 1))) mNil)) (mC (.int 40)))))))
  (mRet (mC (.bl false)))
  mNext)
 (mSeq (mIfS (mOr (mNot (mB (m1 (opIsi "int") (m2 opIx (mVar 0) (mC (.int 0)))))) (mOr (mB (m1 (opIsi "bool") (m2 opIx (mVar 0) (mC (.int 0))))) (mNot (mB (mChn (mC (.int 1)) (lkCons opLe (m2 opIx (mVar 0) (mC (.int 0))) (lkLast opLe (mC (.int 12)))))))))
  (mRet (mC (.bl false)))
  mNext)
 (mSeq (mFor (mIt (m2 opIx (mVar 0) (mC (.int 1)))) (gN 1)
  (mSeq (mIfS (mOr (mNot (mB (m1 (opIsi "tuple") (mVar 1)))) (mOr (mB (m2 opNe (mN opLen (mCons (mVar 1) mNil)) (mC (.int 3)))) (mNot (mB (mN opAll (mCons (mLc (mIt (mVar 1)) (gN 2) tYesM (mAndV (m1 (opIsi "int") (mVar 2)) (mNotV (m1 (opIsi "bool") (mVar 2)))) [2]) mNil))))))
   (mRet (mC (.bl false)))
   mNext)
  (mIfS (mOr (mNot (mB (mChn (mC (.int 0)) (lkCons opLe (m2 opIx (mVar 1) (mC (.int 0))) (lkCons opLt (m2 opIx (mVar 1) (mC (.int 1))) (lkLast opLt (m2 opIx (mVar 0) (mC (.int 0))))))))) (mNot (mB (mChn (mC (.int 1)) (lkCons opLe (m2 opIx (mVar 1) (mC (.int 2))) (lkLast opLe (m2 opPow (mC (.int 10)) (mC (.int 6)))))))))
   (mRet (mC (.bl false)))
   mNext)))
 (mRet (mC (.bl true))))))
def g__law_is_town : DF := fnD 3 1 m__law_is_town
abbrev s__law_right : Stmt := topS 54
def m__law_right : SE :=
 (mSeq (mAsg (mN g__law_town (mCons (mVar 0) (mCons (mVar 1) (mCons (mVar 2) mNil)))) (gN 3))
 (mSeq (mAsg (mN newT (mCons (mN g__law_degrees (mCons (mVar 3) mNil)) (mCons (mLRg (mRg1 (m2 opIx (mVar 3) (mC (.int 0))))) mNil))) (gT 2 (gsCons (gN 12) (gsCons (gN 13) gsNil))))
 (mSeq (mIfS (mB (m2 opNe (mN opRepr (mCons (mN newT (mCons (mN g_degrees (mCons (mVar 3) mNil)) (mCons (mN g_odd (mCons (mVar 3) mNil)) (mCons (mN g_pieces (mCons (mVar 3) mNil)) mNil)))) mNil)) (mN opRepr (mCons (mN newT (mCons (mN opTuple (mCons (mVar 12) mNil)) (mCons (mN opTuple (mCons (mN g__law_odd_ones (mCons (mVar 3) mNil)) mNil)) (mCons (mN opTuple (mCons (mN g__law_pieces (mCons (mVar 3) mNil)) mNil)) mNil)))) mNil))))
  (mRet (mC (.bl false)))
  mNext)
 (mSeq (mIfS (mOr (mB (m2 opNe (mN opSum (mCons (mVar 12) mNil)) (m2 opMul (mC (.int 2)) (mN opLen (mCons (m2 opIx (mVar 3) (mC (.int 1))) mNil))))) (mB (mN opAny (mCons (mLc (mIt (mN g_pieces (mCons (mVar 3) mNil))) (gN 15) tYesM (m2 opEq (m2 opMod (mN opLen (mCons (mLc (mIt (mVar 15)) (gN 18) (mB (m2 opEq (m2 opMod (mN opInt (mCons (m2 opIx (mVar 12) (mVar 18)) mNil)) (mC (.int 2))) (mC (.int 1)))) (mVar 18) [18]) mNil)) (mC (.int 2))) (mC (.int 1))) [15]) mNil))))
  (mRet (mC (.bl false)))
  mNext)
 (mSeq (mAsg (mN g__law_of (mCons (mVar 0) (mCons (mVar 13) mNil))) (gN 4))
 (mSeq (mIfS (mB (m2 opNe (mN opRepr (mCons (mN g_piece_of (mCons (mVar 3) (mCons (mVar 4) mNil))) mNil)) (mN opRepr (mCons (m2 opIx (mLc (mIt (mN g__law_pieces (mCons (mVar 3) mNil))) (gN 15) (mB (m2 (opIn id) (mVar 4) (mVar 15))) (mVar 15) [15]) (mC (.int 0))) mNil))))
  (mRet (mC (.bl false)))
  mNext)
 (mSeq (mIfS (mB (m2 opNe (mN opRepr (mCons (mN g_streets_at (mCons (mVar 3) (mCons (mVar 4) mNil))) mNil)) (mN opRepr (mCons (mN opTuple (mCons (mLc (mEnum (m2 opIx (mVar 3) (mC (.int 1)))) (gT 2 (gsCons (gN 16) (gsCons (gN 17) gsNil))) (mB (m2 (opIn id) (mVar 4) (mSl (mVar 17) none (some (mC (.int 2)))))) (mVar 16) [16, 17]) mNil)) mNil))))
  (mRet (mC (.bl false)))
  mNext)
 (mSeq (mAsg (mN opTuple (mCons (mN opSorted (mCons (mN g__law_some (mCons (mVar 0) (mCons (mVar 13) (mCons (mN g__law_take (mCons (mVar 0) (mCons (m2 opAdd (mN opLen (mCons (mVar 13) mNil)) (mC (.int 1))) mNil))) mNil)))) mNil)) mNil)) (gN 5))
 (mSeq (mAsg (mN opTuple (mCons (mLc (mEnum (m2 opIx (mVar 3) (mC (.int 1)))) (gT 2 (gsCons (gN 16) (gsCons (gN 17) gsNil))) (mB (m2 opEq (mN opLen (mCons (mLc (mIt (mSl (mVar 17) none (some (mC (.int 2))))) (gN 18) (mB (m2 (opIn id) (mVar 18) (mVar 5))) (mVar 18) [18]) mNil)) (mC (.int 1)))) (mVar 16) [16, 17]) mNil)) (gN 6))
 (mSeq (mAsg (mN opTuple (mCons (mLc (mEnum (m2 opIx (mVar 3) (mC (.int 1)))) (gT 2 (gsCons (gN 16) (gsCons (gN 17) gsNil))) (mB (m2 opEq (mN opLen (mCons (mLc (mIt (mSl (mVar 17) none (some (mC (.int 2))))) (gN 18) (mB (m2 (opIn id) (mVar 18) (mVar 5))) (mVar 18) [18]) mNil)) (mC (.int 2)))) (mVar 16) [16, 17]) mNil)) (gN 7))
 (mSeq (mIfS (mB (m2 opNe (mN opRepr (mCons (mN newT (mCons (mN g_across (mCons (mVar 3) (mCons (mVar 5) mNil))) (mCons (mN g_inside (mCons (mVar 3) (mCons (mVar 5) mNil))) mNil))) mNil)) (mN opRepr (mCons (mN newT (mCons (mVar 6) (mCons (mVar 7) mNil))) mNil))))
  (mRet (mC (.bl false)))
  mNext)
 (mSeq (mIfS (mB (m2 opNe (m2 opMod (mN opInt (mCons (m2 opSub (mN opLen (mCons (mVar 6) mNil)) (mN opLen (mCons (mLc (mIt (mVar 5)) (gN 18) (mB (m2 opEq (m2 opMod (mN opInt (mCons (m2 opIx (mVar 12) (mVar 18)) mNil)) (mC (.int 2))) (mC (.int 1)))) (mVar 18) [18]) mNil))) mNil)) (mC (.int 2))) (mC (.int 0))))
  (mRet (mC (.bl false)))
  mNext)
 (mSeq (mAsg (mLRg (mRg1 (mN opLen (mCons (m2 opIx (mVar 3) (mC (.int 1))) mNil)))) (gN 8))
 (mSeq (mAsg (mN opTuple (mCons (mN opSorted (mCons (mN g__law_some (mCons (mVar 0) (mCons (mVar 8) (mCons (mN g__law_take (mCons (mVar 0) (mCons (m2 opAdd (mN opLen (mCons (mVar 8) mNil)) (mC (.int 1))) mNil))) mNil)))) mNil)) mNil)) (gN 9))
 (mSeq (mIfS (mB (m2 opNe (mN opRepr (mCons (mN g_part (mCons (mVar 3) (mCons (mVar 9) mNil))) mNil)) (mN opRepr (mCons (mN newT (mCons (m2 opIx (mVar 3) (mC (.int 0))) (mCons (mN opTuple (mCons (mLc (mIt (mVar 9)) (gN 16) tYesM (m2 opIx (m2 opIx (mVar 3) (mC (.int 1))) (mVar 16)) [16]) mNil)) mNil))) mNil))))
  (mRet (mC (.bl false)))
  mNext)
 (mSeq (mIfS (mOr (mB (m2 opNe (mN opRepr (mCons (mN g_odd_by (mCons (mVar 3) (mCons (mVar 9) mNil))) mNil)) (mN opRepr (mCons (mN g__law_odd_by (mCons (mVar 3) (mCons (mVar 9) mNil))) mNil)))) (mB (m2 opNe (mN g_odd_by (mCons (mVar 3) (mCons (mN opTuple (mCons (mVar 8) mNil)) mNil))) (mN g_odd (mCons (mVar 3) mNil)))))
  (mRet (mC (.bl false)))
  mNext)
 (mSeq (mAsg (mN newL (mCons (mVar 3) (mCons (mN opList (mCons (mVar 3) mNil)) (mCons (mN newT (mCons (m2 opIx (mVar 3) (mC (.int 0))) (mCons (mN opList (mCons (m2 opIx (mVar 3) (mC (.int 1))) mNil)) mNil))) (mCons (mN newT (mCons (mC (.int 0)) (mCons (mN newT mNil) mNil))) (mCons (mN newT (mCons (mC (.int 13)) (mCons (mN newT mNil) mNil))) (mCons (mN newT (mCons (mC (.int 12)) (mCons (mN newT mNil) mNil))) (mCons (mN newT (mCons (mC (.int 2)) (mCons (m2 opMul (mN newT (mCons (mN newT (mCons (mC (.int 0)) (mCons (mC (.int 1)) (mCons (mC (.int 1)) mNil)))) mNil)) (mC (.int 40))) mNil))) (mCons (mN newT (mCons (mC (.int 2)) (mCons (m2 opMul (mN newT (mCons (mN newT (mCons (mC (.int 0)) (mCons (mC (.int 1)) (mCons (mC (.int 1)) mNil)))) mNil)) (mC (.int 41))) mNil))) (mCons (mC .non) mNil)))))))))) (gN 10))
 (mSeq (mDrop (mM "list" mfExtend (mVar 10) (mCons (mN newL (mCons (mN newT (mCons (mC (.int 3)) (mCons (mN newT (mCons (mN newT (mCons (mC (.int 1)) (mCons (mC (.int 0)) (mCons (mC (.int 1)) mNil)))) mNil)) mNil))) (mCons (mN newT (mCons (mC (.int 3)) (mCons (mN newT (mCons (mN newT (mCons (mC (.int 1)) (mCons (mC (.int 1)) (mCons (mC (.int 1)) mNil)))) mNil)) mNil))) (mCons (mN newT (mCons (mC (.int 3)) (mCons (mN newT (mCons (mN newT (mCons (mC (.int 0)) (mCons (mC (.int 3)) (mCons (mC (.int 1)) mNil)))) mNil)) mNil))) (mCons (mN newT (mCons (mC (.int 3)) (mCons (mN newT (mCons (mN newT (mCons (mC (.int 0)) (mCons (mC (.int 1)) (mCons (mC (.int 0)) mNil)))) mNil)) mNil))) (mCons (mN newT (mCons (mC (.int 3)) (mCons (mN newT (mCons (mN newT (mCons (mC (.int 0)) (mCons (mC (.int 1)) (mCons (m2 opPow (mC (.int 10)) (mC (.int 6))) mNil)))) mNil)) mNil))) (mCons (mN newT (mCons (mC (.int 3)) (mCons (mN newT (mCons (mN newT (mCons (mC (.int 0)) (mCons (mC (.int 1)) (mCons (m2 opAdd (m2 opPow (mC (.int 10)) (mC (.int 6))) (mC (.int 1))) mNil)))) mNil)) mNil))) (mCons (mN g__law_odd (mCons (mVar 0) mNil)) mNil)))))))) mNil)))
 (mSeq (mFor (mIt (m2 opAdd (mVar 10) (mLc (mRng (mCons (mC (.int 6)) mNil)) (gN 14) tYesM (mN (g__law_bent 8) (mCons (mVar 0) (mCons (mVar 3) mNil))) [14]))) (gN 11)
  (mIfS (mB (m2 opNe (mN opRepr (mCons (mN g_is_town (mCons (mVar 11) mNil)) mNil)) (mN opRepr (mCons (mN g__law_is_town (mCons (mVar 11) mNil)) mNil))))
   (mRet (mC (.bl false)))
   mNext))
 (mRet (mC (.bl true))))))))))))))))))))))
def g__law_right : DF := fnD 19 3 m__law_right
abbrev s_law : Stmt := topS 55
def m_law : SE :=
 (mSeq (mFor (mIt (mN g__law_cells (mCons (mVar 0) (mCons (mC (.int 3)) mNil)))) (gN 1)
  (mSeq (mAsg (mN g__law_pot (mCons (mVar 0) (mCons (mVar 1) mNil))) (gN 2))
  (mIfS (mOr (mNot (mB (mN opAll (mCons (mLc (mRng (mCons (mC (.int 3)) mNil)) (gN 3) tYesM (mN g__law_right (mCons (mVar 2) (mCons (mC (.int 8)) (mCons (mC (.int 14)) mNil)))) [3]) mNil)))) (mNot (mB (mN g__law_right (mCons (mVar 2) (mCons (mC (.int 12)) (mCons (mC (.int 40)) mNil)))))))
   (mRet (mC (.bl false)))
   mNext)))
 (mRet (mC (.bl true))))
def g_law : DF := fnD 4 1 m_law
structure Top (K : PySem.W.Frag) (mg : Str → Option Value) : Prop where
  d__law_pot : DefAt K mg "_law_pot" s__law_pot ["script", "place"]
  d__law_cells : DefAt K mg "_law_cells" s__law_cells ["script", "limit"]
  d_is_integer : DefAt K mg "is_integer" s_is_integer ["value"]
  d_is_between : DefAt K mg "is_between" s_is_between ["value", "low", "high"]
  d_is_street : DefAt K mg "is_street" s_is_street ["value", "corners"]
  d_is_town : DefAt K mg "is_town" s_is_town ["value"]
  d_check_town : DefAt K mg "check_town" s_check_town ["value"]
  d_degrees_of : DefAt K mg "degrees_of" s_degrees_of ["town"]
  d_degrees : DefAt K mg "degrees" s_degrees ["town"]
  d_odd_of : DefAt K mg "odd_of" s_odd_of ["town"]
  d_odd : DefAt K mg "odd" s_odd ["town"]
  d_hanging : DefAt K mg "hanging" s_hanging ["town", "corner"]
  d_pieces_of : DefAt K mg "pieces_of" s_pieces_of ["town"]
  d_pieces : DefAt K mg "pieces" s_pieces ["town"]
  d_check_corner : DefAt K mg "check_corner" s_check_corner ["town", "corner"]
  d_piece_of : DefAt K mg "piece_of" s_piece_of ["town", "corner"]
  d_at_corner : DefAt K mg "at_corner" s_at_corner ["town", "corner"]
  d_streets_at : DefAt K mg "streets_at" s_streets_at ["town", "corner"]
  d_are_between : DefAt K mg "are_between" s_are_between ["value", "low", "high"]
  d_is_ascending : DefAt K mg "is_ascending" s_is_ascending ["items"]
  d_is_lot : DefAt K mg "is_lot" s_is_lot ["town", "value"]
  d_check_lot : DefAt K mg "check_lot" s_check_lot ["town", "lot"]
  d_crossing : DefAt K mg "crossing" s_crossing ["town", "lot"]
  d_across : DefAt K mg "across" s_across ["town", "lot"]
  d_inside : DefAt K mg "inside" s_inside ["town", "lot"]
  d_is_bunch : DefAt K mg "is_bunch" s_is_bunch ["town", "value"]
  d_check_bunch : DefAt K mg "check_bunch" s_check_bunch ["town", "bunch"]
  d_part_of : DefAt K mg "part_of" s_part_of ["town", "bunch"]
  d_part : DefAt K mg "part" s_part ["town", "bunch"]
  d_odd_by : DefAt K mg "odd_by" s_odd_by ["town", "bunch"]
  d__law_take : DefAt K mg "_law_take" s__law_take ["pot", "upto"]
  d__law_of : DefAt K mg "_law_of" s__law_of ["pot", "some"]
  d__law_some : DefAt K mg "_law_some" s__law_some ["pot", "pool", "width"]
  d__law_town : DefAt K mg "_law_town" s__law_town ["pot", "most", "streets"]
  d__law_degrees : DefAt K mg "_law_degrees" s__law_degrees ["town"]
  d__law_odd_ones : DefAt K mg "_law_odd_ones" s__law_odd_ones ["town"]
  d__law_pieces : DefAt K mg "_law_pieces" s__law_pieces ["town"]
  d__law_odd_by : DefAt K mg "_law_odd_by" s__law_odd_by ["town", "bunch"]
  d__law_odd : DefAt K mg "_law_odd" s__law_odd ["pot"]
  d__law_bent : DefAt K mg "_law_bent" s__law_bent ["pot", "value"]
  d__law_is_town : DefAt K mg "_law_is_town" s__law_is_town ["value"]
  d__law_right : DefAt K mg "_law_right" s__law_right ["pot", "most", "streets"]
  d_law : DefAt K mg "law" s_law ["script"]
  z_abs : mg "abs" = none
  z_all : mg "all" = none
  z_any : mg "any" = none
  z_bool : mg "bool" = none
  z_enumerate : mg "enumerate" = none
  z_int : mg "int" = none
  z_isinstance : mg "isinstance" = none
  z_len : mg "len" = none
  z_list : mg "list" = none
  z_max : mg "max" = none
  z_min : mg "min" = none
  z_range : mg "range" = none
  z_repr : mg "repr" = none
  z_set : mg "set" = none
  z_sorted : mg "sorted" = none
  z_str : mg "str" = none
  z_sum : mg "sum" = none
  z_tuple : mg "tuple" = none
  z_zip : mg "zip" = none
  c_MOST_CORNERS : ∃ t, mg "MOST_CORNERS" = some (.int 12 t)
  c_MOST_LENGTH : ∃ t, mg "MOST_LENGTH" = some (.int 1000000 t)
  c_MOST_STREETS : ∃ t, mg "MOST_STREETS" = some (.int 40 t)
  c_THREE : ∃ t, mg "THREE" = some (.int 3 t)
section
variable {P : Program} {w : World} {K : PySem.W.Frag} {mg : Str → Option Value} {base : Heap}
theorem sc__law_pot : FnScope ["script", "place", "cell", "own", "small"] ["script", "place"] (defScope s__law_pot) := ⟨rfl, rfl, rfl, by decide +kernel, rfl, by decide +kernel, by decide +kernel⟩
theorem fn__law_pot (T : Top K mg) {f : Addr} {fd : FuncData} (F : Fun K "_law_pot" "_law_pot" s__law_pot f fd) : FnG P w K mg base 1 f fd ["script", "place"] g__law_pot := FnG.of (k := 0) F sc__law_pot rfl rfl fun cdv B out t H rm => by
  have nd := sc__law_pot.nd
  exact
 (r_scons (r_set (i := 2) nd (r_if (r_tcmp op_lt (v_i2 _) (r_var 1) (r_callB c_len v_len T.z_len PySem.boot_len (r_cons (r_var 0) r_nil))) (r_ix rm (r_var 0) (r_var 1)) (r_op o_add v_add (r_op o_mul v_mul r_int (r_var 1)) r_int)))
 (r_scons (r_set (i := 3) nd (r_op o_mul v_mul (r_op op_mod v_mod (r_callT call_int1 v_int T.z_int PyProof.Rows.boot_int (r_cons (r_callB call_abs v_abs T.z_abs boot_abs (r_cons (r_var 2) r_nil)) r_nil)) (r_op op_powA v_pow (r_op op_powA v_pow r_int r_int) r_int)) (r_callT call_int1 v_int T.z_int PyProof.Rows.boot_int (r_cons (r_cmp op_ge (v_i2 _) (r_callB call_abs v_abs T.z_abs boot_abs (r_cons (r_var 2) r_nil)) (r_op op_powA v_pow r_int r_int)) r_nil))))
 (r_scons (r_set (i := 4) nd (r_op op_mod v_mod (r_callT call_int1 v_int T.z_int PyProof.Rows.boot_int (r_cons (r_var 2) r_nil)) r_int))
 (r_sone (r_ret (r_lst (r_cons (r_var 3) (r_cons (r_op op_mod v_mod (r_callT call_int1 v_int T.z_int PyProof.Rows.boot_int (r_cons (r_op o_add v_add (r_op o_add v_add (r_op o_mul v_mul (r_var 4) r_int) (r_op o_mul v_mul (r_op o_mul v_mul r_int (r_var 1)) (r_var 1))) r_int) r_nil)) r_int) (r_cons r_int r_nil)))))))))
theorem cl__law_pot (T : Top K mg) : Cl P w K mg base 1 "_law_pot" ["script", "place"] g__law_pot := Cl.of T.d__law_pot fun f fd F => fn__law_pot T F
theorem sc__law_cells : FnScope ["script", "limit"] ["script", "limit"] (defScope s__law_cells) := ⟨rfl, rfl, rfl, by decide +kernel, rfl, by decide +kernel, by decide +kernel⟩
theorem fn__law_cells (T : Top K mg) {f : Addr} {fd : FuncData} (F : Fun K "_law_cells" "_law_cells" s__law_cells f fd) : FnG P w K mg base 1 f fd ["script", "limit"] g__law_cells := FnG.of (k := 0) F sc__law_cells rfl rfl fun cdv B out t H rm => by
  have nd := sc__law_cells.nd
  exact
 (r_sone (r_ret (r_lrg rfl T.z_list (r_rg1 T.z_range (r_callB (c_max rfl) v_max T.z_max boot_max (r_cons r_int (r_cons (r_callB (c_min rfl) v_min T.z_min boot_min (r_cons (r_var 1) (r_cons (r_callB c_len v_len T.z_len PySem.boot_len (r_cons (r_var 0) r_nil)) r_nil))) r_nil)))))))
theorem cl__law_cells (T : Top K mg) : Cl P w K mg base 1 "_law_cells" ["script", "limit"] g__law_cells := Cl.of T.d__law_cells fun f fd F => fn__law_cells T F
theorem sc_is_integer : FnScope ["value"] ["value"] (defScope s_is_integer) := ⟨rfl, rfl, rfl, by decide +kernel, rfl, by decide +kernel, by decide +kernel⟩
theorem fn_is_integer (T : Top K mg) {f : Addr} {fd : FuncData} (F : Fun K "is_integer" "is_integer" s_is_integer f fd) : FnG P w K mg base 1 f fd ["value"] g_is_integer := FnG.of (k := 0) F sc_is_integer rfl rfl fun cdv B out t H rm => by
  have nd := sc_is_integer.nd
  exact
 (r_sone (r_ret (r_and (r_isi "int" (by decide) T.z_isinstance T.z_int PyProof.Rows.boot_int (r_var 0)) (r_one (r_not (r_isi "bool" (by decide) T.z_isinstance T.z_bool PyProof.Rows.boot_bool (r_var 0)))))))
theorem cl_is_integer (T : Top K mg) : Cl P w K mg base 1 "is_integer" ["value"] g_is_integer := Cl.of T.d_is_integer fun f fd F => fn_is_integer T F
theorem sc_is_between : FnScope ["value", "low", "high"] ["value", "low", "high"] (defScope s_is_between) := ⟨rfl, rfl, rfl, by decide +kernel, rfl, by decide +kernel, by decide +kernel⟩
theorem fn_is_between (T : Top K mg) {f : Addr} {fd : FuncData} (F : Fun K "is_between" "is_between" s_is_between f fd) : FnG P w K mg base 2 f fd ["value", "low", "high"] g_is_between := FnG.of (k := 1) F sc_is_between rfl rfl fun cdv B out t H rm => by
  have nd := sc_is_between.nd
  exact
 (r_sone (r_ret (r_and (r_cl (cl_is_integer T) rm (r_cons (r_var 0) r_nil)) (r_one (r_chn (r_var 1) (r_lkCons op_le (v_i2 _) (r_var 0) (r_lkLast op_le (v_i2 _) (r_var 2))))))))
theorem cl_is_between (T : Top K mg) : Cl P w K mg base 2 "is_between" ["value", "low", "high"] g_is_between := Cl.of T.d_is_between fun f fd F => fn_is_between T F
theorem sc_is_street : FnScope ["value", "corners"] ["value", "corners"] (defScope s_is_street) := ⟨rfl, rfl, rfl, by decide +kernel, rfl, by decide +kernel, by decide +kernel⟩
theorem fn_is_street (T : Top K mg) {f : Addr} {fd : FuncData} (F : Fun K "is_street" "is_street" s_is_street f fd) : FnG P w K mg base 3 f fd ["value", "corners"] g_is_street := FnG.of (k := 2) F sc_is_street rfl rfl fun cdv B out t H rm => by
  have nd := sc_is_street.nd
  exact
 (r_scons (r_sif (r_tbool (r_wor (r_tnot (r_tval (r_isi "tuple" (by decide) T.z_isinstance T.z_tuple PyProof.Rows.boot_tuple (r_var 0)))) (r_wor (r_tcmp (o_ne rm) v_ne (r_callB c_len v_len T.z_len PySem.boot_len (r_cons (r_var 0) r_nil)) (r_globI T.c_THREE)) (r_wor1 (r_tnot (r_tval (r_cl (cl_is_between T) rm (r_cons (r_ix rm (r_var 0) r_int) (r_cons r_int (r_cons (r_op op_sub v_sub (r_var 1) r_int) r_nil))))))))))
  (r_sone (r_ret r_bl))
  r_snil)
 (r_sone (r_ret (r_and (r_cl (cl_is_between T) rm (r_cons (r_ix rm (r_var 0) r_int) (r_cons (r_op o_add v_add (r_ix rm (r_var 0) r_int) r_int) (r_cons (r_op op_sub v_sub (r_var 1) r_int) r_nil)))) (r_one (r_cl (cl_is_between T) rm (r_cons (r_ix rm (r_var 0) r_int) (r_cons r_int (r_cons (r_globI T.c_MOST_LENGTH) r_nil)))))))))
theorem cl_is_street (T : Top K mg) : Cl P w K mg base 3 "is_street" ["value", "corners"] g_is_street := Cl.of T.d_is_street fun f fd F => fn_is_street T F
theorem sc_is_town : FnScope ["value", "street"] ["value"] (defScope s_is_town) := ⟨rfl, rfl, rfl, by decide +kernel, rfl, by decide +kernel, by decide +kernel⟩
theorem fn_is_town (T : Top K mg) {f : Addr} {fd : FuncData} (F : Fun K "is_town" "is_town" s_is_town f fd) : FnG P w K mg base 4 f fd ["value"] g_is_town := FnG.of (k := 3) F sc_is_town rfl rfl fun cdv B out t H rm => by
  have nd := sc_is_town.nd
  exact
 (r_scons (r_sif (r_tbool (r_wor (r_tnot (r_tval (r_isi "tuple" (by decide) T.z_isinstance T.z_tuple PyProof.Rows.boot_tuple (r_var 0)))) (r_wor (r_tcmp (o_ne rm) v_ne (r_callB c_len v_len T.z_len PySem.boot_len (r_cons (r_var 0) r_nil)) r_int) (r_wor1 (r_tnot (r_tval (r_cl (cl_is_between T) rm (r_cons (r_ix rm (r_var 0) r_int) (r_cons r_int (r_cons (r_globI T.c_MOST_CORNERS) r_nil))))))))))
  (r_sone (r_ret r_bl))
  r_snil)
 (r_scons (r_sif (r_tbool (r_wor (r_tnot (r_tval (r_isi "tuple" (by decide) T.z_isinstance T.z_tuple PyProof.Rows.boot_tuple (r_ix rm (r_var 0) r_int)))) (r_wor1 (r_tcmp op_gt (v_i2 _) (r_callB c_len v_len T.z_len PySem.boot_len (r_cons (r_ix rm (r_var 0) r_int) r_nil)) (r_globI T.c_MOST_STREETS)))))
  (r_sone (r_ret r_bl))
  r_snil)
 (r_sone (r_ret (r_callB (cr_all rfl) v_all T.z_all boot_all (r_cons (r_lc (own := [("street", 1)]) (ws := [1]) rfl nd (r_it (r_ix rm (r_var 0) r_int)) (blkOk_by (by rfl)) rfl (by decide) (fun _ _ _ _ _ => (r_gname 1 nd)) (fun _ _ _ _ _ => r_tsnil) (fun _ _ _ _ _ => (r_cl (cl_is_street T) rm (r_cons (r_var 1) (r_cons (r_ix rm (r_var 0) r_int) r_nil))))) r_nil))))))
theorem cl_is_town (T : Top K mg) : Cl P w K mg base 4 "is_town" ["value"] g_is_town := Cl.of T.d_is_town fun f fd F => fn_is_town T F
theorem sc_check_town : FnScope ["value"] ["value"] (defScope s_check_town) := ⟨rfl, rfl, rfl, by decide +kernel, rfl, by decide +kernel, by decide +kernel⟩
theorem fn_check_town (T : Top K mg) {f : Addr} {fd : FuncData} (F : Fun K "check_town" "check_town" s_check_town f fd) : FnG P w K mg base 5 f fd ["value"] g_check_town := FnG.of (k := 4) F sc_check_town rfl rfl fun cdv B out t H rm => by
  have nd := sc_check_town.nd
  exact
 (r_sone (r_sif (r_tnot (r_tval (r_cl (cl_is_town T) rm (r_cons (r_var 0) r_nil))))
  (r_sone r_never)
  r_snil))
theorem cl_check_town (T : Top K mg) : Cl P w K mg base 5 "check_town" ["value"] g_check_town := Cl.of T.d_check_town fun f fd F => fn_check_town T F
theorem sc_degrees_of : FnScope ["town", "found", "one", "other", "length"] ["town"] (defScope s_degrees_of) := ⟨rfl, rfl, rfl, by decide +kernel, rfl, by decide +kernel, by decide +kernel⟩
theorem fn_degrees_of (T : Top K mg) {f : Addr} {fd : FuncData} (F : Fun K "degrees_of" "degrees_of" s_degrees_of f fd) : FnG P w K mg base 1 f fd ["town"] g_degrees_of := FnG.of (k := 0) F sc_degrees_of rfl rfl fun cdv B out t H rm => by
  have nd := sc_degrees_of.nd
  exact
 (r_scons (r_set (i := 1) nd (r_op o_mul v_mul (r_lst (r_cons r_int r_nil)) (r_ix rm (r_var 0) r_int)))
 (r_scons (r_for (ws := [2, 3, 4]) PassesOwn.never rfl (r_it (r_ix rm (r_var 0) r_int)) (r_gtup rfl (r_gcons (r_gname 2 nd) (r_gcons (r_gname 3 nd) (r_gcons (r_gname 4 nd) r_gnil))))
  (r_sone (r_asg (ws := []) (r_tup (r_cons (r_op o_add v_add (r_ix rm (r_var 1) (r_var 2)) r_int) (r_cons (r_op o_add v_add (r_ix rm (r_var 1) (r_var 3)) r_int) r_nil))) (r_gtup rfl (r_gcons (r_gsub rm (r_var 1) (r_var 2)) (r_gcons (r_gsub rm (r_var 1) (r_var 3)) r_gnil))))))
 (r_sone (r_ret (r_var 1)))))
theorem cl_degrees_of (T : Top K mg) : Cl P w K mg base 1 "degrees_of" ["town"] g_degrees_of := Cl.of T.d_degrees_of fun f fd F => fn_degrees_of T F
theorem sc_degrees : FnScope ["town"] ["town"] (defScope s_degrees) := ⟨rfl, rfl, rfl, by decide +kernel, rfl, by decide +kernel, by decide +kernel⟩
theorem fn_degrees (T : Top K mg) {f : Addr} {fd : FuncData} (F : Fun K "degrees" "degrees" s_degrees f fd) : FnG P w K mg base 6 f fd ["town"] g_degrees := FnG.of (k := 5) F sc_degrees rfl rfl fun cdv B out t H rm => by
  have nd := sc_degrees.nd
  exact
 (r_scons (r_expr (r_cl (cl_check_town T) rm (r_cons (r_var 0) r_nil)))
 (r_sone (r_ret (r_callT call_tuple_of v_tuple T.z_tuple PyProof.Rows.boot_tuple (r_cons (r_cl (cl_degrees_of T) rm (r_cons (r_var 0) r_nil)) r_nil)))))
theorem cl_degrees (T : Top K mg) : Cl P w K mg base 6 "degrees" ["town"] g_degrees := Cl.of T.d_degrees fun f fd F => fn_degrees T F
theorem sc_odd_of : FnScope ["town", "corner", "many"] ["town"] (defScope s_odd_of) := ⟨rfl, rfl, rfl, by decide +kernel, rfl, by decide +kernel, by decide +kernel⟩
theorem fn_odd_of (T : Top K mg) {f : Addr} {fd : FuncData} (F : Fun K "odd_of" "odd_of" s_odd_of f fd) : FnG P w K mg base 2 f fd ["town"] g_odd_of := FnG.of (k := 1) F sc_odd_of rfl rfl fun cdv B out t H rm => by
  have nd := sc_odd_of.nd
  exact
 (r_sone (r_ret (r_callT call_tuple_of v_tuple T.z_tuple PyProof.Rows.boot_tuple (r_cons (r_lc (own := [("corner", 1), ("many", 2)]) (ws := [1, 2]) rfl nd (r_enum (r_cl (cl_degrees_of T) rm (r_cons (r_var 0) r_nil)) T.z_enumerate) (blkOk_by (by rfl)) rfl (by decide) (fun _ _ _ _ _ => (r_gtup rfl (r_gcons (r_gname 1 nd) (r_gcons (r_gname 2 nd) r_gnil)))) (fun _ _ _ _ _ => (r_tsone (r_tcmp (o_eq rm) v_eq (r_op op_mod v_mod (r_var 2) r_int) r_int))) (fun _ _ _ _ _ => (r_var 1))) r_nil))))
theorem cl_odd_of (T : Top K mg) : Cl P w K mg base 2 "odd_of" ["town"] g_odd_of := Cl.of T.d_odd_of fun f fd F => fn_odd_of T F
theorem sc_odd : FnScope ["town"] ["town"] (defScope s_odd) := ⟨rfl, rfl, rfl, by decide +kernel, rfl, by decide +kernel, by decide +kernel⟩
theorem fn_odd (T : Top K mg) {f : Addr} {fd : FuncData} (F : Fun K "odd" "odd" s_odd f fd) : FnG P w K mg base 6 f fd ["town"] g_odd := FnG.of (k := 5) F sc_odd rfl rfl fun cdv B out t H rm => by
  have nd := sc_odd.nd
  exact
 (r_scons (r_expr (r_cl (cl_check_town T) rm (r_cons (r_var 0) r_nil)))
 (r_sone (r_ret (r_cl (cl_odd_of T) rm (r_cons (r_var 0) r_nil)))))
theorem cl_odd (T : Top K mg) : Cl P w K mg base 6 "odd" ["town"] g_odd := Cl.of T.d_odd fun f fd F => fn_odd T F
theorem sc_hanging : FnScope ["town", "corner", "known", "waiting", "here", "one", "other", "length", "there"] ["town", "corner"] (defScope s_hanging) := ⟨rfl, rfl, rfl, by decide +kernel, rfl, by decide +kernel, by decide +kernel⟩
theorem fn_hanging (T : Top K mg) {f : Addr} {fd : FuncData} (F : Fun K "hanging" "hanging" s_hanging f fd) : FnG P w K mg base 1 f fd ["town", "corner"] g_hanging := FnG.of (k := 0) F sc_hanging rfl rfl fun cdv B out t H rm => by
  have nd := sc_hanging.nd
  exact
 (r_scons (r_par2 2 3 rfl nd (r_cons (r_disp (r_pcons (r_var 1) r_bl r_pnil)) (r_cons (r_lst (r_cons (r_var 1) r_nil)) r_nil)))
 (r_scons (r_while 100000 PassesOwn.never (r_tcmp (o_ne rm) v_ne (r_var 3) (r_lst r_nil))
  (r_scons (r_set (i := 4) nd (r_pop0 (r_var 3)))
  (r_sone (r_for (ws := [5, 6, 7]) PassesOwn.never rfl (r_it (r_ix rm (r_var 0) r_int)) (r_gtup rfl (r_gcons (r_gname 5 nd) (r_gcons (r_gname 6 nd) (r_gcons (r_gname 7 nd) r_gnil))))
   (r_sone (r_sif (r_tcmp (o_in rm) (v_in _) (r_var 4) (r_tup (r_cons (r_var 5) (r_cons (r_var 6) r_nil))))
    (r_scons (r_set (i := 8) nd (r_if (r_tcmp (o_eq rm) v_eq (r_var 4) (r_var 5)) (r_var 6) (r_var 5)))
    (r_sone (r_sif (r_tcmp (o_notin rm) (v_in _) (r_var 8) (r_var 2))
     (r_scons (r_asg (ws := []) r_bl (r_gsub rm (r_var 2) (r_var 8)))
     (r_sone (r_expr (r_append (r_var 3) (r_cons (r_var 8) r_nil)))))
     r_snil)))
    r_snil))))))
 (r_sone (r_ret (r_callT call_tuple_of v_tuple T.z_tuple PyProof.Rows.boot_tuple (r_cons (r_callB (c_sorted rfl) v_sorted T.z_sorted boot_sorted (r_cons (r_var 2) r_nil)) r_nil))))))
theorem cl_hanging (T : Top K mg) : Cl P w K mg base 1 "hanging" ["town", "corner"] g_hanging := Cl.of T.d_hanging fun f fd F => fn_hanging T F
theorem sc_pieces_of : FnScope ["town", "corner", "found", "known", "one"] ["town"] (defScope s_pieces_of) := ⟨rfl, rfl, rfl, by decide +kernel, rfl, by decide +kernel, by decide +kernel⟩
theorem fn_pieces_of (T : Top K mg) {f : Addr} {fd : FuncData} (F : Fun K "pieces_of" "pieces_of" s_pieces_of f fd) : FnG P w K mg base 2 f fd ["town"] g_pieces_of := FnG.of (k := 1) F sc_pieces_of rfl rfl fun cdv B out t H rm => by
  have nd := sc_pieces_of.nd
  exact
 (r_scons (r_par2 2 3 rfl nd (r_cons (r_lst r_nil) (r_cons r_dnew r_nil)))
 (r_scons (r_for (ws := [1]) PassesOwn.never rfl (r_range1 (r_ix rm (r_var 0) r_int) T.z_range) (r_gname 1 nd)
  (r_sone (r_sif (r_tcmp (o_notin rm) (v_in _) (r_var 1) (r_var 3))
   (r_scons (r_expr (r_append (r_var 2) (r_cons (r_cl (cl_hanging T) rm (r_cons (r_var 0) (r_cons (r_var 1) r_nil))) r_nil)))
   (r_sone (r_expr (r_update (r_var 3) (r_cons (r_dc (own := [("one", 4)]) (ws := [4]) rfl nd (r_it (r_ix rm (r_var 2) (r_un un_neg v_neg r_int))) (blkOk_by (by rfl)) rfl (by decide) (fun _ _ _ _ _ => (r_gname 4 nd)) (fun _ _ _ _ _ => r_tsnil) (fun _ _ _ _ _ => (r_var 4)) (fun _ _ _ _ _ => r_bl)) r_nil)))))
   r_snil)))
 (r_sone (r_ret (r_var 2)))))
theorem cl_pieces_of (T : Top K mg) : Cl P w K mg base 2 "pieces_of" ["town"] g_pieces_of := Cl.of T.d_pieces_of fun f fd F => fn_pieces_of T F
theorem sc_pieces : FnScope ["town"] ["town"] (defScope s_pieces) := ⟨rfl, rfl, rfl, by decide +kernel, rfl, by decide +kernel, by decide +kernel⟩
theorem fn_pieces (T : Top K mg) {f : Addr} {fd : FuncData} (F : Fun K "pieces" "pieces" s_pieces f fd) : FnG P w K mg base 6 f fd ["town"] g_pieces := FnG.of (k := 5) F sc_pieces rfl rfl fun cdv B out t H rm => by
  have nd := sc_pieces.nd
  exact
 (r_scons (r_expr (r_cl (cl_check_town T) rm (r_cons (r_var 0) r_nil)))
 (r_sone (r_ret (r_callT call_tuple_of v_tuple T.z_tuple PyProof.Rows.boot_tuple (r_cons (r_cl (cl_pieces_of T) rm (r_cons (r_var 0) r_nil)) r_nil)))))
theorem cl_pieces (T : Top K mg) : Cl P w K mg base 6 "pieces" ["town"] g_pieces := Cl.of T.d_pieces fun f fd F => fn_pieces T F
theorem sc_check_corner : FnScope ["town", "corner"] ["town", "corner"] (defScope s_check_corner) := ⟨rfl, rfl, rfl, by decide +kernel, rfl, by decide +kernel, by decide +kernel⟩
theorem fn_check_corner (T : Top K mg) {f : Addr} {fd : FuncData} (F : Fun K "check_corner" "check_corner" s_check_corner f fd) : FnG P w K mg base 3 f fd ["town", "corner"] g_check_corner := FnG.of (k := 2) F sc_check_corner rfl rfl fun cdv B out t H rm => by
  have nd := sc_check_corner.nd
  exact
 (r_sone (r_sif (r_tnot (r_tval (r_cl (cl_is_between T) rm (r_cons (r_var 1) (r_cons r_int (r_cons (r_op op_sub v_sub (r_ix rm (r_var 0) r_int) r_int) r_nil))))))
  (r_sone r_never)
  r_snil))
theorem cl_check_corner (T : Top K mg) : Cl P w K mg base 3 "check_corner" ["town", "corner"] g_check_corner := Cl.of T.d_check_corner fun f fd F => fn_check_corner T F
theorem sc_piece_of : FnScope ["town", "corner"] ["town", "corner"] (defScope s_piece_of) := ⟨rfl, rfl, rfl, by decide +kernel, rfl, by decide +kernel, by decide +kernel⟩
theorem fn_piece_of (T : Top K mg) {f : Addr} {fd : FuncData} (F : Fun K "piece_of" "piece_of" s_piece_of f fd) : FnG P w K mg base 6 f fd ["town", "corner"] g_piece_of := FnG.of (k := 5) F sc_piece_of rfl rfl fun cdv B out t H rm => by
  have nd := sc_piece_of.nd
  exact
 (r_scons (r_expr (r_cl (cl_check_town T) rm (r_cons (r_var 0) r_nil)))
 (r_scons (r_expr (r_cl (cl_check_corner T) rm (r_cons (r_var 0) (r_cons (r_var 1) r_nil))))
 (r_sone (r_ret (r_cl (cl_hanging T) rm (r_cons (r_var 0) (r_cons (r_var 1) r_nil)))))))
theorem cl_piece_of (T : Top K mg) : Cl P w K mg base 6 "piece_of" ["town", "corner"] g_piece_of := Cl.of T.d_piece_of fun f fd F => fn_piece_of T F
theorem sc_at_corner : FnScope ["town", "corner", "place", "street"] ["town", "corner"] (defScope s_at_corner) := ⟨rfl, rfl, rfl, by decide +kernel, rfl, by decide +kernel, by decide +kernel⟩
theorem fn_at_corner (T : Top K mg) {f : Addr} {fd : FuncData} (F : Fun K "at_corner" "at_corner" s_at_corner f fd) : FnG P w K mg base 1 f fd ["town", "corner"] g_at_corner := FnG.of (k := 0) F sc_at_corner rfl rfl fun cdv B out t H rm => by
  have nd := sc_at_corner.nd
  exact
 (r_sone (r_ret (r_lc (own := [("place", 2), ("street", 3)]) (ws := [2, 3]) rfl nd (r_enum (r_ix rm (r_var 0) r_int) T.z_enumerate) (blkOk_by (by rfl)) rfl (by decide) (fun _ _ _ _ _ => (r_gtup rfl (r_gcons (r_gname 2 nd) (r_gcons (r_gname 3 nd) r_gnil)))) (fun _ _ _ _ _ => (r_tsone (r_tcmp (o_in rm) (v_in _) (r_var 1) (r_sl (r_var 3) r_pnone (r_psome r_int))))) (fun _ _ _ _ _ => (r_var 2)))))
theorem cl_at_corner (T : Top K mg) : Cl P w K mg base 1 "at_corner" ["town", "corner"] g_at_corner := Cl.of T.d_at_corner fun f fd F => fn_at_corner T F
theorem sc_streets_at : FnScope ["town", "corner"] ["town", "corner"] (defScope s_streets_at) := ⟨rfl, rfl, rfl, by decide +kernel, rfl, by decide +kernel, by decide +kernel⟩
theorem fn_streets_at (T : Top K mg) {f : Addr} {fd : FuncData} (F : Fun K "streets_at" "streets_at" s_streets_at f fd) : FnG P w K mg base 6 f fd ["town", "corner"] g_streets_at := FnG.of (k := 5) F sc_streets_at rfl rfl fun cdv B out t H rm => by
  have nd := sc_streets_at.nd
  exact
 (r_scons (r_expr (r_cl (cl_check_town T) rm (r_cons (r_var 0) r_nil)))
 (r_scons (r_expr (r_cl (cl_check_corner T) rm (r_cons (r_var 0) (r_cons (r_var 1) r_nil))))
 (r_sone (r_ret (r_callT call_tuple_of v_tuple T.z_tuple PyProof.Rows.boot_tuple (r_cons (r_cl (cl_at_corner T) rm (r_cons (r_var 0) (r_cons (r_var 1) r_nil))) r_nil))))))
theorem cl_streets_at (T : Top K mg) : Cl P w K mg base 6 "streets_at" ["town", "corner"] g_streets_at := Cl.of T.d_streets_at fun f fd F => fn_streets_at T F
theorem sc_are_between : FnScope ["value", "low", "high", "one"] ["value", "low", "high"] (defScope s_are_between) := ⟨rfl, rfl, rfl, by decide +kernel, rfl, by decide +kernel, by decide +kernel⟩
theorem fn_are_between (T : Top K mg) {f : Addr} {fd : FuncData} (F : Fun K "are_between" "are_between" s_are_between f fd) : FnG P w K mg base 3 f fd ["value", "low", "high"] g_are_between := FnG.of (k := 2) F sc_are_between rfl rfl fun cdv B out t H rm => by
  have nd := sc_are_between.nd
  exact
 (r_sone (r_ret (r_and (r_isi "tuple" (by decide) T.z_isinstance T.z_tuple PyProof.Rows.boot_tuple (r_var 0)) (r_one (r_callB (cr_all rfl) v_all T.z_all boot_all (r_cons (r_lc (own := [("one", 3)]) (ws := [3]) rfl nd (r_it (r_var 0)) (blkOk_by (by rfl)) rfl (by decide) (fun _ _ _ _ _ => (r_gname 3 nd)) (fun _ _ _ _ _ => r_tsnil) (fun _ _ _ _ _ => (r_cl (cl_is_between T) rm (r_cons (r_var 3) (r_cons (r_var 1) (r_cons (r_var 2) r_nil)))))) r_nil))))))
theorem cl_are_between (T : Top K mg) : Cl P w K mg base 3 "are_between" ["value", "low", "high"] g_are_between := Cl.of T.d_are_between fun f fd F => fn_are_between T F
theorem sc_is_ascending : FnScope ["items", "one", "other"] ["items"] (defScope s_is_ascending) := ⟨rfl, rfl, rfl, by decide +kernel, rfl, by decide +kernel, by decide +kernel⟩
theorem fn_is_ascending (T : Top K mg) {f : Addr} {fd : FuncData} (F : Fun K "is_ascending" "is_ascending" s_is_ascending f fd) : FnG P w K mg base 1 f fd ["items"] g_is_ascending := FnG.of (k := 0) F sc_is_ascending rfl rfl fun cdv B out t H rm => by
  have nd := sc_is_ascending.nd
  exact
 (r_sone (r_ret (r_callB (cr_all rfl) v_all T.z_all boot_all (r_cons (r_lc (own := [("one", 1), ("other", 2)]) (ws := [1, 2]) rfl nd (r_zip2 (r_var 0) (r_sl (r_var 0) (r_psome r_int) r_pnone) T.z_zip) (blkOk_by (by rfl)) rfl (by decide) (fun _ _ _ _ _ => (r_gtup rfl (r_gcons (r_gname 1 nd) (r_gcons (r_gname 2 nd) r_gnil)))) (fun _ _ _ _ _ => r_tsnil) (fun _ _ _ _ _ => (r_cmp op_lt (v_i2 _) (r_var 1) (r_var 2)))) r_nil))))
theorem cl_is_ascending (T : Top K mg) : Cl P w K mg base 1 "is_ascending" ["items"] g_is_ascending := Cl.of T.d_is_ascending fun f fd F => fn_is_ascending T F
theorem sc_is_lot : FnScope ["town", "value"] ["town", "value"] (defScope s_is_lot) := ⟨rfl, rfl, rfl, by decide +kernel, rfl, by decide +kernel, by decide +kernel⟩
theorem fn_is_lot (T : Top K mg) {f : Addr} {fd : FuncData} (F : Fun K "is_lot" "is_lot" s_is_lot f fd) : FnG P w K mg base 4 f fd ["town", "value"] g_is_lot := FnG.of (k := 3) F sc_is_lot rfl rfl fun cdv B out t H rm => by
  have nd := sc_is_lot.nd
  exact
 (r_sone (r_ret (r_and (r_cl (cl_are_between T) rm (r_cons (r_var 1) (r_cons r_int (r_cons (r_op op_sub v_sub (r_ix rm (r_var 0) r_int) r_int) r_nil)))) (r_one (r_cl (cl_is_ascending T) rm (r_cons (r_var 1) r_nil))))))
theorem cl_is_lot (T : Top K mg) : Cl P w K mg base 4 "is_lot" ["town", "value"] g_is_lot := Cl.of T.d_is_lot fun f fd F => fn_is_lot T F
theorem sc_check_lot : FnScope ["town", "lot"] ["town", "lot"] (defScope s_check_lot) := ⟨rfl, rfl, rfl, by decide +kernel, rfl, by decide +kernel, by decide +kernel⟩
theorem fn_check_lot (T : Top K mg) {f : Addr} {fd : FuncData} (F : Fun K "check_lot" "check_lot" s_check_lot f fd) : FnG P w K mg base 5 f fd ["town", "lot"] g_check_lot := FnG.of (k := 4) F sc_check_lot rfl rfl fun cdv B out t H rm => by
  have nd := sc_check_lot.nd
  exact
 (r_sone (r_sif (r_tnot (r_tval (r_cl (cl_is_lot T) rm (r_cons (r_var 0) (r_cons (r_var 1) r_nil)))))
  (r_sone r_never)
  r_snil))
theorem cl_check_lot (T : Top K mg) : Cl P w K mg base 5 "check_lot" ["town", "lot"] g_check_lot := Cl.of T.d_check_lot fun f fd F => fn_check_lot T F
theorem sc_crossing : FnScope ["town", "lot", "place", "one", "other", "length"] ["town", "lot"] (defScope s_crossing) := ⟨rfl, rfl, rfl, by decide +kernel, rfl, by decide +kernel, by decide +kernel⟩
theorem fn_crossing (T : Top K mg) {f : Addr} {fd : FuncData} (F : Fun K "crossing" "crossing" s_crossing f fd) : FnG P w K mg base 1 f fd ["town", "lot"] g_crossing := FnG.of (k := 0) F sc_crossing rfl rfl fun cdv B out t H rm => by
  have nd := sc_crossing.nd
  exact
 (r_sone (r_ret (r_lc (own := [("place", 2), ("one", 3), ("other", 4), ("length", 5)]) (ws := [2, 3, 4, 5]) rfl nd (r_enum (r_ix rm (r_var 0) r_int) T.z_enumerate) (blkOk_by (by rfl)) rfl (by decide) (fun _ _ _ _ _ => (r_gtup rfl (r_gcons (r_gname 2 nd) (r_gcons (r_gtup rfl (r_gcons (r_gname 3 nd) (r_gcons (r_gname 4 nd) (r_gcons (r_gname 5 nd) r_gnil)))) r_gnil)))) (fun _ _ _ _ _ => (r_tsone (r_tcmp (o_ne rm) v_ne (r_cmp (o_in rm) (v_in _) (r_var 3) (r_var 1)) (r_cmp (o_in rm) (v_in _) (r_var 4) (r_var 1))))) (fun _ _ _ _ _ => (r_var 2)))))
theorem cl_crossing (T : Top K mg) : Cl P w K mg base 1 "crossing" ["town", "lot"] g_crossing := Cl.of T.d_crossing fun f fd F => fn_crossing T F
theorem sc_across : FnScope ["town", "lot"] ["town", "lot"] (defScope s_across) := ⟨rfl, rfl, rfl, by decide +kernel, rfl, by decide +kernel, by decide +kernel⟩
theorem fn_across (T : Top K mg) {f : Addr} {fd : FuncData} (F : Fun K "across" "across" s_across f fd) : FnG P w K mg base 6 f fd ["town", "lot"] g_across := FnG.of (k := 5) F sc_across rfl rfl fun cdv B out t H rm => by
  have nd := sc_across.nd
  exact
 (r_scons (r_expr (r_cl (cl_check_town T) rm (r_cons (r_var 0) r_nil)))
 (r_scons (r_expr (r_cl (cl_check_lot T) rm (r_cons (r_var 0) (r_cons (r_var 1) r_nil))))
 (r_sone (r_ret (r_callT call_tuple_of v_tuple T.z_tuple PyProof.Rows.boot_tuple (r_cons (r_cl (cl_crossing T) rm (r_cons (r_var 0) (r_cons (r_var 1) r_nil))) r_nil))))))
theorem cl_across (T : Top K mg) : Cl P w K mg base 6 "across" ["town", "lot"] g_across := Cl.of T.d_across fun f fd F => fn_across T F
theorem sc_inside : FnScope ["town", "lot", "place", "one", "other", "length"] ["town", "lot"] (defScope s_inside) := ⟨rfl, rfl, rfl, by decide +kernel, rfl, by decide +kernel, by decide +kernel⟩
theorem fn_inside (T : Top K mg) {f : Addr} {fd : FuncData} (F : Fun K "inside" "inside" s_inside f fd) : FnG P w K mg base 6 f fd ["town", "lot"] g_inside := FnG.of (k := 5) F sc_inside rfl rfl fun cdv B out t H rm => by
  have nd := sc_inside.nd
  exact
 (r_scons (r_expr (r_cl (cl_check_town T) rm (r_cons (r_var 0) r_nil)))
 (r_scons (r_expr (r_cl (cl_check_lot T) rm (r_cons (r_var 0) (r_cons (r_var 1) r_nil))))
 (r_sone (r_ret (r_callT call_tuple_of v_tuple T.z_tuple PyProof.Rows.boot_tuple (r_cons (r_lc (own := [("place", 2), ("one", 3), ("other", 4), ("length", 5)]) (ws := [2, 3, 4, 5]) rfl nd (r_enum (r_ix rm (r_var 0) r_int) T.z_enumerate) (blkOk_by (by rfl)) rfl (by decide) (fun _ _ _ _ _ => (r_gtup rfl (r_gcons (r_gname 2 nd) (r_gcons (r_gtup rfl (r_gcons (r_gname 3 nd) (r_gcons (r_gname 4 nd) (r_gcons (r_gname 5 nd) r_gnil)))) r_gnil)))) (fun _ _ _ _ _ => (r_tsone (r_tbool (r_wand (r_tcmp (o_in rm) (v_in _) (r_var 3) (r_var 1)) (r_wand1 (r_tcmp (o_in rm) (v_in _) (r_var 4) (r_var 1))))))) (fun _ _ _ _ _ => (r_var 2))) r_nil))))))
theorem cl_inside (T : Top K mg) : Cl P w K mg base 6 "inside" ["town", "lot"] g_inside := Cl.of T.d_inside fun f fd F => fn_inside T F
theorem sc_is_bunch : FnScope ["town", "value"] ["town", "value"] (defScope s_is_bunch) := ⟨rfl, rfl, rfl, by decide +kernel, rfl, by decide +kernel, by decide +kernel⟩
theorem fn_is_bunch (T : Top K mg) {f : Addr} {fd : FuncData} (F : Fun K "is_bunch" "is_bunch" s_is_bunch f fd) : FnG P w K mg base 4 f fd ["town", "value"] g_is_bunch := FnG.of (k := 3) F sc_is_bunch rfl rfl fun cdv B out t H rm => by
  have nd := sc_is_bunch.nd
  exact
 (r_sone (r_ret (r_and (r_cl (cl_are_between T) rm (r_cons (r_var 1) (r_cons r_int (r_cons (r_op op_sub v_sub (r_callB c_len v_len T.z_len PySem.boot_len (r_cons (r_ix rm (r_var 0) r_int) r_nil)) r_int) r_nil)))) (r_one (r_cl (cl_is_ascending T) rm (r_cons (r_var 1) r_nil))))))
theorem cl_is_bunch (T : Top K mg) : Cl P w K mg base 4 "is_bunch" ["town", "value"] g_is_bunch := Cl.of T.d_is_bunch fun f fd F => fn_is_bunch T F
theorem sc_check_bunch : FnScope ["town", "bunch"] ["town", "bunch"] (defScope s_check_bunch) := ⟨rfl, rfl, rfl, by decide +kernel, rfl, by decide +kernel, by decide +kernel⟩
theorem fn_check_bunch (T : Top K mg) {f : Addr} {fd : FuncData} (F : Fun K "check_bunch" "check_bunch" s_check_bunch f fd) : FnG P w K mg base 5 f fd ["town", "bunch"] g_check_bunch := FnG.of (k := 4) F sc_check_bunch rfl rfl fun cdv B out t H rm => by
  have nd := sc_check_bunch.nd
  exact
 (r_sone (r_sif (r_tnot (r_tval (r_cl (cl_is_bunch T) rm (r_cons (r_var 0) (r_cons (r_var 1) r_nil)))))
  (r_sone r_never)
  r_snil))
theorem cl_check_bunch (T : Top K mg) : Cl P w K mg base 5 "check_bunch" ["town", "bunch"] g_check_bunch := Cl.of T.d_check_bunch fun f fd F => fn_check_bunch T F
theorem sc_part_of : FnScope ["town", "bunch", "place"] ["town", "bunch"] (defScope s_part_of) := ⟨rfl, rfl, rfl, by decide +kernel, rfl, by decide +kernel, by decide +kernel⟩
theorem fn_part_of (T : Top K mg) {f : Addr} {fd : FuncData} (F : Fun K "part_of" "part_of" s_part_of f fd) : FnG P w K mg base 1 f fd ["town", "bunch"] g_part_of := FnG.of (k := 0) F sc_part_of rfl rfl fun cdv B out t H rm => by
  have nd := sc_part_of.nd
  exact
 (r_sone (r_ret (r_tup (r_cons (r_ix rm (r_var 0) r_int) (r_cons (r_callT call_tuple_of v_tuple T.z_tuple PyProof.Rows.boot_tuple (r_cons (r_lc (own := [("place", 2)]) (ws := [2]) rfl nd (r_it (r_var 1)) (blkOk_by (by rfl)) rfl (by decide) (fun _ _ _ _ _ => (r_gname 2 nd)) (fun _ _ _ _ _ => r_tsnil) (fun _ _ _ _ _ => (r_ix rm (r_ix rm (r_var 0) r_int) (r_var 2)))) r_nil)) r_nil)))))
theorem cl_part_of (T : Top K mg) : Cl P w K mg base 1 "part_of" ["town", "bunch"] g_part_of := Cl.of T.d_part_of fun f fd F => fn_part_of T F
theorem sc_part : FnScope ["town", "bunch"] ["town", "bunch"] (defScope s_part) := ⟨rfl, rfl, rfl, by decide +kernel, rfl, by decide +kernel, by decide +kernel⟩
theorem fn_part (T : Top K mg) {f : Addr} {fd : FuncData} (F : Fun K "part" "part" s_part f fd) : FnG P w K mg base 6 f fd ["town", "bunch"] g_part := FnG.of (k := 5) F sc_part rfl rfl fun cdv B out t H rm => by
  have nd := sc_part.nd
  exact
 (r_scons (r_expr (r_cl (cl_check_town T) rm (r_cons (r_var 0) r_nil)))
 (r_scons (r_expr (r_cl (cl_check_bunch T) rm (r_cons (r_var 0) (r_cons (r_var 1) r_nil))))
 (r_sone (r_ret (r_cl (cl_part_of T) rm (r_cons (r_var 0) (r_cons (r_var 1) r_nil)))))))
theorem cl_part (T : Top K mg) : Cl P w K mg base 6 "part" ["town", "bunch"] g_part := Cl.of T.d_part fun f fd F => fn_part T F
theorem sc_odd_by : FnScope ["town", "bunch"] ["town", "bunch"] (defScope s_odd_by) := ⟨rfl, rfl, rfl, by decide +kernel, rfl, by decide +kernel, by decide +kernel⟩
theorem fn_odd_by (T : Top K mg) {f : Addr} {fd : FuncData} (F : Fun K "odd_by" "odd_by" s_odd_by f fd) : FnG P w K mg base 6 f fd ["town", "bunch"] g_odd_by := FnG.of (k := 5) F sc_odd_by rfl rfl fun cdv B out t H rm => by
  have nd := sc_odd_by.nd
  exact
 (r_scons (r_expr (r_cl (cl_check_town T) rm (r_cons (r_var 0) r_nil)))
 (r_scons (r_expr (r_cl (cl_check_bunch T) rm (r_cons (r_var 0) (r_cons (r_var 1) r_nil))))
 (r_sone (r_ret (r_cl (cl_odd_of T) rm (r_cons (r_cl (cl_part_of T) rm (r_cons (r_var 0) (r_cons (r_var 1) r_nil))) r_nil))))))
theorem cl_odd_by (T : Top K mg) : Cl P w K mg base 6 "odd_by" ["town", "bunch"] g_odd_by := Cl.of T.d_odd_by fun f fd F => fn_odd_by T F
theorem sc__law_take : FnScope ["pot", "upto", "prime", "blend", "digit"] ["pot", "upto"] (defScope s__law_take) := ⟨rfl, rfl, rfl, by decide +kernel, rfl, by decide +kernel, by decide +kernel⟩
theorem fn__law_take (T : Top K mg) {f : Addr} {fd : FuncData} (F : Fun K "_law_take" "_law_take" s__law_take f fd) : FnG P w K mg base 1 f fd ["pot", "upto"] g__law_take := FnG.of (k := 0) F sc__law_take rfl rfl fun cdv B out t H rm => by
  have nd := sc__law_take.nd
  exact
 (r_scons (r_sif (r_tcmp op_gt (v_i2 _) (r_ix rm (r_var 0) r_int) r_int)
  (r_scons (r_set (i := 4) nd (r_op op_mod v_mod (r_callT call_int1 v_int T.z_int PyProof.Rows.boot_int (r_cons (r_ix rm (r_var 0) r_int) r_nil)) (r_var 1)))
  (r_scons (r_asg (ws := []) (r_op op_fdivW v_fdiv (r_ix rm (r_var 0) r_int) (r_var 1)) (r_gsub rm (r_var 0) r_int))
  (r_sone (r_ret (r_var 4)))))
  r_snil)
 (r_scons (r_asg (ws := []) (r_op o_add v_add (r_ix rm (r_var 0) r_int) r_int) (r_gsub rm (r_var 0) r_int))
 (r_scons (r_set (i := 2) nd (r_ix rm (r_lst (r_cons r_int (r_cons r_int (r_cons r_int (r_cons r_int (r_cons r_int r_nil)))))) (r_op op_mod v_mod (r_callT call_int1 v_int T.z_int PyProof.Rows.boot_int (r_cons (r_ix rm (r_var 0) r_int) r_nil)) r_int)))
 (r_scons (r_set (i := 3) nd (r_op op_mod v_mod (r_callT call_int1 v_int T.z_int PyProof.Rows.boot_int (r_cons (r_op op_powA v_pow (r_callT call_int1 v_int T.z_int PyProof.Rows.boot_int (r_cons (r_op o_add v_add (r_op o_add v_add (r_ix rm (r_var 0) r_int) (r_op o_mul v_mul (r_op o_mul v_mul r_int (r_ix rm (r_var 0) r_int)) (r_ix rm (r_var 0) r_int))) r_int) r_nil)) r_int) r_nil)) (r_var 2)))
 (r_scons (r_set (i := 3) nd (r_op op_mod v_mod (r_callT call_int1 v_int T.z_int PyProof.Rows.boot_int (r_cons (r_op o_mul v_mul (r_var 3) (r_op o_add v_add (r_op op_mod v_mod (r_callT call_int1 v_int T.z_int PyProof.Rows.boot_int (r_cons (r_var 3) r_nil)) r_int) (r_op o_mul v_mul r_int (r_ix rm (r_var 0) r_int)))) r_nil)) r_int))
 (r_sone (r_ret (r_op op_mod v_mod (r_callT call_int1 v_int T.z_int PyProof.Rows.boot_int (r_cons (r_op op_fdivW v_fdiv (r_var 3) r_int) r_nil)) (r_var 1)))))))))
theorem cl__law_take (T : Top K mg) : Cl P w K mg base 1 "_law_take" ["pot", "upto"] g__law_take := Cl.of T.d__law_take fun f fd F => fn__law_take T F
theorem sc__law_of : FnScope ["pot", "some"] ["pot", "some"] (defScope s__law_of) := ⟨rfl, rfl, rfl, by decide +kernel, rfl, by decide +kernel, by decide +kernel⟩
theorem fn__law_of (T : Top K mg) {f : Addr} {fd : FuncData} (F : Fun K "_law_of" "_law_of" s__law_of f fd) : FnG P w K mg base 2 f fd ["pot", "some"] g__law_of := FnG.of (k := 1) F sc__law_of rfl rfl fun cdv B out t H rm => by
  have nd := sc__law_of.nd
  exact
 (r_sone (r_ret (r_ix rm (r_var 1) (r_cl (cl__law_take T) rm (r_cons (r_var 0) (r_cons (r_callB c_len v_len T.z_len PySem.boot_len (r_cons (r_var 1) r_nil)) r_nil))))))
theorem cl__law_of (T : Top K mg) : Cl P w K mg base 2 "_law_of" ["pot", "some"] g__law_of := Cl.of T.d__law_of fun f fd F => fn__law_of T F
theorem sc__law_some : FnScope ["pot", "pool", "width", "lap", "found"] ["pot", "pool", "width"] (defScope s__law_some) := ⟨rfl, rfl, rfl, by decide +kernel, rfl, by decide +kernel, by decide +kernel⟩
theorem fn__law_some (T : Top K mg) {f : Addr} {fd : FuncData} (F : Fun K "_law_some" "_law_some" s__law_some f fd) : FnG P w K mg base 2 f fd ["pot", "pool", "width"] g__law_some := FnG.of (k := 1) F sc__law_some rfl rfl fun cdv B out t H rm => by
  have nd := sc__law_some.nd
  exact
 (r_scons (r_par2 1 4 rfl nd (r_cons (r_callT (c_list rfl) v_list T.z_list PyProof.Rows.boot_list (r_cons (r_var 1) r_nil)) (r_cons (r_lst r_nil) r_nil)))
 (r_scons (r_for (ws := [3]) PassesOwn.never rfl (r_range1 (r_var 2) T.z_range) (r_gname 3 nd)
  (r_sone (r_expr (r_append (r_var 4) (r_cons (r_pop1 (r_var 1) (r_cons (r_cl (cl__law_take T) rm (r_cons (r_var 0) (r_cons (r_callB c_len v_len T.z_len PySem.boot_len (r_cons (r_var 1) r_nil)) r_nil))) r_nil)) r_nil)))))
 (r_sone (r_ret (r_var 4)))))
theorem cl__law_some (T : Top K mg) : Cl P w K mg base 2 "_law_some" ["pot", "pool", "width"] g__law_some := Cl.of T.d__law_some fun f fd F => fn__law_some T F
theorem sc__law_town : FnScope ["pot", "most", "streets", "lap", "corners", "found", "one", "other"] ["pot", "most", "streets"] (defScope s__law_town) := ⟨rfl, rfl, rfl, by decide +kernel, rfl, by decide +kernel, by decide +kernel⟩
theorem fn__law_town (T : Top K mg) {f : Addr} {fd : FuncData} (F : Fun K "_law_town" "_law_town" s__law_town f fd) : FnG P w K mg base 3 f fd ["pot", "most", "streets"] g__law_town := FnG.of (k := 2) F sc__law_town rfl rfl fun cdv B out t H rm => by
  have nd := sc__law_town.nd
  exact
 (r_scons (r_par2 4 5 rfl nd (r_cons (r_op o_add v_add r_int (r_cl (cl__law_take T) rm (r_cons (r_var 0) (r_cons (r_op op_sub v_sub (r_var 1) r_int) r_nil)))) (r_cons (r_lst r_nil) r_nil)))
 (r_scons (r_for (ws := [3]) PassesOwn.never rfl (r_range1 (r_cl (cl__law_take T) rm (r_cons (r_var 0) (r_cons (r_op o_add v_add (r_var 2) r_int) r_nil))) T.z_range) (r_gname 3 nd)
  (r_scons (r_asg (ws := [6, 7]) (r_callB (c_sorted rfl) v_sorted T.z_sorted boot_sorted (r_cons (r_cl (cl__law_some T) rm (r_cons (r_var 0) (r_cons (r_lrg rfl T.z_list (r_rg1 T.z_range (r_var 4))) (r_cons r_int r_nil)))) r_nil)) (r_gtup rfl (r_gcons (r_gname 6 nd) (r_gcons (r_gname 7 nd) r_gnil))))
  (r_sone (r_expr (r_append (r_var 5) (r_cons (r_tup (r_cons (r_var 6) (r_cons (r_var 7) (r_cons (r_op o_add v_add r_int (r_cl (cl__law_take T) rm (r_cons (r_var 0) (r_cons (r_cl (cl__law_of T) rm (r_cons (r_var 0) (r_cons (r_lst (r_cons r_int (r_cons r_int (r_cons r_int r_nil)))) r_nil))) r_nil)))) r_nil)))) r_nil))))))
 (r_sone (r_ret (r_tup (r_cons (r_var 4) (r_cons (r_callT call_tuple_of v_tuple T.z_tuple PyProof.Rows.boot_tuple (r_cons (r_var 5) r_nil)) r_nil)))))))
theorem cl__law_town (T : Top K mg) : Cl P w K mg base 3 "_law_town" ["pot", "most", "streets"] g__law_town := Cl.of T.d__law_town fun f fd F => fn__law_town T F
theorem sc__law_degrees : FnScope ["town", "corner", "street"] ["town"] (defScope s__law_degrees) := ⟨rfl, rfl, rfl, by decide +kernel, rfl, by decide +kernel, by decide +kernel⟩
theorem fn__law_degrees (T : Top K mg) {f : Addr} {fd : FuncData} (F : Fun K "_law_degrees" "_law_degrees" s__law_degrees f fd) : FnG P w K mg base 1 f fd ["town"] g__law_degrees := FnG.of (k := 0) F sc__law_degrees rfl rfl fun cdv B out t H rm => by
  have nd := sc__law_degrees.nd
  exact
 (r_sone (r_ret (r_lc (own := [("corner", 1)]) (ws := [1]) rfl nd (r_range1 (r_ix rm (r_var 0) r_int) T.z_range) (blkOk_by (by rfl)) rfl (by decide) (fun _ _ _ _ _ => (r_gname 1 nd)) (fun _ _ _ _ _ => r_tsnil) (fun _ _ _ _ _ => (r_callB c_len v_len T.z_len PySem.boot_len (r_cons (r_lc (own := [("street", 2)]) (ws := [2]) rfl nd (r_it (r_ix rm (r_var 0) r_int)) (blkOk_by (by rfl)) rfl (by decide) (fun _ _ _ _ _ => (r_gname 2 nd)) (fun _ _ _ _ _ => (r_tsone (r_tcmp (o_in rm) (v_in _) (r_var 1) (r_sl (r_var 2) r_pnone (r_psome r_int))))) (fun _ _ _ _ _ => (r_var 2))) r_nil))))))
theorem cl__law_degrees (T : Top K mg) : Cl P w K mg base 1 "_law_degrees" ["town"] g__law_degrees := Cl.of T.d__law_degrees fun f fd F => fn__law_degrees T F
theorem sc__law_odd_ones : FnScope ["town", "corner", "many"] ["town"] (defScope s__law_odd_ones) := ⟨rfl, rfl, rfl, by decide +kernel, rfl, by decide +kernel, by decide +kernel⟩
theorem fn__law_odd_ones (T : Top K mg) {f : Addr} {fd : FuncData} (F : Fun K "_law_odd_ones" "_law_odd_ones" s__law_odd_ones f fd) : FnG P w K mg base 2 f fd ["town"] g__law_odd_ones := FnG.of (k := 1) F sc__law_odd_ones rfl rfl fun cdv B out t H rm => by
  have nd := sc__law_odd_ones.nd
  exact
 (r_sone (r_ret (r_lc (own := [("corner", 1), ("many", 2)]) (ws := [1, 2]) rfl nd (r_enum (r_cl (cl__law_degrees T) rm (r_cons (r_var 0) r_nil)) T.z_enumerate) (blkOk_by (by rfl)) rfl (by decide) (fun _ _ _ _ _ => (r_gtup rfl (r_gcons (r_gname 1 nd) (r_gcons (r_gname 2 nd) r_gnil)))) (fun _ _ _ _ _ => (r_tsone (r_tcmp (o_eq rm) v_eq (r_op op_mod v_mod (r_callT call_int1 v_int T.z_int PyProof.Rows.boot_int (r_cons (r_var 2) r_nil)) r_int) r_int))) (fun _ _ _ _ _ => (r_var 1)))))
theorem cl__law_odd_ones (T : Top K mg) : Cl P w K mg base 2 "_law_odd_ones" ["town"] g__law_odd_ones := Cl.of T.d__law_odd_ones fun f fd F => fn__law_odd_ones T F
theorem sc__law_pieces : FnScope ["town", "mark", "one", "other", "length", "keep", "gone", "at", "corner"] ["town"] (defScope s__law_pieces) := ⟨rfl, rfl, rfl, by decide +kernel, rfl, by decide +kernel, by decide +kernel⟩
theorem fn__law_pieces (T : Top K mg) {f : Addr} {fd : FuncData} (F : Fun K "_law_pieces" "_law_pieces" s__law_pieces f fd) : FnG P w K mg base 1 f fd ["town"] g__law_pieces := FnG.of (k := 0) F sc__law_pieces rfl rfl fun cdv B out t H rm => by
  have nd := sc__law_pieces.nd
  exact
 (r_scons (r_set (i := 1) nd (r_lrg rfl T.z_list (r_rg1 T.z_range (r_ix rm (r_var 0) r_int))))
 (r_scons (r_for (ws := [2, 3, 4]) PassesOwn.never rfl (r_it (r_ix rm (r_var 0) r_int)) (r_gtup rfl (r_gcons (r_gname 2 nd) (r_gcons (r_gname 3 nd) (r_gcons (r_gname 4 nd) r_gnil))))
  (r_scons (r_asg (ws := [5, 6]) (r_callB (c_sorted rfl) v_sorted T.z_sorted boot_sorted (r_cons (r_lst (r_cons (r_ix rm (r_var 1) (r_var 2)) (r_cons (r_ix rm (r_var 1) (r_var 3)) r_nil))) r_nil)) (r_gtup rfl (r_gcons (r_gname 5 nd) (r_gcons (r_gname 6 nd) r_gnil))))
  (r_sone (r_set (i := 1) nd (r_lc (own := [("at", 7)]) (ws := [7]) rfl nd (r_it (r_var 1)) (blkOk_by (by rfl)) rfl (by decide) (fun _ _ _ _ _ => (r_gname 7 nd)) (fun _ _ _ _ _ => r_tsnil) (fun _ _ _ _ _ => (r_if (r_tcmp (o_eq rm) v_eq (r_var 7) (r_var 6)) (r_var 5) (r_var 7))))))))
 (r_sone (r_ret (r_lc (own := [("at", 7)]) (ws := [7]) rfl nd (r_it (r_sset rfl T.z_sorted T.z_set (r_var 1))) (blkOk_by (by rfl)) rfl (by decide) (fun _ _ _ _ _ => (r_gname 7 nd)) (fun _ _ _ _ _ => r_tsnil) (fun _ _ _ _ _ => (r_callT call_tuple_of v_tuple T.z_tuple PyProof.Rows.boot_tuple (r_cons (r_lc (own := [("corner", 8)]) (ws := [8]) rfl nd (r_range1 (r_ix rm (r_var 0) r_int) T.z_range) (blkOk_by (by rfl)) rfl (by decide) (fun _ _ _ _ _ => (r_gname 8 nd)) (fun _ _ _ _ _ => (r_tsone (r_tcmp (o_eq rm) v_eq (r_ix rm (r_var 1) (r_var 8)) (r_var 7)))) (fun _ _ _ _ _ => (r_var 8))) r_nil))))))))
theorem cl__law_pieces (T : Top K mg) : Cl P w K mg base 1 "_law_pieces" ["town"] g__law_pieces := Cl.of T.d__law_pieces fun f fd F => fn__law_pieces T F
theorem sc__law_odd_by : FnScope ["town", "bunch", "ends", "place", "corner"] ["town", "bunch"] (defScope s__law_odd_by) := ⟨rfl, rfl, rfl, by decide +kernel, rfl, by decide +kernel, by decide +kernel⟩
theorem fn__law_odd_by (T : Top K mg) {f : Addr} {fd : FuncData} (F : Fun K "_law_odd_by" "_law_odd_by" s__law_odd_by f fd) : FnG P w K mg base 1 f fd ["town", "bunch"] g__law_odd_by := FnG.of (k := 0) F sc__law_odd_by rfl rfl fun cdv B out t H rm => by
  have nd := sc__law_odd_by.nd
  exact
 (r_scons (r_set (i := 2) nd (r_lst r_nil))
 (r_scons (r_for (ws := [3]) PassesOwn.never rfl (r_it (r_var 1)) (r_gname 3 nd)
  (r_sone (r_expr (r_extend (r_var 2) (r_cons (r_callT (c_list rfl) v_list T.z_list PyProof.Rows.boot_list (r_cons (r_sl (r_ix rm (r_ix rm (r_var 0) r_int) (r_var 3)) r_pnone (r_psome r_int)) r_nil)) r_nil)))))
 (r_sone (r_ret (r_callT call_tuple_of v_tuple T.z_tuple PyProof.Rows.boot_tuple (r_cons (r_lc (own := [("corner", 4)]) (ws := [4]) rfl nd (r_range1 (r_ix rm (r_var 0) r_int) T.z_range) (blkOk_by (by rfl)) rfl (by decide) (fun _ _ _ _ _ => (r_gname 4 nd)) (fun _ _ _ _ _ => (r_tsone (r_tcmp (o_eq rm) v_eq (r_op op_mod v_mod (r_callT call_int1 v_int T.z_int PyProof.Rows.boot_int (r_cons (r_lcount (r_var 2) (r_cons (r_var 4) r_nil)) r_nil)) r_int) r_int))) (fun _ _ _ _ _ => (r_var 4))) r_nil))))))
theorem cl__law_odd_by (T : Top K mg) : Cl P w K mg base 1 "_law_odd_by" ["town", "bunch"] g__law_odd_by := Cl.of T.d__law_odd_by fun f fd F => fn__law_odd_by T F
theorem sc__law_odd : FnScope ["pot", "some", "value", "lap"] ["pot"] (defScope s__law_odd) := ⟨rfl, rfl, rfl, by decide +kernel, rfl, by decide +kernel, by decide +kernel⟩
theorem fn__law_odd (T : Top K mg) {f : Addr} {fd : FuncData} (F : Fun K "_law_odd" "_law_odd" s__law_odd f fd) : FnG P w K mg base 3 f fd ["pot"] g__law_odd := FnG.of (k := 2) F sc__law_odd rfl rfl fun cdv B out t H rm => by
  have nd := sc__law_odd.nd
  exact
 (r_scons (r_set (i := 1) nd (r_lst (r_cons r_non (r_cons r_bl (r_cons r_bl (r_cons r_int (r_cons r_int (r_cons (r_un un_neg v_neg r_int) (r_cons r_int (r_cons (r_op op_powA v_pow r_int r_int) (r_cons r_str (r_cons r_str (r_cons r_str (r_cons (r_tup r_nil) (r_cons (r_tup (r_cons r_int r_nil)) (r_cons (r_tup (r_cons r_non r_nil)) (r_cons (r_lst r_nil) (r_cons (r_lst (r_cons r_int r_nil)) (r_cons r_dnew (r_cons (r_disp (r_pcons r_str r_int r_pnil)) (r_cons (r_tup (r_cons (r_tup (r_cons r_int (r_cons r_int r_nil))) r_nil)) r_nil)))))))))))))))))))))
 (r_scons (r_set (i := 2) nd (r_cl (cl__law_of T) rm (r_cons (r_var 0) (r_cons (r_var 1) r_nil))))
 (r_scons (r_for (ws := [3]) PassesOwn.never rfl (r_range1 (r_cl (cl__law_take T) rm (r_cons (r_var 0) (r_cons r_int r_nil))) T.z_range) (r_gname 3 nd)
  (r_sone (r_set (i := 2) nd (r_cl (cl__law_of T) rm (r_cons (r_var 0) (r_cons (r_lst (r_cons (r_tup (r_cons (r_var 2) r_nil)) (r_cons (r_lst (r_cons (r_var 2) r_nil)) (r_cons (r_disp (r_pcons r_str (r_var 2) r_pnil)) (r_cons (r_tup (r_cons (r_var 2) (r_cons r_int r_nil))) (r_cons (r_tup (r_cons r_int (r_cons (r_var 2) r_nil))) r_nil)))))) r_nil))))))
 (r_sone (r_ret (r_var 2))))))
theorem cl__law_odd (T : Top K mg) : Cl P w K mg base 3 "_law_odd" ["pot"] g__law_odd := Cl.of T.d__law_odd fun f fd F => fn__law_odd T F
theorem sc__law_bent : FnScope ["pot", "value", "at", "ways"] ["pot", "value"] (defScope s__law_bent) := ⟨rfl, rfl, rfl, by decide +kernel, rfl, by decide +kernel, by decide +kernel⟩
theorem cr__law_bent (T : Top K mg) : ∀ n, Cl P w K mg base (3 + n) "_law_bent" ["pot", "value"] (g__law_bent n)
  | 0 => Cl.none T.d__law_bent
  | n + 1 => Cl.of T.d__law_bent fun f fd F => FnG.of (k := 3 + n) F sc__law_bent rfl rfl fun cdv B out t H rm => by
    have nd := sc__law_bent.nd
    have C : Cl P w K mg base (3 + n) "_law_bent" ["pot", "value"] (g__law_bent n) := cr__law_bent T n
    exact
 (r_scons (r_sif (r_tbool (r_wand (r_tval (r_isi "tuple" (by decide) T.z_isinstance T.z_tuple PyProof.Rows.boot_tuple (r_var 1))) (r_wand (r_tcmp (o_ne rm) v_ne (r_var 1) (r_tup r_nil)) (r_wand1 (r_tcmp op_gt (v_i2 _) (r_cl (cl__law_take T) rm (r_cons (r_var 0) (r_cons r_int r_nil)) (hj := by omega)) r_int)))))
  (r_scons (r_set (i := 2) nd (r_cl (cl__law_take T) rm (r_cons (r_var 0) (r_cons (r_callB c_len v_len T.z_len PySem.boot_len (r_cons (r_var 1) r_nil)) r_nil)) (hj := by omega)))
  (r_sone (r_ret (r_op o_add v_add (r_op o_add v_add (r_sl (r_var 1) r_pnone (r_psome (r_var 2))) (r_tup (r_cons (r_cl C rm (r_cons (r_var 0) (r_cons (r_ix rm (r_var 1) (r_var 2)) r_nil)) (hj := Nat.le_refl _)) r_nil))) (r_sl (r_var 1) (r_psome (r_op o_add v_add (r_var 2) r_int)) r_pnone)))))
  r_snil)
 (r_scons (r_sif (r_tval (r_isi "tuple" (by decide) T.z_isinstance T.z_tuple PyProof.Rows.boot_tuple (r_var 1)))
  (r_scons (r_set (i := 2) nd (r_cl (cl__law_take T) rm (r_cons (r_var 0) (r_cons (r_op o_add v_add (r_callB c_len v_len T.z_len PySem.boot_len (r_cons (r_var 1) r_nil)) r_int) r_nil)) (hj := by omega)))
  (r_scons (r_set (i := 3) nd (r_lst (r_cons (r_callT (c_list rfl) v_list T.z_list PyProof.Rows.boot_list (r_cons (r_var 1) r_nil)) (r_cons (r_op o_add v_add (r_sl (r_var 1) r_pnone (r_psome (r_var 2))) (r_sl (r_var 1) (r_psome (r_op o_add v_add (r_var 2) r_int)) r_pnone)) (r_cons (r_op o_add v_add (r_var 1) (r_sl (r_var 1) (r_psome (r_var 2)) (r_psome (r_op o_add v_add (r_var 2) r_int)))) (r_cons (r_sls (r_var 1) r_pnone r_pnone (r_un un_neg v_neg r_int)) (r_cons (r_op o_add v_add (r_op o_add v_add (r_sl (r_var 1) r_pnone (r_psome (r_var 2))) (r_tup (r_cons (r_cl (cl__law_odd T) rm (r_cons (r_var 0) r_nil) (hj := by omega)) r_nil))) (r_sl (r_var 1) (r_psome (r_var 2)) r_pnone)) r_nil)))))))
  (r_sone (r_ret (r_cl (cl__law_of T) rm (r_cons (r_var 0) (r_cons (r_var 3) r_nil)) (hj := by omega))))))
  r_snil)
 (r_scons (r_sif (r_tbool (r_wor (r_tval (r_isi "bool" (by decide) T.z_isinstance T.z_bool PyProof.Rows.boot_bool (r_var 1))) (r_wor1 (r_tnot (r_tval (r_isi "int" (by decide) T.z_isinstance T.z_int PyProof.Rows.boot_int (r_var 1)))))))
  (r_sone (r_ret (r_cl (cl__law_odd T) rm (r_cons (r_var 0) r_nil) (hj := by omega))))
  r_snil)
 (r_sone (r_ret (r_cl (cl__law_of T) rm (r_cons (r_var 0) (r_cons (r_lst (r_cons (r_op o_add v_add (r_var 1) r_int) (r_cons (r_op op_sub v_sub (r_var 1) r_int) (r_cons (r_op o_add v_add (r_var 1) r_int) (r_cons (r_un un_neg v_neg (r_var 1)) (r_cons (r_callT c_str v_str T.z_str PyProof.Rows.boot_str (r_cons (r_var 1) r_nil)) (r_cons (r_tup (r_cons (r_var 1) r_nil)) (r_cons (r_cmp (o_eq rm) v_eq (r_var 1) r_int) (r_cons r_non (r_cons r_int (r_cons r_int r_nil))))))))))) r_nil)) (hj := by omega)))))))
theorem cl__law_bent (T : Top K mg) : Cl P w K mg base 11 "_law_bent" ["pot", "value"] (g__law_bent 8) := cr__law_bent T 8
theorem sc__law_is_town : FnScope ["value", "street", "one"] ["value"] (defScope s__law_is_town) := ⟨rfl, rfl, rfl, by decide +kernel, rfl, by decide +kernel, by decide +kernel⟩
theorem fn__law_is_town (T : Top K mg) {f : Addr} {fd : FuncData} (F : Fun K "_law_is_town" "_law_is_town" s__law_is_town f fd) : FnG P w K mg base 1 f fd ["value"] g__law_is_town := FnG.of (k := 0) F sc__law_is_town rfl rfl fun cdv B out t H rm => by
  have nd := sc__law_is_town.nd
  exact
 (r_scons (r_sif (r_tbool (r_wor (r_tnot (r_tval (r_isi "tuple" (by decide) T.z_isinstance T.z_tuple PyProof.Rows.boot_tuple (r_var 0)))) (r_wor (r_tcmp (o_ne rm) v_ne (r_callB c_len v_len T.z_len PySem.boot_len (r_cons (r_var 0) r_nil)) r_int) (r_wor (r_tnot (r_tval (r_isi "tuple" (by decide) T.z_isinstance T.z_tuple PyProof.Rows.boot_tuple (r_ix rm (r_var 0) r_int)))) (r_wor1 (r_tcmp op_gt (v_i2 _) (r_callB c_len v_len T.z_len PySem.boot_len (r_cons (r_ix rm (r_var 0) r_int) r_nil)) r_int))))))
  (r_sone (r_ret r_bl))
  r_snil)
 (r_scons (r_sif (r_tbool (r_wor (r_tnot (r_tval (r_isi "int" (by decide) T.z_isinstance T.z_int PyProof.Rows.boot_int (r_ix rm (r_var 0) r_int)))) (r_wor (r_tval (r_isi "bool" (by decide) T.z_isinstance T.z_bool PyProof.Rows.boot_bool (r_ix rm (r_var 0) r_int))) (r_wor1 (r_tnot (r_tchn r_int (r_lkCons op_le (v_i2 _) (r_ix rm (r_var 0) r_int) (r_lkLast op_le (v_i2 _) r_int))))))))
  (r_sone (r_ret r_bl))
  r_snil)
 (r_scons (r_for (ws := [1]) PassesOwn.never rfl (r_it (r_ix rm (r_var 0) r_int)) (r_gname 1 nd)
  (r_scons (r_sif (r_tbool (r_wor (r_tnot (r_tval (r_isi "tuple" (by decide) T.z_isinstance T.z_tuple PyProof.Rows.boot_tuple (r_var 1)))) (r_wor (r_tcmp (o_ne rm) v_ne (r_callB c_len v_len T.z_len PySem.boot_len (r_cons (r_var 1) r_nil)) r_int) (r_wor1 (r_tnot (r_tval (r_callB (cr_all rfl) v_all T.z_all boot_all (r_cons (r_lc (own := [("one", 2)]) (ws := [2]) rfl nd (r_it (r_var 1)) (blkOk_by (by rfl)) rfl (by decide) (fun _ _ _ _ _ => (r_gname 2 nd)) (fun _ _ _ _ _ => r_tsnil) (fun _ _ _ _ _ => (r_and (r_isi "int" (by decide) T.z_isinstance T.z_int PyProof.Rows.boot_int (r_var 2)) (r_one (r_not (r_isi "bool" (by decide) T.z_isinstance T.z_bool PyProof.Rows.boot_bool (r_var 2))))))) r_nil))))))))
   (r_sone (r_ret r_bl))
   r_snil)
  (r_sone (r_sif (r_tbool (r_wor (r_tnot (r_tchn r_int (r_lkCons op_le (v_i2 _) (r_ix rm (r_var 1) r_int) (r_lkCons op_lt (v_i2 _) (r_ix rm (r_var 1) r_int) (r_lkLast op_lt (v_i2 _) (r_ix rm (r_var 0) r_int)))))) (r_wor1 (r_tnot (r_tchn r_int (r_lkCons op_le (v_i2 _) (r_ix rm (r_var 1) r_int) (r_lkLast op_le (v_i2 _) (r_op op_powA v_pow r_int r_int))))))))
   (r_sone (r_ret r_bl))
   r_snil))))
 (r_sone (r_ret r_bl)))))
theorem cl__law_is_town (T : Top K mg) : Cl P w K mg base 1 "_law_is_town" ["value"] g__law_is_town := Cl.of T.d__law_is_town fun f fd F => fn__law_is_town T F
theorem sc__law_right : FnScope ["pot", "most", "streets", "town", "corner", "lot", "over", "within", "places", "bunch", "values", "value", "many", "corners", "lap", "piece", "place", "street", "one"] ["pot", "most", "streets"] (defScope s__law_right) := ⟨rfl, rfl, rfl, by decide +kernel, rfl, by decide +kernel, by decide +kernel⟩
theorem fn__law_right (T : Top K mg) {f : Addr} {fd : FuncData} (F : Fun K "_law_right" "_law_right" s__law_right f fd) : FnG P w K mg base 13 f fd ["pot", "most", "streets"] g__law_right := FnG.of (k := 12) F sc__law_right rfl rfl fun cdv B out t H rm => by
  have nd := sc__law_right.nd
  exact
 (r_scons (r_set (i := 3) nd (r_cl (cl__law_town T) rm (r_cons (r_var 0) (r_cons (r_var 1) (r_cons (r_var 2) r_nil)))))
 (r_scons (r_asg (ws := [12, 13]) (r_tup (r_cons (r_cl (cl__law_degrees T) rm (r_cons (r_var 3) r_nil)) (r_cons (r_lrg rfl T.z_list (r_rg1 T.z_range (r_ix rm (r_var 3) r_int))) r_nil))) (r_gtup rfl (r_gcons (r_gname 12 nd) (r_gcons (r_gname 13 nd) r_gnil))))
 (r_scons (r_sif (r_tcmp (o_ne rm) v_ne (r_callB (c_repr rm) v_repr T.z_repr boot_repr (r_cons (r_tup (r_cons (r_cl (cl_degrees T) rm (r_cons (r_var 3) r_nil)) (r_cons (r_cl (cl_odd T) rm (r_cons (r_var 3) r_nil)) (r_cons (r_cl (cl_pieces T) rm (r_cons (r_var 3) r_nil)) r_nil)))) r_nil)) (r_callB (c_repr rm) v_repr T.z_repr boot_repr (r_cons (r_tup (r_cons (r_callT call_tuple_of v_tuple T.z_tuple PyProof.Rows.boot_tuple (r_cons (r_var 12) r_nil)) (r_cons (r_callT call_tuple_of v_tuple T.z_tuple PyProof.Rows.boot_tuple (r_cons (r_cl (cl__law_odd_ones T) rm (r_cons (r_var 3) r_nil)) r_nil)) (r_cons (r_callT call_tuple_of v_tuple T.z_tuple PyProof.Rows.boot_tuple (r_cons (r_cl (cl__law_pieces T) rm (r_cons (r_var 3) r_nil)) r_nil)) r_nil)))) r_nil)))
  (r_sone (r_ret r_bl))
  r_snil)
 (r_scons (r_sif (r_tbool (r_wor (r_tcmp (o_ne rm) v_ne (r_callB (cr_sum rfl) v_sum T.z_sum boot_sum (r_cons (r_var 12) r_nil)) (r_op o_mul v_mul r_int (r_callB c_len v_len T.z_len PySem.boot_len (r_cons (r_ix rm (r_var 3) r_int) r_nil)))) (r_wor1 (r_tval (r_callB (cr_any rfl) v_any T.z_any boot_any (r_cons (r_lc (own := [("piece", 15)]) (ws := [15]) rfl nd (r_it (r_cl (cl_pieces T) rm (r_cons (r_var 3) r_nil))) (blkOk_by (by rfl)) rfl (by decide) (fun _ _ _ _ _ => (r_gname 15 nd)) (fun _ _ _ _ _ => r_tsnil) (fun _ _ _ _ _ => (r_cmp (o_eq rm) v_eq (r_op op_mod v_mod (r_callB c_len v_len T.z_len PySem.boot_len (r_cons (r_lc (own := [("one", 18)]) (ws := [18]) rfl nd (r_it (r_var 15)) (blkOk_by (by rfl)) rfl (by decide) (fun _ _ _ _ _ => (r_gname 18 nd)) (fun _ _ _ _ _ => (r_tsone (r_tcmp (o_eq rm) v_eq (r_op op_mod v_mod (r_callT call_int1 v_int T.z_int PyProof.Rows.boot_int (r_cons (r_ix rm (r_var 12) (r_var 18)) r_nil)) r_int) r_int))) (fun _ _ _ _ _ => (r_var 18))) r_nil)) r_int) r_int))) r_nil))))))
  (r_sone (r_ret r_bl))
  r_snil)
 (r_scons (r_set (i := 4) nd (r_cl (cl__law_of T) rm (r_cons (r_var 0) (r_cons (r_var 13) r_nil))))
 (r_scons (r_sif (r_tcmp (o_ne rm) v_ne (r_callB (c_repr rm) v_repr T.z_repr boot_repr (r_cons (r_cl (cl_piece_of T) rm (r_cons (r_var 3) (r_cons (r_var 4) r_nil))) r_nil)) (r_callB (c_repr rm) v_repr T.z_repr boot_repr (r_cons (r_ix rm (r_lc (own := [("piece", 15)]) (ws := [15]) rfl nd (r_it (r_cl (cl__law_pieces T) rm (r_cons (r_var 3) r_nil))) (blkOk_by (by rfl)) rfl (by decide) (fun _ _ _ _ _ => (r_gname 15 nd)) (fun _ _ _ _ _ => (r_tsone (r_tcmp (o_in rm) (v_in _) (r_var 4) (r_var 15)))) (fun _ _ _ _ _ => (r_var 15))) r_int) r_nil)))
  (r_sone (r_ret r_bl))
  r_snil)
 (r_scons (r_sif (r_tcmp (o_ne rm) v_ne (r_callB (c_repr rm) v_repr T.z_repr boot_repr (r_cons (r_cl (cl_streets_at T) rm (r_cons (r_var 3) (r_cons (r_var 4) r_nil))) r_nil)) (r_callB (c_repr rm) v_repr T.z_repr boot_repr (r_cons (r_callT call_tuple_of v_tuple T.z_tuple PyProof.Rows.boot_tuple (r_cons (r_lc (own := [("place", 16), ("street", 17)]) (ws := [16, 17]) rfl nd (r_enum (r_ix rm (r_var 3) r_int) T.z_enumerate) (blkOk_by (by rfl)) rfl (by decide) (fun _ _ _ _ _ => (r_gtup rfl (r_gcons (r_gname 16 nd) (r_gcons (r_gname 17 nd) r_gnil)))) (fun _ _ _ _ _ => (r_tsone (r_tcmp (o_in rm) (v_in _) (r_var 4) (r_sl (r_var 17) r_pnone (r_psome r_int))))) (fun _ _ _ _ _ => (r_var 16))) r_nil)) r_nil)))
  (r_sone (r_ret r_bl))
  r_snil)
 (r_scons (r_set (i := 5) nd (r_callT call_tuple_of v_tuple T.z_tuple PyProof.Rows.boot_tuple (r_cons (r_callB (c_sorted rfl) v_sorted T.z_sorted boot_sorted (r_cons (r_cl (cl__law_some T) rm (r_cons (r_var 0) (r_cons (r_var 13) (r_cons (r_cl (cl__law_take T) rm (r_cons (r_var 0) (r_cons (r_op o_add v_add (r_callB c_len v_len T.z_len PySem.boot_len (r_cons (r_var 13) r_nil)) r_int) r_nil))) r_nil)))) r_nil)) r_nil)))
 (r_scons (r_set (i := 6) nd (r_callT call_tuple_of v_tuple T.z_tuple PyProof.Rows.boot_tuple (r_cons (r_lc (own := [("place", 16), ("street", 17)]) (ws := [16, 17]) rfl nd (r_enum (r_ix rm (r_var 3) r_int) T.z_enumerate) (blkOk_by (by rfl)) rfl (by decide) (fun _ _ _ _ _ => (r_gtup rfl (r_gcons (r_gname 16 nd) (r_gcons (r_gname 17 nd) r_gnil)))) (fun _ _ _ _ _ => (r_tsone (r_tcmp (o_eq rm) v_eq (r_callB c_len v_len T.z_len PySem.boot_len (r_cons (r_lc (own := [("one", 18)]) (ws := [18]) rfl nd (r_it (r_sl (r_var 17) r_pnone (r_psome r_int))) (blkOk_by (by rfl)) rfl (by decide) (fun _ _ _ _ _ => (r_gname 18 nd)) (fun _ _ _ _ _ => (r_tsone (r_tcmp (o_in rm) (v_in _) (r_var 18) (r_var 5)))) (fun _ _ _ _ _ => (r_var 18))) r_nil)) r_int))) (fun _ _ _ _ _ => (r_var 16))) r_nil)))
 (r_scons (r_set (i := 7) nd (r_callT call_tuple_of v_tuple T.z_tuple PyProof.Rows.boot_tuple (r_cons (r_lc (own := [("place", 16), ("street", 17)]) (ws := [16, 17]) rfl nd (r_enum (r_ix rm (r_var 3) r_int) T.z_enumerate) (blkOk_by (by rfl)) rfl (by decide) (fun _ _ _ _ _ => (r_gtup rfl (r_gcons (r_gname 16 nd) (r_gcons (r_gname 17 nd) r_gnil)))) (fun _ _ _ _ _ => (r_tsone (r_tcmp (o_eq rm) v_eq (r_callB c_len v_len T.z_len PySem.boot_len (r_cons (r_lc (own := [("one", 18)]) (ws := [18]) rfl nd (r_it (r_sl (r_var 17) r_pnone (r_psome r_int))) (blkOk_by (by rfl)) rfl (by decide) (fun _ _ _ _ _ => (r_gname 18 nd)) (fun _ _ _ _ _ => (r_tsone (r_tcmp (o_in rm) (v_in _) (r_var 18) (r_var 5)))) (fun _ _ _ _ _ => (r_var 18))) r_nil)) r_int))) (fun _ _ _ _ _ => (r_var 16))) r_nil)))
 (r_scons (r_sif (r_tcmp (o_ne rm) v_ne (r_callB (c_repr rm) v_repr T.z_repr boot_repr (r_cons (r_tup (r_cons (r_cl (cl_across T) rm (r_cons (r_var 3) (r_cons (r_var 5) r_nil))) (r_cons (r_cl (cl_inside T) rm (r_cons (r_var 3) (r_cons (r_var 5) r_nil))) r_nil))) r_nil)) (r_callB (c_repr rm) v_repr T.z_repr boot_repr (r_cons (r_tup (r_cons (r_var 6) (r_cons (r_var 7) r_nil))) r_nil)))
  (r_sone (r_ret r_bl))
  r_snil)
 (r_scons (r_sif (r_tcmp (o_ne rm) v_ne (r_op op_mod v_mod (r_callT call_int1 v_int T.z_int PyProof.Rows.boot_int (r_cons (r_op op_sub v_sub (r_callB c_len v_len T.z_len PySem.boot_len (r_cons (r_var 6) r_nil)) (r_callB c_len v_len T.z_len PySem.boot_len (r_cons (r_lc (own := [("one", 18)]) (ws := [18]) rfl nd (r_it (r_var 5)) (blkOk_by (by rfl)) rfl (by decide) (fun _ _ _ _ _ => (r_gname 18 nd)) (fun _ _ _ _ _ => (r_tsone (r_tcmp (o_eq rm) v_eq (r_op op_mod v_mod (r_callT call_int1 v_int T.z_int PyProof.Rows.boot_int (r_cons (r_ix rm (r_var 12) (r_var 18)) r_nil)) r_int) r_int))) (fun _ _ _ _ _ => (r_var 18))) r_nil))) r_nil)) r_int) r_int)
  (r_sone (r_ret r_bl))
  r_snil)
 (r_scons (r_set (i := 8) nd (r_lrg rfl T.z_list (r_rg1 T.z_range (r_callB c_len v_len T.z_len PySem.boot_len (r_cons (r_ix rm (r_var 3) r_int) r_nil)))))
 (r_scons (r_set (i := 9) nd (r_callT call_tuple_of v_tuple T.z_tuple PyProof.Rows.boot_tuple (r_cons (r_callB (c_sorted rfl) v_sorted T.z_sorted boot_sorted (r_cons (r_cl (cl__law_some T) rm (r_cons (r_var 0) (r_cons (r_var 8) (r_cons (r_cl (cl__law_take T) rm (r_cons (r_var 0) (r_cons (r_op o_add v_add (r_callB c_len v_len T.z_len PySem.boot_len (r_cons (r_var 8) r_nil)) r_int) r_nil))) r_nil)))) r_nil)) r_nil)))
 (r_scons (r_sif (r_tcmp (o_ne rm) v_ne (r_callB (c_repr rm) v_repr T.z_repr boot_repr (r_cons (r_cl (cl_part T) rm (r_cons (r_var 3) (r_cons (r_var 9) r_nil))) r_nil)) (r_callB (c_repr rm) v_repr T.z_repr boot_repr (r_cons (r_tup (r_cons (r_ix rm (r_var 3) r_int) (r_cons (r_callT call_tuple_of v_tuple T.z_tuple PyProof.Rows.boot_tuple (r_cons (r_lc (own := [("place", 16)]) (ws := [16]) rfl nd (r_it (r_var 9)) (blkOk_by (by rfl)) rfl (by decide) (fun _ _ _ _ _ => (r_gname 16 nd)) (fun _ _ _ _ _ => r_tsnil) (fun _ _ _ _ _ => (r_ix rm (r_ix rm (r_var 3) r_int) (r_var 16)))) r_nil)) r_nil))) r_nil)))
  (r_sone (r_ret r_bl))
  r_snil)
 (r_scons (r_sif (r_tbool (r_wor (r_tcmp (o_ne rm) v_ne (r_callB (c_repr rm) v_repr T.z_repr boot_repr (r_cons (r_cl (cl_odd_by T) rm (r_cons (r_var 3) (r_cons (r_var 9) r_nil))) r_nil)) (r_callB (c_repr rm) v_repr T.z_repr boot_repr (r_cons (r_cl (cl__law_odd_by T) rm (r_cons (r_var 3) (r_cons (r_var 9) r_nil))) r_nil))) (r_wor1 (r_tcmp (o_ne rm) v_ne (r_cl (cl_odd_by T) rm (r_cons (r_var 3) (r_cons (r_callT call_tuple_of v_tuple T.z_tuple PyProof.Rows.boot_tuple (r_cons (r_var 8) r_nil)) r_nil))) (r_cl (cl_odd T) rm (r_cons (r_var 3) r_nil))))))
  (r_sone (r_ret r_bl))
  r_snil)
 (r_scons (r_set (i := 10) nd (r_lst (r_cons (r_var 3) (r_cons (r_callT (c_list rfl) v_list T.z_list PyProof.Rows.boot_list (r_cons (r_var 3) r_nil)) (r_cons (r_tup (r_cons (r_ix rm (r_var 3) r_int) (r_cons (r_callT (c_list rfl) v_list T.z_list PyProof.Rows.boot_list (r_cons (r_ix rm (r_var 3) r_int) r_nil)) r_nil))) (r_cons (r_tup (r_cons r_int (r_cons (r_tup r_nil) r_nil))) (r_cons (r_tup (r_cons r_int (r_cons (r_tup r_nil) r_nil))) (r_cons (r_tup (r_cons r_int (r_cons (r_tup r_nil) r_nil))) (r_cons (r_tup (r_cons r_int (r_cons (r_op o_mul v_mul (r_tup (r_cons (r_tup (r_cons r_int (r_cons r_int (r_cons r_int r_nil)))) r_nil)) r_int) r_nil))) (r_cons (r_tup (r_cons r_int (r_cons (r_op o_mul v_mul (r_tup (r_cons (r_tup (r_cons r_int (r_cons r_int (r_cons r_int r_nil)))) r_nil)) r_int) r_nil))) (r_cons r_non r_nil)))))))))))
 (r_scons (r_expr (r_extend (r_var 10) (r_cons (r_lst (r_cons (r_tup (r_cons r_int (r_cons (r_tup (r_cons (r_tup (r_cons r_int (r_cons r_int (r_cons r_int r_nil)))) r_nil)) r_nil))) (r_cons (r_tup (r_cons r_int (r_cons (r_tup (r_cons (r_tup (r_cons r_int (r_cons r_int (r_cons r_int r_nil)))) r_nil)) r_nil))) (r_cons (r_tup (r_cons r_int (r_cons (r_tup (r_cons (r_tup (r_cons r_int (r_cons r_int (r_cons r_int r_nil)))) r_nil)) r_nil))) (r_cons (r_tup (r_cons r_int (r_cons (r_tup (r_cons (r_tup (r_cons r_int (r_cons r_int (r_cons r_int r_nil)))) r_nil)) r_nil))) (r_cons (r_tup (r_cons r_int (r_cons (r_tup (r_cons (r_tup (r_cons r_int (r_cons r_int (r_cons (r_op op_powA v_pow r_int r_int) r_nil)))) r_nil)) r_nil))) (r_cons (r_tup (r_cons r_int (r_cons (r_tup (r_cons (r_tup (r_cons r_int (r_cons r_int (r_cons (r_op o_add v_add (r_op op_powA v_pow r_int r_int) r_int) r_nil)))) r_nil)) r_nil))) (r_cons (r_cl (cl__law_odd T) rm (r_cons (r_var 0) r_nil)) r_nil)))))))) r_nil)))
 (r_scons (r_for (ws := [11]) PassesOwn.never rfl (r_it (r_op o_add v_add (r_var 10) (r_lc (own := [("lap", 14)]) (ws := [14]) rfl nd (r_range1 r_int T.z_range) (blkOk_by (by rfl)) rfl (by decide) (fun _ _ _ _ _ => (r_gname 14 nd)) (fun _ _ _ _ _ => r_tsnil) (fun _ _ _ _ _ => (r_cl (cl__law_bent T) rm (r_cons (r_var 0) (r_cons (r_var 3) r_nil))))))) (r_gname 11 nd)
  (r_sone (r_sif (r_tcmp (o_ne rm) v_ne (r_callB (c_repr rm) v_repr T.z_repr boot_repr (r_cons (r_cl (cl_is_town T) rm (r_cons (r_var 11) r_nil)) r_nil)) (r_callB (c_repr rm) v_repr T.z_repr boot_repr (r_cons (r_cl (cl__law_is_town T) rm (r_cons (r_var 11) r_nil)) r_nil)))
   (r_sone (r_ret r_bl))
   r_snil)))
 (r_sone (r_ret r_bl)))))))))))))))))))))
theorem cl__law_right (T : Top K mg) : Cl P w K mg base 13 "_law_right" ["pot", "most", "streets"] g__law_right := Cl.of T.d__law_right fun f fd F => fn__law_right T F
theorem sc_law : FnScope ["script", "place", "pot", "lap"] ["script"] (defScope s_law) := ⟨rfl, rfl, rfl, by decide +kernel, rfl, by decide +kernel, by decide +kernel⟩
theorem fn_law (T : Top K mg) {f : Addr} {fd : FuncData} (F : Fun K "law" "law" s_law f fd) : FnG P w K mg base 14 f fd ["script"] g_law := FnG.of (k := 13) F sc_law rfl rfl fun cdv B out t H rm => by
  have nd := sc_law.nd
  exact
 (r_scons (r_for (ws := [1]) PassesOwn.never rfl (r_it (r_cl (cl__law_cells T) rm (r_cons (r_var 0) (r_cons r_int r_nil)))) (r_gname 1 nd)
  (r_scons (r_set (i := 2) nd (r_cl (cl__law_pot T) rm (r_cons (r_var 0) (r_cons (r_var 1) r_nil))))
  (r_sone (r_sif (r_tbool (r_wor (r_tnot (r_tval (r_callB (cr_all rfl) v_all T.z_all boot_all (r_cons (r_lc (own := [("lap", 3)]) (ws := [3]) rfl nd (r_range1 r_int T.z_range) (blkOk_by (by rfl)) rfl (by decide) (fun _ _ _ _ _ => (r_gname 3 nd)) (fun _ _ _ _ _ => r_tsnil) (fun _ _ _ _ _ => (r_cl (cl__law_right T) rm (r_cons (r_var 2) (r_cons r_int (r_cons r_int r_nil)))))) r_nil)))) (r_wor1 (r_tnot (r_tval (r_cl (cl__law_right T) rm (r_cons (r_var 2) (r_cons r_int (r_cons r_int r_nil)))))))))
   (r_sone (r_ret r_bl))
   r_snil))))
 (r_sone (r_ret r_bl)))
theorem cl_law (T : Top K mg) : Cl P w K mg base 14 "law" ["script"] g_law := Cl.of T.d_law fun f fd F => fn_law T F
end
theorem top_mk {K : PySem.W.Frag} {h : Heap} {mg : Str → Option Value} (KX : K.In h) (G : h.Ns mainGlobals mg)
    {f0 : Addr} {od0 an0 : Option Addr} {sl0 : Array (Option Value)} {oc0 kV0 dc0 pm0 cd0 ct0 : Value}
    (a0 : PySem.W.nsIn K mainGlobals "_law_pot" = some (some (.ref f0))) (l0 : K.lookup f0 = some ⟨oc0, od0, .func (PySem.W.fnOf "_law_pot" "_law_pot" (defArgs s__law_pot) (defBody s__law_pot) (defScope s__law_pot) .none kV0 dc0 pm0 an0 cd0 ct0), sl0⟩)
    (c0 : PySem.W.codeIn K cd0 "_law_pot" = true) (k0 : PySem.W.keepIn K (.ref f0) = true)
    {f1 : Addr} {od1 an1 : Option Addr} {sl1 : Array (Option Value)} {oc1 kV1 dc1 pm1 cd1 ct1 : Value}
    (a1 : PySem.W.nsIn K mainGlobals "_law_cells" = some (some (.ref f1))) (l1 : K.lookup f1 = some ⟨oc1, od1, .func (PySem.W.fnOf "_law_cells" "_law_cells" (defArgs s__law_cells) (defBody s__law_cells) (defScope s__law_cells) .none kV1 dc1 pm1 an1 cd1 ct1), sl1⟩)
    (c1 : PySem.W.codeIn K cd1 "_law_cells" = true) (k1 : PySem.W.keepIn K (.ref f1) = true)
    {f2 : Addr} {od2 an2 : Option Addr} {sl2 : Array (Option Value)} {oc2 kV2 dc2 pm2 cd2 ct2 : Value}
    (a2 : PySem.W.nsIn K mainGlobals "is_integer" = some (some (.ref f2))) (l2 : K.lookup f2 = some ⟨oc2, od2, .func (PySem.W.fnOf "is_integer" "is_integer" (defArgs s_is_integer) (defBody s_is_integer) (defScope s_is_integer) .none kV2 dc2 pm2 an2 cd2 ct2), sl2⟩)
    (c2 : PySem.W.codeIn K cd2 "is_integer" = true) (k2 : PySem.W.keepIn K (.ref f2) = true)
    {f3 : Addr} {od3 an3 : Option Addr} {sl3 : Array (Option Value)} {oc3 kV3 dc3 pm3 cd3 ct3 : Value}
    (a3 : PySem.W.nsIn K mainGlobals "is_between" = some (some (.ref f3))) (l3 : K.lookup f3 = some ⟨oc3, od3, .func (PySem.W.fnOf "is_between" "is_between" (defArgs s_is_between) (defBody s_is_between) (defScope s_is_between) .none kV3 dc3 pm3 an3 cd3 ct3), sl3⟩)
    (c3 : PySem.W.codeIn K cd3 "is_between" = true) (k3 : PySem.W.keepIn K (.ref f3) = true)
    {f4 : Addr} {od4 an4 : Option Addr} {sl4 : Array (Option Value)} {oc4 kV4 dc4 pm4 cd4 ct4 : Value}
    (a4 : PySem.W.nsIn K mainGlobals "is_street" = some (some (.ref f4))) (l4 : K.lookup f4 = some ⟨oc4, od4, .func (PySem.W.fnOf "is_street" "is_street" (defArgs s_is_street) (defBody s_is_street) (defScope s_is_street) .none kV4 dc4 pm4 an4 cd4 ct4), sl4⟩)
    (c4 : PySem.W.codeIn K cd4 "is_street" = true) (k4 : PySem.W.keepIn K (.ref f4) = true)
    {f5 : Addr} {od5 an5 : Option Addr} {sl5 : Array (Option Value)} {oc5 kV5 dc5 pm5 cd5 ct5 : Value}
    (a5 : PySem.W.nsIn K mainGlobals "is_town" = some (some (.ref f5))) (l5 : K.lookup f5 = some ⟨oc5, od5, .func (PySem.W.fnOf "is_town" "is_town" (defArgs s_is_town) (defBody s_is_town) (defScope s_is_town) .none kV5 dc5 pm5 an5 cd5 ct5), sl5⟩)
    (c5 : PySem.W.codeIn K cd5 "is_town" = true) (k5 : PySem.W.keepIn K (.ref f5) = true)
    {f6 : Addr} {od6 an6 : Option Addr} {sl6 : Array (Option Value)} {oc6 kV6 dc6 pm6 cd6 ct6 : Value}
    (a6 : PySem.W.nsIn K mainGlobals "check_town" = some (some (.ref f6))) (l6 : K.lookup f6 = some ⟨oc6, od6, .func (PySem.W.fnOf "check_town" "check_town" (defArgs s_check_town) (defBody s_check_town) (defScope s_check_town) .none kV6 dc6 pm6 an6 cd6 ct6), sl6⟩)
    (c6 : PySem.W.codeIn K cd6 "check_town" = true) (k6 : PySem.W.keepIn K (.ref f6) = true)
    {f7 : Addr} {od7 an7 : Option Addr} {sl7 : Array (Option Value)} {oc7 kV7 dc7 pm7 cd7 ct7 : Value}
    (a7 : PySem.W.nsIn K mainGlobals "degrees_of" = some (some (.ref f7))) (l7 : K.lookup f7 = some ⟨oc7, od7, .func (PySem.W.fnOf "degrees_of" "degrees_of" (defArgs s_degrees_of) (defBody s_degrees_of) (defScope s_degrees_of) .none kV7 dc7 pm7 an7 cd7 ct7), sl7⟩)
    (c7 : PySem.W.codeIn K cd7 "degrees_of" = true) (k7 : PySem.W.keepIn K (.ref f7) = true)
    {f8 : Addr} {od8 an8 : Option Addr} {sl8 : Array (Option Value)} {oc8 kV8 dc8 pm8 cd8 ct8 : Value}
    (a8 : PySem.W.nsIn K mainGlobals "degrees" = some (some (.ref f8))) (l8 : K.lookup f8 = some ⟨oc8, od8, .func (PySem.W.fnOf "degrees" "degrees" (defArgs s_degrees) (defBody s_degrees) (defScope s_degrees) .none kV8 dc8 pm8 an8 cd8 ct8), sl8⟩)
    (c8 : PySem.W.codeIn K cd8 "degrees" = true) (k8 : PySem.W.keepIn K (.ref f8) = true)
    {f9 : Addr} {od9 an9 : Option Addr} {sl9 : Array (Option Value)} {oc9 kV9 dc9 pm9 cd9 ct9 : Value}
    (a9 : PySem.W.nsIn K mainGlobals "odd_of" = some (some (.ref f9))) (l9 : K.lookup f9 = some ⟨oc9, od9, .func (PySem.W.fnOf "odd_of" "odd_of" (defArgs s_odd_of) (defBody s_odd_of) (defScope s_odd_of) .none kV9 dc9 pm9 an9 cd9 ct9), sl9⟩)
    (c9 : PySem.W.codeIn K cd9 "odd_of" = true) (k9 : PySem.W.keepIn K (.ref f9) = true)
    {f10 : Addr} {od10 an10 : Option Addr} {sl10 : Array (Option Value)} {oc10 kV10 dc10 pm10 cd10 ct10 : Value}
    (a10 : PySem.W.nsIn K mainGlobals "odd" = some (some (.ref f10))) (l10 : K.lookup f10 = some ⟨oc10, od10, .func (PySem.W.fnOf "odd" "odd" (defArgs s_odd) (defBody s_odd) (defScope s_odd) .none kV10 dc10 pm10 an10 cd10 ct10), sl10⟩)
    (c10 : PySem.W.codeIn K cd10 "odd" = true) (k10 : PySem.W.keepIn K (.ref f10) = true)
    {f11 : Addr} {od11 an11 : Option Addr} {sl11 : Array (Option Value)} {oc11 kV11 dc11 pm11 cd11 ct11 : Value}
    (a11 : PySem.W.nsIn K mainGlobals "hanging" = some (some (.ref f11))) (l11 : K.lookup f11 = some ⟨oc11, od11, .func (PySem.W.fnOf "hanging" "hanging" (defArgs s_hanging) (defBody s_hanging) (defScope s_hanging) .none kV11 dc11 pm11 an11 cd11 ct11), sl11⟩)
    (c11 : PySem.W.codeIn K cd11 "hanging" = true) (k11 : PySem.W.keepIn K (.ref f11) = true)
    {f12 : Addr} {od12 an12 : Option Addr} {sl12 : Array (Option Value)} {oc12 kV12 dc12 pm12 cd12 ct12 : Value}
    (a12 : PySem.W.nsIn K mainGlobals "pieces_of" = some (some (.ref f12))) (l12 : K.lookup f12 = some ⟨oc12, od12, .func (PySem.W.fnOf "pieces_of" "pieces_of" (defArgs s_pieces_of) (defBody s_pieces_of) (defScope s_pieces_of) .none kV12 dc12 pm12 an12 cd12 ct12), sl12⟩)
    (c12 : PySem.W.codeIn K cd12 "pieces_of" = true) (k12 : PySem.W.keepIn K (.ref f12) = true)
    {f13 : Addr} {od13 an13 : Option Addr} {sl13 : Array (Option Value)} {oc13 kV13 dc13 pm13 cd13 ct13 : Value}
    (a13 : PySem.W.nsIn K mainGlobals "pieces" = some (some (.ref f13))) (l13 : K.lookup f13 = some ⟨oc13, od13, .func (PySem.W.fnOf "pieces" "pieces" (defArgs s_pieces) (defBody s_pieces) (defScope s_pieces) .none kV13 dc13 pm13 an13 cd13 ct13), sl13⟩)
    (c13 : PySem.W.codeIn K cd13 "pieces" = true) (k13 : PySem.W.keepIn K (.ref f13) = true)
    {f14 : Addr} {od14 an14 : Option Addr} {sl14 : Array (Option Value)} {oc14 kV14 dc14 pm14 cd14 ct14 : Value}
    (a14 : PySem.W.nsIn K mainGlobals "check_corner" = some (some (.ref f14))) (l14 : K.lookup f14 = some ⟨oc14, od14, .func (PySem.W.fnOf "check_corner" "check_corner" (defArgs s_check_corner) (defBody s_check_corner) (defScope s_check_corner) .none kV14 dc14 pm14 an14 cd14 ct14), sl14⟩)
    (c14 : PySem.W.codeIn K cd14 "check_corner" = true) (k14 : PySem.W.keepIn K (.ref f14) = true)
    {f15 : Addr} {od15 an15 : Option Addr} {sl15 : Array (Option Value)} {oc15 kV15 dc15 pm15 cd15 ct15 : Value}
    (a15 : PySem.W.nsIn K mainGlobals "piece_of" = some (some (.ref f15))) (l15 : K.lookup f15 = some ⟨oc15, od15, .func (PySem.W.fnOf "piece_of" "piece_of" (defArgs s_piece_of) (defBody s_piece_of) (defScope s_piece_of) .none kV15 dc15 pm15 an15 cd15 ct15), sl15⟩)
    (c15 : PySem.W.codeIn K cd15 "piece_of" = true) (k15 : PySem.W.keepIn K (.ref f15) = true)
    {f16 : Addr} {od16 an16 : Option Addr} {sl16 : Array (Option Value)} {oc16 kV16 dc16 pm16 cd16 ct16 : Value}
    (a16 : PySem.W.nsIn K mainGlobals "at_corner" = some (some (.ref f16))) (l16 : K.lookup f16 = some ⟨oc16, od16, .func (PySem.W.fnOf "at_corner" "at_corner" (defArgs s_at_corner) (defBody s_at_corner) (defScope s_at_corner) .none kV16 dc16 pm16 an16 cd16 ct16), sl16⟩)
    (c16 : PySem.W.codeIn K cd16 "at_corner" = true) (k16 : PySem.W.keepIn K (.ref f16) = true)
    {f17 : Addr} {od17 an17 : Option Addr} {sl17 : Array (Option Value)} {oc17 kV17 dc17 pm17 cd17 ct17 : Value}
    (a17 : PySem.W.nsIn K mainGlobals "streets_at" = some (some (.ref f17))) (l17 : K.lookup f17 = some ⟨oc17, od17, .func (PySem.W.fnOf "streets_at" "streets_at" (defArgs s_streets_at) (defBody s_streets_at) (defScope s_streets_at) .none kV17 dc17 pm17 an17 cd17 ct17), sl17⟩)
    (c17 : PySem.W.codeIn K cd17 "streets_at" = true) (k17 : PySem.W.keepIn K (.ref f17) = true)
    {f18 : Addr} {od18 an18 : Option Addr} {sl18 : Array (Option Value)} {oc18 kV18 dc18 pm18 cd18 ct18 : Value}
    (a18 : PySem.W.nsIn K mainGlobals "are_between" = some (some (.ref f18))) (l18 : K.lookup f18 = some ⟨oc18, od18, .func (PySem.W.fnOf "are_between" "are_between" (defArgs s_are_between) (defBody s_are_between) (defScope s_are_between) .none kV18 dc18 pm18 an18 cd18 ct18), sl18⟩)
    (c18 : PySem.W.codeIn K cd18 "are_between" = true) (k18 : PySem.W.keepIn K (.ref f18) = true)
    {f19 : Addr} {od19 an19 : Option Addr} {sl19 : Array (Option Value)} {oc19 kV19 dc19 pm19 cd19 ct19 : Value}
    (a19 : PySem.W.nsIn K mainGlobals "is_ascending" = some (some (.ref f19))) (l19 : K.lookup f19 = some ⟨oc19, od19, .func (PySem.W.fnOf "is_ascending" "is_ascending" (defArgs s_is_ascending) (defBody s_is_ascending) (defScope s_is_ascending) .none kV19 dc19 pm19 an19 cd19 ct19), sl19⟩)
    (c19 : PySem.W.codeIn K cd19 "is_ascending" = true) (k19 : PySem.W.keepIn K (.ref f19) = true)
    {f20 : Addr} {od20 an20 : Option Addr} {sl20 : Array (Option Value)} {oc20 kV20 dc20 pm20 cd20 ct20 : Value}
    (a20 : PySem.W.nsIn K mainGlobals "is_lot" = some (some (.ref f20))) (l20 : K.lookup f20 = some ⟨oc20, od20, .func (PySem.W.fnOf "is_lot" "is_lot" (defArgs s_is_lot) (defBody s_is_lot) (defScope s_is_lot) .none kV20 dc20 pm20 an20 cd20 ct20), sl20⟩)
    (c20 : PySem.W.codeIn K cd20 "is_lot" = true) (k20 : PySem.W.keepIn K (.ref f20) = true)
    {f21 : Addr} {od21 an21 : Option Addr} {sl21 : Array (Option Value)} {oc21 kV21 dc21 pm21 cd21 ct21 : Value}
    (a21 : PySem.W.nsIn K mainGlobals "check_lot" = some (some (.ref f21))) (l21 : K.lookup f21 = some ⟨oc21, od21, .func (PySem.W.fnOf "check_lot" "check_lot" (defArgs s_check_lot) (defBody s_check_lot) (defScope s_check_lot) .none kV21 dc21 pm21 an21 cd21 ct21), sl21⟩)
    (c21 : PySem.W.codeIn K cd21 "check_lot" = true) (k21 : PySem.W.keepIn K (.ref f21) = true)
    {f22 : Addr} {od22 an22 : Option Addr} {sl22 : Array (Option Value)} {oc22 kV22 dc22 pm22 cd22 ct22 : Value}
    (a22 : PySem.W.nsIn K mainGlobals "crossing" = some (some (.ref f22))) (l22 : K.lookup f22 = some ⟨oc22, od22, .func (PySem.W.fnOf "crossing" "crossing" (defArgs s_crossing) (defBody s_crossing) (defScope s_crossing) .none kV22 dc22 pm22 an22 cd22 ct22), sl22⟩)
    (c22 : PySem.W.codeIn K cd22 "crossing" = true) (k22 : PySem.W.keepIn K (.ref f22) = true)
    {f23 : Addr} {od23 an23 : Option Addr} {sl23 : Array (Option Value)} {oc23 kV23 dc23 pm23 cd23 ct23 : Value}
    (a23 : PySem.W.nsIn K mainGlobals "across" = some (some (.ref f23))) (l23 : K.lookup f23 = some ⟨oc23, od23, .func (PySem.W.fnOf "across" "across" (defArgs s_across) (defBody s_across) (defScope s_across) .none kV23 dc23 pm23 an23 cd23 ct23), sl23⟩)
    (c23 : PySem.W.codeIn K cd23 "across" = true) (k23 : PySem.W.keepIn K (.ref f23) = true)
    {f24 : Addr} {od24 an24 : Option Addr} {sl24 : Array (Option Value)} {oc24 kV24 dc24 pm24 cd24 ct24 : Value}
    (a24 : PySem.W.nsIn K mainGlobals "inside" = some (some (.ref f24))) (l24 : K.lookup f24 = some ⟨oc24, od24, .func (PySem.W.fnOf "inside" "inside" (defArgs s_inside) (defBody s_inside) (defScope s_inside) .none kV24 dc24 pm24 an24 cd24 ct24), sl24⟩)
    (c24 : PySem.W.codeIn K cd24 "inside" = true) (k24 : PySem.W.keepIn K (.ref f24) = true)
    {f25 : Addr} {od25 an25 : Option Addr} {sl25 : Array (Option Value)} {oc25 kV25 dc25 pm25 cd25 ct25 : Value}
    (a25 : PySem.W.nsIn K mainGlobals "is_bunch" = some (some (.ref f25))) (l25 : K.lookup f25 = some ⟨oc25, od25, .func (PySem.W.fnOf "is_bunch" "is_bunch" (defArgs s_is_bunch) (defBody s_is_bunch) (defScope s_is_bunch) .none kV25 dc25 pm25 an25 cd25 ct25), sl25⟩)
    (c25 : PySem.W.codeIn K cd25 "is_bunch" = true) (k25 : PySem.W.keepIn K (.ref f25) = true)
    {f26 : Addr} {od26 an26 : Option Addr} {sl26 : Array (Option Value)} {oc26 kV26 dc26 pm26 cd26 ct26 : Value}
    (a26 : PySem.W.nsIn K mainGlobals "check_bunch" = some (some (.ref f26))) (l26 : K.lookup f26 = some ⟨oc26, od26, .func (PySem.W.fnOf "check_bunch" "check_bunch" (defArgs s_check_bunch) (defBody s_check_bunch) (defScope s_check_bunch) .none kV26 dc26 pm26 an26 cd26 ct26), sl26⟩)
    (c26 : PySem.W.codeIn K cd26 "check_bunch" = true) (k26 : PySem.W.keepIn K (.ref f26) = true)
    {f27 : Addr} {od27 an27 : Option Addr} {sl27 : Array (Option Value)} {oc27 kV27 dc27 pm27 cd27 ct27 : Value}
    (a27 : PySem.W.nsIn K mainGlobals "part_of" = some (some (.ref f27))) (l27 : K.lookup f27 = some ⟨oc27, od27, .func (PySem.W.fnOf "part_of" "part_of" (defArgs s_part_of) (defBody s_part_of) (defScope s_part_of) .none kV27 dc27 pm27 an27 cd27 ct27), sl27⟩)
    (c27 : PySem.W.codeIn K cd27 "part_of" = true) (k27 : PySem.W.keepIn K (.ref f27) = true)
    {f28 : Addr} {od28 an28 : Option Addr} {sl28 : Array (Option Value)} {oc28 kV28 dc28 pm28 cd28 ct28 : Value}
    (a28 : PySem.W.nsIn K mainGlobals "part" = some (some (.ref f28))) (l28 : K.lookup f28 = some ⟨oc28, od28, .func (PySem.W.fnOf "part" "part" (defArgs s_part) (defBody s_part) (defScope s_part) .none kV28 dc28 pm28 an28 cd28 ct28), sl28⟩)
    (c28 : PySem.W.codeIn K cd28 "part" = true) (k28 : PySem.W.keepIn K (.ref f28) = true)
    {f29 : Addr} {od29 an29 : Option Addr} {sl29 : Array (Option Value)} {oc29 kV29 dc29 pm29 cd29 ct29 : Value}
    (a29 : PySem.W.nsIn K mainGlobals "odd_by" = some (some (.ref f29))) (l29 : K.lookup f29 = some ⟨oc29, od29, .func (PySem.W.fnOf "odd_by" "odd_by" (defArgs s_odd_by) (defBody s_odd_by) (defScope s_odd_by) .none kV29 dc29 pm29 an29 cd29 ct29), sl29⟩)
    (c29 : PySem.W.codeIn K cd29 "odd_by" = true) (k29 : PySem.W.keepIn K (.ref f29) = true)
    {f30 : Addr} {od30 an30 : Option Addr} {sl30 : Array (Option Value)} {oc30 kV30 dc30 pm30 cd30 ct30 : Value}
    (a30 : PySem.W.nsIn K mainGlobals "_law_take" = some (some (.ref f30))) (l30 : K.lookup f30 = some ⟨oc30, od30, .func (PySem.W.fnOf "_law_take" "_law_take" (defArgs s__law_take) (defBody s__law_take) (defScope s__law_take) .none kV30 dc30 pm30 an30 cd30 ct30), sl30⟩)
    (c30 : PySem.W.codeIn K cd30 "_law_take" = true) (k30 : PySem.W.keepIn K (.ref f30) = true)
    {f31 : Addr} {od31 an31 : Option Addr} {sl31 : Array (Option Value)} {oc31 kV31 dc31 pm31 cd31 ct31 : Value}
    (a31 : PySem.W.nsIn K mainGlobals "_law_of" = some (some (.ref f31))) (l31 : K.lookup f31 = some ⟨oc31, od31, .func (PySem.W.fnOf "_law_of" "_law_of" (defArgs s__law_of) (defBody s__law_of) (defScope s__law_of) .none kV31 dc31 pm31 an31 cd31 ct31), sl31⟩)
    (c31 : PySem.W.codeIn K cd31 "_law_of" = true) (k31 : PySem.W.keepIn K (.ref f31) = true)
    {f32 : Addr} {od32 an32 : Option Addr} {sl32 : Array (Option Value)} {oc32 kV32 dc32 pm32 cd32 ct32 : Value}
    (a32 : PySem.W.nsIn K mainGlobals "_law_some" = some (some (.ref f32))) (l32 : K.lookup f32 = some ⟨oc32, od32, .func (PySem.W.fnOf "_law_some" "_law_some" (defArgs s__law_some) (defBody s__law_some) (defScope s__law_some) .none kV32 dc32 pm32 an32 cd32 ct32), sl32⟩)
    (c32 : PySem.W.codeIn K cd32 "_law_some" = true) (k32 : PySem.W.keepIn K (.ref f32) = true)
    {f33 : Addr} {od33 an33 : Option Addr} {sl33 : Array (Option Value)} {oc33 kV33 dc33 pm33 cd33 ct33 : Value}
    (a33 : PySem.W.nsIn K mainGlobals "_law_town" = some (some (.ref f33))) (l33 : K.lookup f33 = some ⟨oc33, od33, .func (PySem.W.fnOf "_law_town" "_law_town" (defArgs s__law_town) (defBody s__law_town) (defScope s__law_town) .none kV33 dc33 pm33 an33 cd33 ct33), sl33⟩)
    (c33 : PySem.W.codeIn K cd33 "_law_town" = true) (k33 : PySem.W.keepIn K (.ref f33) = true)
    {f34 : Addr} {od34 an34 : Option Addr} {sl34 : Array (Option Value)} {oc34 kV34 dc34 pm34 cd34 ct34 : Value}
    (a34 : PySem.W.nsIn K mainGlobals "_law_degrees" = some (some (.ref f34))) (l34 : K.lookup f34 = some ⟨oc34, od34, .func (PySem.W.fnOf "_law_degrees" "_law_degrees" (defArgs s__law_degrees) (defBody s__law_degrees) (defScope s__law_degrees) .none kV34 dc34 pm34 an34 cd34 ct34), sl34⟩)
    (c34 : PySem.W.codeIn K cd34 "_law_degrees" = true) (k34 : PySem.W.keepIn K (.ref f34) = true)
    {f35 : Addr} {od35 an35 : Option Addr} {sl35 : Array (Option Value)} {oc35 kV35 dc35 pm35 cd35 ct35 : Value}
    (a35 : PySem.W.nsIn K mainGlobals "_law_odd_ones" = some (some (.ref f35))) (l35 : K.lookup f35 = some ⟨oc35, od35, .func (PySem.W.fnOf "_law_odd_ones" "_law_odd_ones" (defArgs s__law_odd_ones) (defBody s__law_odd_ones) (defScope s__law_odd_ones) .none kV35 dc35 pm35 an35 cd35 ct35), sl35⟩)
    (c35 : PySem.W.codeIn K cd35 "_law_odd_ones" = true) (k35 : PySem.W.keepIn K (.ref f35) = true)
    {f36 : Addr} {od36 an36 : Option Addr} {sl36 : Array (Option Value)} {oc36 kV36 dc36 pm36 cd36 ct36 : Value}
    (a36 : PySem.W.nsIn K mainGlobals "_law_pieces" = some (some (.ref f36))) (l36 : K.lookup f36 = some ⟨oc36, od36, .func (PySem.W.fnOf "_law_pieces" "_law_pieces" (defArgs s__law_pieces) (defBody s__law_pieces) (defScope s__law_pieces) .none kV36 dc36 pm36 an36 cd36 ct36), sl36⟩)
    (c36 : PySem.W.codeIn K cd36 "_law_pieces" = true) (k36 : PySem.W.keepIn K (.ref f36) = true)
    {f37 : Addr} {od37 an37 : Option Addr} {sl37 : Array (Option Value)} {oc37 kV37 dc37 pm37 cd37 ct37 : Value}
    (a37 : PySem.W.nsIn K mainGlobals "_law_odd_by" = some (some (.ref f37))) (l37 : K.lookup f37 = some ⟨oc37, od37, .func (PySem.W.fnOf "_law_odd_by" "_law_odd_by" (defArgs s__law_odd_by) (defBody s__law_odd_by) (defScope s__law_odd_by) .none kV37 dc37 pm37 an37 cd37 ct37), sl37⟩)
    (c37 : PySem.W.codeIn K cd37 "_law_odd_by" = true) (k37 : PySem.W.keepIn K (.ref f37) = true)
    {f38 : Addr} {od38 an38 : Option Addr} {sl38 : Array (Option Value)} {oc38 kV38 dc38 pm38 cd38 ct38 : Value}
    (a38 : PySem.W.nsIn K mainGlobals "_law_odd" = some (some (.ref f38))) (l38 : K.lookup f38 = some ⟨oc38, od38, .func (PySem.W.fnOf "_law_odd" "_law_odd" (defArgs s__law_odd) (defBody s__law_odd) (defScope s__law_odd) .none kV38 dc38 pm38 an38 cd38 ct38), sl38⟩)
    (c38 : PySem.W.codeIn K cd38 "_law_odd" = true) (k38 : PySem.W.keepIn K (.ref f38) = true)
    {f39 : Addr} {od39 an39 : Option Addr} {sl39 : Array (Option Value)} {oc39 kV39 dc39 pm39 cd39 ct39 : Value}
    (a39 : PySem.W.nsIn K mainGlobals "_law_bent" = some (some (.ref f39))) (l39 : K.lookup f39 = some ⟨oc39, od39, .func (PySem.W.fnOf "_law_bent" "_law_bent" (defArgs s__law_bent) (defBody s__law_bent) (defScope s__law_bent) .none kV39 dc39 pm39 an39 cd39 ct39), sl39⟩)
    (c39 : PySem.W.codeIn K cd39 "_law_bent" = true) (k39 : PySem.W.keepIn K (.ref f39) = true)
    {f40 : Addr} {od40 an40 : Option Addr} {sl40 : Array (Option Value)} {oc40 kV40 dc40 pm40 cd40 ct40 : Value}
    (a40 : PySem.W.nsIn K mainGlobals "_law_is_town" = some (some (.ref f40))) (l40 : K.lookup f40 = some ⟨oc40, od40, .func (PySem.W.fnOf "_law_is_town" "_law_is_town" (defArgs s__law_is_town) (defBody s__law_is_town) (defScope s__law_is_town) .none kV40 dc40 pm40 an40 cd40 ct40), sl40⟩)
    (c40 : PySem.W.codeIn K cd40 "_law_is_town" = true) (k40 : PySem.W.keepIn K (.ref f40) = true)
    {f41 : Addr} {od41 an41 : Option Addr} {sl41 : Array (Option Value)} {oc41 kV41 dc41 pm41 cd41 ct41 : Value}
    (a41 : PySem.W.nsIn K mainGlobals "_law_right" = some (some (.ref f41))) (l41 : K.lookup f41 = some ⟨oc41, od41, .func (PySem.W.fnOf "_law_right" "_law_right" (defArgs s__law_right) (defBody s__law_right) (defScope s__law_right) .none kV41 dc41 pm41 an41 cd41 ct41), sl41⟩)
    (c41 : PySem.W.codeIn K cd41 "_law_right" = true) (k41 : PySem.W.keepIn K (.ref f41) = true)
    {f42 : Addr} {od42 an42 : Option Addr} {sl42 : Array (Option Value)} {oc42 kV42 dc42 pm42 cd42 ct42 : Value}
    (a42 : PySem.W.nsIn K mainGlobals "law" = some (some (.ref f42))) (l42 : K.lookup f42 = some ⟨oc42, od42, .func (PySem.W.fnOf "law" "law" (defArgs s_law) (defBody s_law) (defScope s_law) .none kV42 dc42 pm42 an42 cd42 ct42), sl42⟩)
    (c42 : PySem.W.codeIn K cd42 "law" = true) (k42 : PySem.W.keepIn K (.ref f42) = true)
    (z_abs : PySem.W.nsIn K mainGlobals "abs" = some none)
    (z_all : PySem.W.nsIn K mainGlobals "all" = some none)
    (z_any : PySem.W.nsIn K mainGlobals "any" = some none)
    (z_bool : PySem.W.nsIn K mainGlobals "bool" = some none)
    (z_enumerate : PySem.W.nsIn K mainGlobals "enumerate" = some none)
    (z_int : PySem.W.nsIn K mainGlobals "int" = some none)
    (z_isinstance : PySem.W.nsIn K mainGlobals "isinstance" = some none)
    (z_len : PySem.W.nsIn K mainGlobals "len" = some none)
    (z_list : PySem.W.nsIn K mainGlobals "list" = some none)
    (z_max : PySem.W.nsIn K mainGlobals "max" = some none)
    (z_min : PySem.W.nsIn K mainGlobals "min" = some none)
    (z_range : PySem.W.nsIn K mainGlobals "range" = some none)
    (z_repr : PySem.W.nsIn K mainGlobals "repr" = some none)
    (z_set : PySem.W.nsIn K mainGlobals "set" = some none)
    (z_sorted : PySem.W.nsIn K mainGlobals "sorted" = some none)
    (z_str : PySem.W.nsIn K mainGlobals "str" = some none)
    (z_sum : PySem.W.nsIn K mainGlobals "sum" = some none)
    (z_tuple : PySem.W.nsIn K mainGlobals "tuple" = some none)
    (z_zip : PySem.W.nsIn K mainGlobals "zip" = some none)
    {t_MOST_CORNERS : Tok} (n_MOST_CORNERS : PySem.W.nsIn K mainGlobals "MOST_CORNERS" = some (some (.int 12 t_MOST_CORNERS)))
    {t_MOST_STREETS : Tok} (n_MOST_STREETS : PySem.W.nsIn K mainGlobals "MOST_STREETS" = some (some (.int 40 t_MOST_STREETS)))
    {t_THREE : Tok} (n_THREE : PySem.W.nsIn K mainGlobals "THREE" = some (some (.int 3 t_THREE)))
    (n_MOST_LENGTH : ∃ t, mg "MOST_LENGTH" = some (.int 1000000 t))
    : Top K mg where
  d__law_pot := DefAt.mk KX G a0 l0 c0 k0 fun _ _ _ _ _ _ us hl => match us, hl with | [_, _], _ => rfl
  d__law_cells := DefAt.mk KX G a1 l1 c1 k1 fun _ _ _ _ _ _ us hl => match us, hl with | [_, _], _ => rfl
  d_is_integer := DefAt.mk KX G a2 l2 c2 k2 fun _ _ _ _ _ _ us hl => match us, hl with | [_], _ => rfl
  d_is_between := DefAt.mk KX G a3 l3 c3 k3 fun _ _ _ _ _ _ us hl => match us, hl with | [_, _, _], _ => rfl
  d_is_street := DefAt.mk KX G a4 l4 c4 k4 fun _ _ _ _ _ _ us hl => match us, hl with | [_, _], _ => rfl
  d_is_town := DefAt.mk KX G a5 l5 c5 k5 fun _ _ _ _ _ _ us hl => match us, hl with | [_], _ => rfl
  d_check_town := DefAt.mk KX G a6 l6 c6 k6 fun _ _ _ _ _ _ us hl => match us, hl with | [_], _ => rfl
  d_degrees_of := DefAt.mk KX G a7 l7 c7 k7 fun _ _ _ _ _ _ us hl => match us, hl with | [_], _ => rfl
  d_degrees := DefAt.mk KX G a8 l8 c8 k8 fun _ _ _ _ _ _ us hl => match us, hl with | [_], _ => rfl
  d_odd_of := DefAt.mk KX G a9 l9 c9 k9 fun _ _ _ _ _ _ us hl => match us, hl with | [_], _ => rfl
  d_odd := DefAt.mk KX G a10 l10 c10 k10 fun _ _ _ _ _ _ us hl => match us, hl with | [_], _ => rfl
  d_hanging := DefAt.mk KX G a11 l11 c11 k11 fun _ _ _ _ _ _ us hl => match us, hl with | [_, _], _ => rfl
  d_pieces_of := DefAt.mk KX G a12 l12 c12 k12 fun _ _ _ _ _ _ us hl => match us, hl with | [_], _ => rfl
  d_pieces := DefAt.mk KX G a13 l13 c13 k13 fun _ _ _ _ _ _ us hl => match us, hl with | [_], _ => rfl
  d_check_corner := DefAt.mk KX G a14 l14 c14 k14 fun _ _ _ _ _ _ us hl => match us, hl with | [_, _], _ => rfl
  d_piece_of := DefAt.mk KX G a15 l15 c15 k15 fun _ _ _ _ _ _ us hl => match us, hl with | [_, _], _ => rfl
  d_at_corner := DefAt.mk KX G a16 l16 c16 k16 fun _ _ _ _ _ _ us hl => match us, hl with | [_, _], _ => rfl
  d_streets_at := DefAt.mk KX G a17 l17 c17 k17 fun _ _ _ _ _ _ us hl => match us, hl with | [_, _], _ => rfl
  d_are_between := DefAt.mk KX G a18 l18 c18 k18 fun _ _ _ _ _ _ us hl => match us, hl with | [_, _, _], _ => rfl
  d_is_ascending := DefAt.mk KX G a19 l19 c19 k19 fun _ _ _ _ _ _ us hl => match us, hl with | [_], _ => rfl
  d_is_lot := DefAt.mk KX G a20 l20 c20 k20 fun _ _ _ _ _ _ us hl => match us, hl with | [_, _], _ => rfl
  d_check_lot := DefAt.mk KX G a21 l21 c21 k21 fun _ _ _ _ _ _ us hl => match us, hl with | [_, _], _ => rfl
  d_crossing := DefAt.mk KX G a22 l22 c22 k22 fun _ _ _ _ _ _ us hl => match us, hl with | [_, _], _ => rfl
  d_across := DefAt.mk KX G a23 l23 c23 k23 fun _ _ _ _ _ _ us hl => match us, hl with | [_, _], _ => rfl
  d_inside := DefAt.mk KX G a24 l24 c24 k24 fun _ _ _ _ _ _ us hl => match us, hl with | [_, _], _ => rfl
  d_is_bunch := DefAt.mk KX G a25 l25 c25 k25 fun _ _ _ _ _ _ us hl => match us, hl with | [_, _], _ => rfl
  d_check_bunch := DefAt.mk KX G a26 l26 c26 k26 fun _ _ _ _ _ _ us hl => match us, hl with | [_, _], _ => rfl
  d_part_of := DefAt.mk KX G a27 l27 c27 k27 fun _ _ _ _ _ _ us hl => match us, hl with | [_, _], _ => rfl
  d_part := DefAt.mk KX G a28 l28 c28 k28 fun _ _ _ _ _ _ us hl => match us, hl with | [_, _], _ => rfl
  d_odd_by := DefAt.mk KX G a29 l29 c29 k29 fun _ _ _ _ _ _ us hl => match us, hl with | [_, _], _ => rfl
  d__law_take := DefAt.mk KX G a30 l30 c30 k30 fun _ _ _ _ _ _ us hl => match us, hl with | [_, _], _ => rfl
  d__law_of := DefAt.mk KX G a31 l31 c31 k31 fun _ _ _ _ _ _ us hl => match us, hl with | [_, _], _ => rfl
  d__law_some := DefAt.mk KX G a32 l32 c32 k32 fun _ _ _ _ _ _ us hl => match us, hl with | [_, _, _], _ => rfl
  d__law_town := DefAt.mk KX G a33 l33 c33 k33 fun _ _ _ _ _ _ us hl => match us, hl with | [_, _, _], _ => rfl
  d__law_degrees := DefAt.mk KX G a34 l34 c34 k34 fun _ _ _ _ _ _ us hl => match us, hl with | [_], _ => rfl
  d__law_odd_ones := DefAt.mk KX G a35 l35 c35 k35 fun _ _ _ _ _ _ us hl => match us, hl with | [_], _ => rfl
  d__law_pieces := DefAt.mk KX G a36 l36 c36 k36 fun _ _ _ _ _ _ us hl => match us, hl with | [_], _ => rfl
  d__law_odd_by := DefAt.mk KX G a37 l37 c37 k37 fun _ _ _ _ _ _ us hl => match us, hl with | [_, _], _ => rfl
  d__law_odd := DefAt.mk KX G a38 l38 c38 k38 fun _ _ _ _ _ _ us hl => match us, hl with | [_], _ => rfl
  d__law_bent := DefAt.mk KX G a39 l39 c39 k39 fun _ _ _ _ _ _ us hl => match us, hl with | [_, _], _ => rfl
  d__law_is_town := DefAt.mk KX G a40 l40 c40 k40 fun _ _ _ _ _ _ us hl => match us, hl with | [_], _ => rfl
  d__law_right := DefAt.mk KX G a41 l41 c41 k41 fun _ _ _ _ _ _ us hl => match us, hl with | [_, _, _], _ => rfl
  d_law := DefAt.mk KX G a42 l42 c42 k42 fun _ _ _ _ _ _ us hl => match us, hl with | [_], _ => rfl
  z_abs := PySem.W.mg_none_of KX G z_abs
  z_all := PySem.W.mg_none_of KX G z_all
  z_any := PySem.W.mg_none_of KX G z_any
  z_bool := PySem.W.mg_none_of KX G z_bool
  z_enumerate := PySem.W.mg_none_of KX G z_enumerate
  z_int := PySem.W.mg_none_of KX G z_int
  z_isinstance := PySem.W.mg_none_of KX G z_isinstance
  z_len := PySem.W.mg_none_of KX G z_len
  z_list := PySem.W.mg_none_of KX G z_list
  z_max := PySem.W.mg_none_of KX G z_max
  z_min := PySem.W.mg_none_of KX G z_min
  z_range := PySem.W.mg_none_of KX G z_range
  z_repr := PySem.W.mg_none_of KX G z_repr
  z_set := PySem.W.mg_none_of KX G z_set
  z_sorted := PySem.W.mg_none_of KX G z_sorted
  z_str := PySem.W.mg_none_of KX G z_str
  z_sum := PySem.W.mg_none_of KX G z_sum
  z_tuple := PySem.W.mg_none_of KX G z_tuple
  z_zip := PySem.W.mg_none_of KX G z_zip
  c_MOST_CORNERS := ⟨_, PySem.W.mg_of KX G n_MOST_CORNERS⟩
  c_MOST_LENGTH := n_MOST_LENGTH
  c_MOST_STREETS := ⟨_, PySem.W.mg_of KX G n_MOST_STREETS⟩
  c_THREE := ⟨_, PySem.W.mg_of KX G n_THREE⟩
theorem top_end {P : Program} {w : World} {K : PySem.W.Frag} {mg : Str → Option Value} {fa : Addr} (T : Top K mg) (hmg : mg "law" = some (.ref fa)) :
    ∃ fd : FuncData, (∀ (s : Shared) (u : Value), BindsTo s fd ⟨[u], []⟩ [("script", u)]) ∧ ∀ base : Heap, K.In base → base.Ns mainGlobals mg → FnG P w K mg base 14 fa fd ["script"] g_law := by
  obtain ⟨f, fd, F, hm, hb⟩ := T.d_law
  rw [hm] at hmg
  cases hmg
  obtain ⟨oc, od, kV, doc, pm, an, cdv, ct, osl, rfl, lk, hcd⟩ := id F.ex
  exact ⟨_, fun s v => .of_eq rfl, fun base _ _ => fn_law T F⟩
end Lk10
end
section
set_option Elab.async false
set_option linter.all false
set_option maxRecDepth 100000
set_option maxHeartbeats 4000000
namespace Lk10
open PySem Fd L2
local macro_rules | `(tactic| walk_at "fd1") => `(tactic| with_reducible first
  | refine v_mSeq ?_ | refine v_m2 ?_ | refine v_mVar rfl ?_ | refine v_mC ?_ | refine v_mN ?_ | refine v_mCons ?_ | refine v_mNil ?_ | refine v_m1 ?_ | refine v_mB ?_ | refine v_mIfS ?_ | refine v_mAsg ?_ | refine v_mRet ?_ | refine v_gN ?_ | refine v_gS ?_
  | refine v_mNext ?_ | refine v_mAndV ?_ | refine v_mOrV ?_ | refine v_mNotV ?_ | refine v_mAnd ?_ | refine v_mOr ?_ | refine v_mNot ?_ | refine v_mIf ?_ | refine v_mChn ?_ | refine v_lkLast ?_ | refine v_lkCons ?_ | refine v_mSl ?_ | refine v_mPartN ?_ | refine v_mPartS ?_ | refine v_mSlS ?_ | refine v_mM ?_
  | refine v_mDnew ?_ | refine v_mPnil ?_ | refine v_mPair ?_ | refine v_mDrop ?_ | refine v_mRetN ?_ | refine v_mPar2 ?_ | refine v_mPar3 ?_ | refine v_mFor ?_ | refine v_mLc ?_ | refine v_mIt ?_ | refine v_mEnum ?_ | refine v_mRng ?_ | refine v_gsNil ?_ | refine v_gsCons ?_ | refine v_yes ?_
  | refine v_endN ?_ | refine v_endR ?_ | refine v_nx ?_ | refine v_rt ?_ | refine v_bl ?_ | refine v_kin ?_ | refine v_itt ?_ | refine v_iff ?_
  | refine W.of s_add ?_ | refine W.of s_sub ?_ | refine W.of (s_i2 _) ?_ | refine W.of s_int ?_ | refine W.of s_intb ?_ | refine W.of s_abs ?_ | refine W.of s_neg ?_ | refine W.of s_eqi ?_ | refine W.of s_nei ?_ | refine W.of s_eqb ?_ | refine W.of s_neb ?_ | refine W.of s_lent ?_ | refine W.of s_lenr ?_)
local macro_rules | `(tactic| walk_at "fd") => `(tactic| repeat walk_at "fd1")
theorem mulOk_l {i j : Int} (h : i.natAbs < 18446744073709551616) : mulOk i j = true := by unfold mulOk; simp [h]
theorem mulOk_r {i j : Int} (h : j.natAbs < 18446744073709551616) : mulOk i j = true := by unfold mulOk; simp [h]
theorem powOk_3 {i : Int} (h : i.natAbs < 18446744073709551616) : powOk i 3 = true := by
  unfold powOk
  have : i.natAbs.log2 < 64 := by
    by_cases e : i.natAbs = 0
    · rw [e]; decide
    · exact (Nat.log2_lt e).mpr h
  simp only [Bool.and_eq_true, decide_eq_true_eq]
  exact ⟨by decide, by omega⟩
theorem atI_nn {xs : List D} {i : Int} (h : 0 ≤ i) (h2 : i < xs.length) : atI xs i = xs[i.toNat]? := by
  unfold atI ixN
  rw [if_pos h, if_pos h2]
  rfl
def Pot (p c : Nat) (st : Sto) : Prop := ∃ x y z : Int, st[p]? = some (.lst [.int x, .int y, .int z]) ∧ 0 ≤ y ∧ y < 2 ^ 61 ∧ 0 ≤ z ∧ z ≤ c
theorem Pot.mono {p c c' : Nat} {st : Sto} (h : Pot p c st) (l : c ≤ c') : Pot p c' st := by
  obtain ⟨x, y, z, h, a, b, e, f⟩ := h
  exact ⟨x, y, z, h, a, b, e, by omega⟩
theorem take_W {p c : Nat} {u : Int} {st : Sto} (hp : Pot p c st) (hc : c ≤ 1000000) (hu : 0 < u) (hu2 : u < 2 ^ 63) {Q : D → Sto → Prop}
    (q : ∀ k st', 0 ≤ k → k < u → Pot p (c + 1) st' → Kx [p] st st' → Q (.int k) st') : W (g__law_take [.ref p, .int u] st) Q := by
  obtain ⟨x, y, z, h, hy0, hy1, hz0, hz1⟩ := hp
  unfold g__law_take m__law_take
  refine v_fnD rfl ?_
  walk_at "fd"
  refine W.of (s_ixl h rfl) ?_
  walk_at "fd"
  cases hx : decide (0 < x)
  · walk_at "fd"
    refine W.of (s_ixl h rfl) ?_
    walk_at "fd"
    refine W.of (s_set h rfl) ?_
    walk_at "fd"
    refine W.of (s_newL (by decide)) ?_
    have kp := get_set h (.lst [.int x, .int y, .int (z + 1)])
    generalize e2 : List.set st p (O.lst ([D.int x, D.int y, D.int z].set (Int.toNat 2) (D.int (z + 1)))) = st2
    have h2 : st2[p]? = some (.lst [.int x, .int y, .int (z + 1)]) := by rw [← e2]; exact kp
    have k2 : Kx [p] st st2 := by rw [← e2]; exact Kx.refl.set (.inl List.mem_cons_self)
    have h3 : ∀ o : O, (st2 ++ [o])[p]? = some (.lst [.int x, .int y, .int (z + 1)]) := fun o => by rw [List.getElem?_append_left (lt_of h2)]; exact h2
    walk_at "fd"
    refine W.of (s_ixl (h3 _) rfl) ?_
    walk_at "fd"
    refine W.of (s_mod (by decide)) ?_
    obtain ⟨pr, e4, hp0, hp1⟩ : ∃ pr : Int, atI [D.int 2147483647, D.int 2147483629, D.int 2147483587, D.int 2147483579, D.int 2147483563] ((z + 1) % 5) = some (.int pr) ∧ 0 < pr ∧ pr ≤ 2147483647 := by
      have a0 := Int.emod_nonneg (z + 1) (show (5 : Int) ≠ 0 by decide)
      have a1 := Int.emod_lt_of_pos (z + 1) (show (0 : Int) < 5 by decide)
      rw [atI_nn a0 (by simpa using a1)]
      have : (z + 1) % 5 = 0 ∨ (z + 1) % 5 = 1 ∨ (z + 1) % 5 = 2 ∨ (z + 1) % 5 = 3 ∨ (z + 1) % 5 = 4 := by omega
      rcases this with e | e | e | e | e <;> rw [e] <;> exact ⟨_, rfl, by decide, by decide⟩
    refine W.of (s_ixl get_new e4) ?_
    walk_at "fd"
    refine W.of (s_ixl (h3 _) rfl) ?_
    walk_at "fd"
    refine W.of (s_ixl (h3 _) rfl) ?_
    refine W.of (s_mul (mulOk_l (by decide))) ?_
    walk_at "fd"
    refine W.of (s_ixl (h3 _) rfl) ?_
    refine W.of (s_mul (mulOk_r (by omega))) ?_
    walk_at "fd"
    have hz2 : 99859 * (z + 1) * (z + 1) ≤ 99859 * 1000001 * 1000001 := Int.mul_le_mul (by omega) (by omega) (by omega) (by omega)
    have hz3 : 0 ≤ 99859 * (z + 1) * (z + 1) := Int.mul_nonneg (by omega) (by omega)
    generalize 99859 * (z + 1) * (z + 1) = zz at hz2 hz3 ⊢
    have big : (y + zz + 683).natAbs < 18446744073709551616 := by omega
    have pk : powOk (y + zz + 683) 3 = true := powOk_3 big
    with_reducible refine W.of (s_pow pk) ?_
    walk_at "fd"
    refine W.of (s_mod hp0) ?_
    walk_at "fd"
    generalize e5 : (y + zz + 683) ^ Int.toNat 3 % pr = bl
    have b0 : 0 ≤ bl := by rw [← e5]; exact Int.emod_nonneg _ (by omega)
    have b1 : bl < pr := by rw [← e5]; exact Int.emod_lt_of_pos _ hp0
    refine W.of (s_mod (by decide)) ?_
    walk_at "fd"
    refine W.of (s_ixl (h3 _) rfl) ?_
    refine W.of (s_mul (mulOk_l (by decide))) ?_
    walk_at "fd"
    refine W.of (s_mul (mulOk_l (by omega))) ?_
    walk_at "fd"
    refine W.of (s_mod (by decide)) ?_
    walk_at "fd"
    refine W.of (s_fdiv (by decide) (by decide)) ?_
    walk_at "fd"
    refine W.of (s_mod hu) ?_
    walk_at "fd"
    exact q _ _ (Int.emod_nonneg _ (by omega)) (Int.emod_lt_of_pos _ hu) ⟨x, y, z + 1, h3 _, hy0, hy1, by omega, by omega⟩ (k2.push _)
  · walk_at "fd"
    refine W.of (s_ixl h rfl) ?_
    walk_at "fd"
    refine W.of (s_mod hu) ?_
    walk_at "fd"
    refine W.of (s_ixl h rfl) ?_
    walk_at "fd"
    have lg : u.natAbs.log2 < 9000 := by
      have : u.natAbs.log2 < 64 := (Nat.log2_lt (by omega)).mpr (by omega)
      omega
    refine W.of (s_fdiv hu lg) ?_
    walk_at "fd"
    refine W.of (s_set h rfl) ?_
    walk_at "fd"
    exact q _ _ (Int.emod_nonneg _ (by omega)) (Int.emod_lt_of_pos _ hu) ⟨x / u, y, z, get_set h _, hy0, hy1, hz0, by omega⟩ (Kx.refl.set (.inl List.mem_cons_self))
end Lk10
end
section
set_option Elab.async false
set_option linter.all false
set_option maxRecDepth 100000
set_option maxHeartbeats 4000000
namespace Lk10
open PySem Fd L2
local macro_rules | `(tactic| walk_at "fd1") => `(tactic| with_reducible first
  | refine v_mSeq ?_ | refine v_m2 ?_ | refine v_mVar rfl ?_ | refine v_mC ?_ | refine v_mN ?_ | refine v_mCons ?_ | refine v_mNil ?_ | refine v_m1 ?_ | refine v_mB ?_ | refine v_mIfS ?_ | refine v_mAsg ?_ | refine v_mRet ?_ | refine v_gN ?_ | refine v_gS ?_
  | refine v_mNext ?_ | refine v_mAndV ?_ | refine v_mOrV ?_ | refine v_mNotV ?_ | refine v_mAnd ?_ | refine v_mOr ?_ | refine v_mNot ?_ | refine v_mIf ?_ | refine v_mChn ?_ | refine v_lkLast ?_ | refine v_lkCons ?_ | refine v_mSl ?_ | refine v_mPartN ?_ | refine v_mPartS ?_ | refine v_mSlS ?_ | refine v_mM ?_
  | refine v_mDnew ?_ | refine v_mPnil ?_ | refine v_mPair ?_ | refine v_mDrop ?_ | refine v_mRetN ?_ | refine v_mPar2 ?_ | refine v_mPar3 ?_ | refine v_mFor ?_ | refine v_mLc ?_ | refine v_mIt ?_ | refine v_mEnum ?_ | refine v_mRng ?_ | refine v_gsNil ?_ | refine v_gsCons ?_ | refine v_yes ?_
  | refine v_endN ?_ | refine v_endR ?_ | refine v_nx ?_ | refine v_rt ?_ | refine v_bl ?_ | refine v_kin ?_ | refine v_itt ?_ | refine v_iff ?_
  | refine W.of s_add ?_ | refine W.of s_sub ?_ | refine W.of (s_i2 _) ?_ | refine W.of s_int ?_ | refine W.of s_intb ?_ | refine W.of s_abs ?_ | refine W.of s_neg ?_ | refine W.of s_eqi ?_ | refine W.of s_nei ?_ | refine W.of s_eqb ?_ | refine W.of s_neb ?_ | refine W.of s_lent ?_ | refine W.of s_lenr ?_)
local macro_rules | `(tactic| walk_at "fd") => `(tactic| repeat walk_at "fd1")
theorem of_W {p c : Nat} {d : D} {xs : List D} {st : Sto} (hp : Pot p c st) (hc : c ≤ 1000000) (hs : SeqK [p] d st xs) (ne : xs ≠ []) (small : xs.length < 1000000) {Q : D → Sto → Prop}
    (q : ∀ (k : Nat) x st', xs[k]? = some x → Pot p (c + 1) st' → Kx [p] st st' → Q x st') : W (g__law_of [.ref p, d] st) Q := by
  have h0 : 0 < xs.length := List.length_pos_iff.mpr ne
  unfold g__law_of m__law_of
  refine v_fnD rfl ?_
  walk_at "fd"
  with_reducible refine W.of (s_lenq hs.seq) ?_
  walk_at "fd"
  refine take_W hp hc (by omega) (by omega) fun k st' k0 k1 hp' kx => ?_
  have hk : k.toNat < xs.length := by omega
  with_reducible refine W.of (s_ixq (hs.keep kx).seq ((atI_nn k0 k1).trans (List.getElem?_eq_getElem hk))) ?_
  walk_at "fd"
  exact q k.toNat _ st' (List.getElem?_eq_getElem hk) hp' kx
theorem erase_perm {α : Type} : ∀ {xs : List α} {k : Nat} {x : α}, xs[k]? = some x → (x :: xs.eraseIdx k).Perm xs
  | y :: r, 0, x, h => by
    have : y = x := Option.some.inj h
    subst this
    exact List.Perm.refl _
  | y :: r, k + 1, x, h => by
    have h' : r[k]? = some x := h
    rw [List.eraseIdx_cons_succ]
    exact (List.Perm.swap y x _).trans ((erase_perm h').cons y)
theorem some_W {p c w : Nat} {d : D} {xs : List D} {st : Sto} (hp : Pot p c st) (hc : c + w ≤ 1000000) (hs : seqOf d st = some xs) (hw : w ≤ xs.length) (small : xs.length < 1000000) {Q : D → Sto → Prop}
    (q : ∀ ys zs st' b, (ys ++ zs).Perm xs → ys.length = w → Pot p (c + w) st' → Kx [p] st st' → st.length ≤ b → st'[b]? = some (.lst ys) → Q (.ref b) st') : W (g__law_some [.ref p, d, .int w] st) Q := by
  unfold g__law_some m__law_some
  refine v_fnD rfl ?_
  walk_at "fd"
  with_reducible refine W.of (s_list hs) ?_
  walk_at "fd"
  with_reducible refine W.of (s_newL (by decide)) ?_
  walk_at "fd"
  refine ⟨_, _, rfl, ?_⟩
  walk_at "fd"
  with_reducible refine W.of (s_rng1 (by omega) (by omega)) ?_
  have hpl : p < st.length := by obtain ⟨x, y, z, h, _⟩ := hp; exact lt_of h
  have e0 : (st ++ [O.lst xs] ++ [O.lst []])[st.length]? = some (.lst xs) := by simp
  have e1 : (st ++ [O.lst xs] ++ [O.lst []])[st.length + 1]? = some (.lst []) := by simp
  have k0 : Kx [p] st (st ++ [O.lst xs] ++ [O.lst []]) := (Kx.app _).push _
  have hp0 : Pot p c (st ++ [O.lst xs] ++ [O.lst []]) := by
    obtain ⟨x, y, z, h, r⟩ := hp
    exact ⟨x, y, z, by rw [List.append_assoc, List.getElem?_append_left (lt_of h)]; exact h, r⟩
  have main := forGo_W (gs := []) (g := gN 3) (b := mDrop (mM "list" mfAppend (mVar 4) (mCons (mM "list" mfPop1 (mVar 1) (mCons (mN g__law_take (mCons (mVar 0) (mCons (mN opLen (mCons (mVar 1) mNil)) mNil))) mNil)) mNil))) (items := rangeD 0 w)
    (Q := fun o st' => ∃ μ, o = .nx μ ∧ μ[4]? = some (some (.ref (st.length + 1))) ∧ ∃ ys zs, (ys ++ zs).Perm xs ∧ ys.length = w ∧ Pot p (c + w) st' ∧ Kx [p] st st' ∧ st'[st.length + 1]? = some (.lst ys))
    (fun i μ st' => i ≤ w ∧ ∃ ys zs lp, μ = [some (.ref p), some (.ref st.length), some (.int w), lp, some (.ref (st.length + 1))] ∧ st'[st.length]? = some (.lst zs) ∧ st'[st.length + 1]? = some (.lst ys) ∧ ys.length = i ∧ (ys ++ zs).Perm xs ∧ Pot p (c + i) st' ∧ Kx [p] st st')
    ?_ ?_ 0 [some (.ref p), some (.ref st.length), some (.int w), none, some (.ref (st.length + 1))] (st ++ [O.lst xs] ++ [O.lst []]) (Nat.zero_le _) ⟨Nat.zero_le _, [], xs, none, rfl, e0, e1, rfl, List.Perm.refl _, hp0, k0⟩
  · rw [List.drop_zero] at main
    have e : (List.set (List.set (startD 5 [D.ref p, d, D.int w]) 1 (some (D.ref st.length))) 4 (some (D.ref (List.length (st ++ [O.lst xs]))))) = [some (.ref p), some (.ref st.length), some (.int w), none, some (.ref (st.length + 1))] := by
      rw [List.length_append]; rfl
    rw [e]
    rw [Int.toNat_natCast]
    refine main.mono fun o st' ⟨μ, eo, em, ys, zs, pm, l, hp', kx, hb⟩ => ?_
    subst eo
    walk_at "fd"
    refine v_mVar (by unfold getS; rw [em]; rfl) ?_
    walk_at "fd"
    exact q ys zs st' _ pm l hp' kx (by omega) hb
  · rintro i x μ st' hx ⟨hi, ys, zs, lp, rfl, ha, hb, hl, pm, hp', kx⟩
    have hiw : i < w := by have := (List.getElem?_eq_some_iff.mp hx).1; rw [rangeD_len] at this; exact this
    rw [rangeD_get hiw] at hx
    cases hx
    refine ⟨rfl, ?_⟩
    walk_at "fd"
    refine ⟨v_tyL hb, ?_⟩
    walk_at "fd"
    refine ⟨v_tyL ha, ?_⟩
    walk_at "fd"
    with_reducible refine W.of (s_lenq (seq_lst ha)) ?_
    walk_at "fd"
    have hlen : ys.length + zs.length = xs.length := by rw [← List.length_append]; exact pm.length_eq
    refine take_W hp' (by omega) (by omega) (by omega) fun k st2 h0 h1 hp2 kx2 => ?_
    walk_at "fd"
    have np : ∀ j, st.length ≤ j → j ∉ [p] := fun j hj => by simp; omega
    have ha2 := kx2.at ha (np _ (Nat.le_refl _))
    have hb2 := kx2.at hb (np _ (Nat.le_succ _))
    have hk : k.toNat < zs.length := by omega
    with_reducible refine W.of (s_pop1 ha2 h0 (by omega) (List.getElem?_eq_getElem hk)) ?_
    walk_at "fd"
    have hb3 : (st2.set st.length (.lst (zs.eraseIdx k.toNat)))[st.length + 1]? = some (.lst ys) := by rw [List.getElem?_set_ne (by omega)]; exact hb2
    with_reducible refine W.of (s_append hb3 (Nat.lt_of_le_of_lt (show ys.length ≤ 1000000 by omega) (by decide))) ?_
    have kx3 : Kx [p] st (((st2.set st.length (.lst (zs.eraseIdx k.toNat)))).set (st.length + 1) (.lst (ys ++ [zs[k.toNat]]))) := ((kx.trans kx2).set (.inr (Nat.le_refl _))).set (.inr (Nat.le_succ _))
    refine ⟨hiw, ys ++ [zs[k.toNat]], zs.eraseIdx k.toNat, _, rfl, ?_, ?_, ?_, ?_, ?_, kx3⟩
    · rw [List.getElem?_set_ne (by omega)]; exact get_set ha2 _
    · exact get_set hb3 _
    · rw [List.length_append, hl]; rfl
    · rw [List.append_assoc]
      exact ((erase_perm (List.getElem?_eq_getElem hk)).append_left ys).trans pm
    · obtain ⟨x, y, z, h, r⟩ := hp2
      refine ⟨x, y, z, ?_, r⟩
      rw [List.getElem?_set_ne (by omega), List.getElem?_set_ne (by omega)]
      exact h
  · rintro μ st' ⟨hi, ys, zs, lp, rfl, ha, hb, hl, pm, hp', kx⟩
    rw [rangeD_len] at hl hp'
    exact ⟨rfl, _, rfl, rfl, ys, zs, pm, hl, hp', kx, hb⟩
end Lk10
end
section
set_option Elab.async false
set_option linter.all false
set_option maxRecDepth 100000
set_option maxHeartbeats 4000000
namespace Lk10
open PySem Fd L2
local macro_rules | `(tactic| walk_at "fd1") => `(tactic| with_reducible first
  | refine v_mSeq ?_ | refine v_m2 ?_ | refine v_mVar rfl ?_ | refine v_mC ?_ | refine v_mN ?_ | refine v_mCons ?_ | refine v_mNil ?_ | refine v_m1 ?_ | refine v_mB ?_ | refine v_mIfS ?_ | refine v_mAsg ?_ | refine v_mRet ?_ | refine v_gN ?_ | refine v_gS ?_
  | refine v_mNext ?_ | refine v_mAndV ?_ | refine v_mOrV ?_ | refine v_mNotV ?_ | refine v_mAnd ?_ | refine v_mOr ?_ | refine v_mNot ?_ | refine v_mIf ?_ | refine v_mChn ?_ | refine v_lkLast ?_ | refine v_lkCons ?_ | refine v_mSl ?_ | refine v_mPartN ?_ | refine v_mPartS ?_ | refine v_mSlS ?_ | refine v_mM ?_
  | refine v_mDnew ?_ | refine v_mPnil ?_ | refine v_mPair ?_ | refine v_mDrop ?_ | refine v_mRetN ?_ | refine v_mPar2 ?_ | refine v_mPar3 ?_ | refine v_mFor ?_ | refine v_mLc ?_ | refine v_mIt ?_ | refine v_mEnum ?_ | refine v_mRng ?_ | refine v_gsNil ?_ | refine v_gsCons ?_ | refine v_yes ?_
  | refine v_endN ?_ | refine v_endR ?_ | refine v_nx ?_ | refine v_rt ?_ | refine v_bl ?_ | refine v_kin ?_ | refine v_itt ?_ | refine v_iff ?_
  | refine W.of s_add ?_ | refine W.of s_sub ?_ | refine W.of (s_i2 _) ?_ | refine W.of s_int ?_ | refine W.of s_intb ?_ | refine W.of s_abs ?_ | refine W.of s_neg ?_ | refine W.of s_eqi ?_ | refine W.of s_nei ?_ | refine W.of s_eqb ?_ | refine W.of s_neb ?_ | refine W.of s_lent ?_ | refine W.of s_lenr ?_ | refine W.of s_max2 ?_ | refine W.of s_min2 ?_ | refine W.of s_nT0 ?_ | refine W.of s_nL0 ?_ | refine W.of s_nT1 ?_ | refine W.of s_nL1 ?_ | refine W.of s_nT2 ?_ | refine W.of s_nL2 ?_ | refine W.of s_nT3 ?_ | refine W.of s_nL3 ?_ | refine W.of s_nT4 ?_ | refine W.of s_nL4 ?_ | refine W.of s_nT5 ?_ | refine W.of s_nL5 ?_)
local macro_rules | `(tactic| walk_at "fd") => `(tactic| repeat walk_at "fd1")
abbrev iD (k : Nat) : D := .int (k : Int)
theorem iD_inj {i j : Nat} (h : iD i = iD j) : i = j := by unfold iD at h; injection h with h; omega
theorem rangeD_iD (n : Nat) : rangeD 0 n = (List.range n).map iD := by
  unfold rangeD iD
  congr 1
  funext i
  rw [Int.zero_add]
theorem nodup_map_of {f : Nat → D} : ∀ {l : List Nat}, (l.map f).Nodup → l.Nodup
  | [], _ => List.Pairwise.nil
  | x :: r, h => by
    rw [List.map_cons, List.nodup_cons] at h
    rw [List.nodup_cons]
    exact ⟨fun hx => h.1 (List.mem_map.mpr ⟨x, hx, rfl⟩), nodup_map_of h.2⟩
theorem nodup_iD {l : List Nat} (h : l.Nodup) : (l.map iD).Nodup := by
  induction l with
  | nil => exact List.Pairwise.nil
  | cons x r ih =>
    rw [List.nodup_cons] at h
    rw [List.map_cons, List.nodup_cons]
    refine ⟨fun hx => ?_, ih h.2⟩
    obtain ⟨y, hy, e⟩ := List.mem_map.mp hx
    rw [iD_inj e] at hy
    exact h.1 hy
theorem all_iD {l : List Nat} : ∀ {ys : List D}, (∀ y ∈ ys, y ∈ l.map iD) → ∃ js : List Nat, ys = js.map iD ∧ ∀ j ∈ js, j ∈ l
  | [], _ => ⟨[], rfl, fun _ h => nomatch h⟩
  | y :: r, h => by
    obtain ⟨js, e, a⟩ := all_iD (l := l) (ys := r) fun z hz => h z (List.mem_cons_of_mem _ hz)
    obtain ⟨j, hj, rfl⟩ := List.mem_map.mp (h y List.mem_cons_self)
    refine ⟨j :: js, by rw [List.map_cons, e], fun k hk => ?_⟩
    rcases List.mem_cons.mp hk with e | e
    · rw [e]; exact hj
    · exact a k e
/-- what is drawn from a list of ints without doubles -/
theorem drawn {l : List Nat} {ys zs : List D} (nd : l.Nodup) (p : (ys ++ zs).Perm (l.map iD)) : ∃ js : List Nat, ys = js.map iD ∧ js.Nodup ∧ ∀ j ∈ js, j ∈ l := by
  obtain ⟨js, e, a⟩ := all_iD (l := l) (ys := ys) fun y hy => p.mem_iff.mp (List.mem_append_left _ hy)
  refine ⟨js, e, ?_, a⟩
  have : (ys ++ zs).Nodup := p.nodup_iff.mpr (nodup_iD nd)
  rw [List.nodup_append] at this
  rw [e] at this
  exact nodup_map_of this.1
abbrev St3 := Nat × Nat × Nat
def stD (s : St3) : D := .tup [iD s.1, iD s.2.1, iD s.2.2]
def townD (n : Nat) (ss : List St3) : D := .tup [iD n, .tup (ss.map stD)]
structure Town (n : Nat) (ss : List St3) : Prop where
  lo : 1 ≤ n
  hi : n ≤ 12
  few : ss.length ≤ 40
  ok : ∀ s ∈ ss, s.1 < s.2.1 ∧ s.2.1 < n ∧ 1 ≤ s.2.2 ∧ s.2.2 ≤ 1000000
theorem sort2 {i j : Nat} (h : i ≠ j) : ∃ a b : Nat, a < b ∧ (a = i ∧ b = j ∨ a = j ∧ b = i) ∧ (sortI [(i : Int), (j : Int)]).map D.int = [iD a, iD b] := by
  by_cases e : (i : Int) ≤ j
  · refine ⟨i, j, by omega, .inl ⟨rfl, rfl⟩, ?_⟩
    simp [sortI, insI, e, iD]
  · refine ⟨j, i, by omega, .inr ⟨rfl, rfl⟩, ?_⟩
    simp [sortI, insI, e, iD]
theorem town_W {p c m s : Nat} {st : Sto} (hp : Pot p c st) (hm : 2 ≤ m) (hm2 : m ≤ 12) (hs : s ≤ 40) (hc : c + 2 + 4 * s ≤ 1000000) {Q : D → Sto → Prop}
    (q : ∀ n ss st', Town n ss → 2 ≤ n → Pot p (c + 2 + 4 * s) st' → Kx [p] st st' → Q (townD n ss) st') : W (g__law_town [.ref p, .int m, .int s] st) Q := by
  have hpl : p < st.length := by obtain ⟨x, y, z, h, _⟩ := hp; exact lt_of h
  unfold g__law_town m__law_town
  refine v_fnD rfl ?_
  walk_at "fd"
  refine take_W hp (by omega) (by omega) (by omega) fun k st1 h0 h1 hp1 kx1 => ?_
  walk_at "fd"
  refine ⟨_, _, rfl, ?_⟩
  obtain ⟨n, en⟩ : ∃ n : Nat, (2 + k) = (n : Int) := ⟨(2 + k).toNat, by omega⟩
  rw [en]
  have hn2 : 2 ≤ n := by omega
  have hn12 : n ≤ 12 := by omega
  have hp1' : Pot p (c + 1) (st1 ++ [.lst []]) := by
    obtain ⟨x, y, z, h, r⟩ := hp1
    exact ⟨x, y, z, by rw [List.getElem?_append_left (lt_of h)]; exact h, r⟩
  walk_at "fd"
  refine take_W hp1' (by omega) (by omega) (by omega) fun k2 st2 h20 h21 hp2 kx2 => ?_
  walk_at "fd"
  obtain ⟨w, ew⟩ : ∃ w : Nat, k2 = (w : Int) := ⟨k2.toNat, by omega⟩
  subst ew
  with_reducible refine W.of (s_rng1 (by omega) (by omega)) ?_
  rw [Int.toNat_natCast]
  have kx0 : Kx [p] st st2 := (kx1.push _).trans kx2
  have fl : st2[st1.length]? = some (.lst []) := kx2.at (by simp) (by have := kx1.1; simp; omega)
  have main := forGo_W (gs := []) (g := gN 3) (b := (mSeq (mAsg (mN opSorted (mCons (mN g__law_some (mCons (mVar 0) (mCons (mLRg (mRg1 (mVar 4))) (mCons (mC (.int 2)) mNil)))) mNil)) (gT 2 (gsCons (gN 6) (gsCons (gN 7) gsNil))))
    (mDrop (mM "list" mfAppend (mVar 5) (mCons (mN newT (mCons (mVar 6) (mCons (mVar 7) (mCons (m2 opAdd (mC (.int 1)) (mN g__law_take (mCons (mVar 0) (mCons (mN g__law_of (mCons (mVar 0) (mCons (mN newL (mCons (mC (.int 2)) (mCons (mC (.int 5)) (mCons (mC (.int 20)) mNil)))) mNil))) mNil)))) mNil)))) mNil))))) (items := rangeD 0 w)
    (Q := fun o st' => ∃ μ ss, o = .nx μ ∧ μ[4]? = some (some (iD n)) ∧ μ[5]? = some (some (.ref st1.length)) ∧ Town n ss ∧ Pot p (c + 2 + 4 * s) st' ∧ Kx [p] st st' ∧ st'[st1.length]? = some (.lst (ss.map stD)))
    (fun i μ st' => i ≤ w ∧ ∃ ss l6 l7 lp, μ = [some (.ref p), some (.int m), some (.int s), lp, some (iD n), some (.ref st1.length), l6, l7] ∧ st'[st1.length]? = some (.lst (ss.map stD)) ∧ ss.length = i ∧ Town n ss ∧ Pot p (c + 2 + 4 * i) st' ∧ Kx [p] st st')
    ?_ ?_ 0 [some (.ref p), some (.int m), some (.int s), none, some (iD n), some (.ref st1.length), none, none] st2 (Nat.zero_le _) ⟨Nat.zero_le _, [], none, none, none, rfl, fl, rfl, ⟨by omega, hn12, Nat.zero_le _, fun _ h => nomatch h⟩, hp2, kx0⟩
  · rw [List.drop_zero] at main
    refine main.mono fun o st' ⟨μ, ss, eo, e4, e5, ht, hp', kx, hb⟩ => ?_
    subst eo
    walk_at "fd"
    refine v_mVar (by unfold getS; rw [e4]; rfl) ?_
    walk_at "fd"
    refine v_mVar (by unfold getS; rw [e5]; rfl) ?_
    walk_at "fd"
    with_reducible refine W.of (s_tuple (seq_lst hb)) ?_
    walk_at "fd"
    exact q n ss st' ht hn2 hp' kx
  · rintro i x μ st' hx ⟨hi, ss, l6, l7, lp, rfl, hb, hl, ht, hp', kx⟩
    have hiw : i < w := by have := (List.getElem?_eq_some_iff.mp hx).1; rw [rangeD_len] at this; exact this
    refine ⟨rfl, ?_⟩
    walk_at "fd"
    with_reducible refine v_lrg1 ?_
    refine v_mVar rfl ⟨n, rfl, by omega, ?_⟩
    walk_at "fd"
    have hpA : Pot p (c + 2 + 4 * i) (st' ++ [.lst (rangeD 0 n)]) := by
      obtain ⟨x, y, z, h, r⟩ := hp'
      exact ⟨x, y, z, by rw [List.getElem?_append_left (lt_of h)]; exact h, r⟩
    refine some_W (w := 2) (xs := rangeD 0 n) hpA (by omega) (seq_lst get_new) (by rw [rangeD_len]; exact hn2) (by rw [rangeD_len]; omega) fun ys zs st3 b pm l2 hp3 kx3 hb3 eb3 => ?_
    rw [rangeD_iD] at pm
    obtain ⟨js, rfl, nd, mem⟩ := drawn List.nodup_range pm
    match js, l2, nd, mem with
    | [j1, j2], _, nd, mem =>
    have hne : j1 ≠ j2 := by simp at nd; exact nd
    have m1 : j1 < n := List.mem_range.mp (mem j1 (by simp))
    have m2 : j2 < n := List.mem_range.mp (mem j2 (by simp))
    obtain ⟨a, b', hab, hor, es⟩ := sort2 hne
    walk_at "fd"
    have eb4 : st3[b]? = some (.lst ([(j1 : Int), (j2 : Int)].map D.int)) := eb3
    with_reducible refine W.of (s_sorted (ns := [(j1 : Int), (j2 : Int)]) (lst_lst eb4)) ?_
    rw [es]
    refine v_gT (seq_lst get_new) rfl ?_
    walk_at "fd"
    have kx4 : Kx [p] st (st3 ++ [.lst [iD a, iD b']]) := ((kx.push _).trans kx3).push _
    have hp4 : Pot p (c + 2 + 4 * i + 2) (st3 ++ [.lst [iD a, iD b']]) := by
      obtain ⟨x, y, z, h, r⟩ := hp3
      exact ⟨x, y, z, by rw [List.getElem?_append_left (lt_of h)]; exact h, r⟩
    have np : st1.length ∉ [p] := by have := kx1.1; simp; omega
    have hbl := lt_of hb
    have hb4 : (st3 ++ [O.lst [iD a, iD b']])[st1.length]? = some (.lst (ss.map stD)) := by
      have h1 : (st' ++ [O.lst (rangeD 0 n)])[st1.length]? = some (.lst (ss.map stD)) := by rw [List.getElem?_append_left hbl]; exact hb
      have h2 := kx3.at h1 np
      rw [List.getElem?_append_left (lt_of h2)]
      exact h2
    refine ⟨v_tyL hb4, ?_⟩
    walk_at "fd"
    generalize eS : st3 ++ [O.lst [iD a, iD b']] = st4 at hb4 hp4 kx4 ⊢
    have hp5 : Pot p (c + 2 + 4 * i + 2) (st4 ++ [.lst [.int 2, .int 5, .int 20]]) := by
      obtain ⟨x, y, z, h, r⟩ := hp4
      exact ⟨x, y, z, by rw [List.getElem?_append_left (lt_of h)]; exact h, r⟩
    have np2 : st4.length ∉ [p] := by have := kx4.1; simp; omega
    refine of_W hp5 (by omega) (.inr (.inr ⟨_, rfl, np2, get_new⟩)) (by simp) (by simp) fun k3 x3 st5 hx3 hp6 kx5 => ?_
    obtain ⟨u, rfl, hu0, hu1⟩ : ∃ u : Int, x3 = .int u ∧ 0 < u ∧ u ≤ 20 := by
      match k3, hx3 with
      | 0, h => cases h; exact ⟨_, rfl, by decide, by decide⟩
      | 1, h => cases h; exact ⟨_, rfl, by decide, by decide⟩
      | 2, h => cases h; exact ⟨_, rfl, by decide, by decide⟩
    walk_at "fd"
    refine take_W hp6 (by omega) hu0 (by omega) fun k4 st6 h40 h41 hp7 kx6 => ?_
    walk_at "fd"
    have hb7 : st6[st1.length]? = some (.lst (ss.map stD)) := kx6.at (kx5.at (by rw [List.getElem?_append_left (lt_of hb4)]; exact hb4) np) np
    have few := ht.few
    have hwb : w ≤ s := by omega
    with_reducible refine W.of (s_append hb7 (Nat.lt_of_le_of_lt (show (ss.map stD).length ≤ 1000000 by rw [List.length_map]; omega) (by decide))) ?_
    obtain ⟨u4, e4⟩ : ∃ u4 : Nat, 1 + k4 = (u4 : Int) := ⟨(1 + k4).toNat, by omega⟩
    rw [e4]
    refine ⟨hiw, ss ++ [(a, b', u4)], _, _, _, rfl, ?_, ?_, ?_, ?_, ((kx4.push _).trans (kx5.trans kx6)).set (.inr (by have := kx1.1; omega))⟩
    · rw [List.map_append]; exact get_set hb7 _
    · rw [List.length_append, hl]; rfl
    · refine ⟨ht.lo, ht.hi, by rw [List.length_append, List.length_singleton]; omega, fun z hz => ?_⟩
      rcases List.mem_append.mp hz with hz | hz
      · exact ht.ok z hz
      · rw [List.mem_singleton.mp hz]
        refine ⟨hab, ?_, by show 1 ≤ u4; omega, by show u4 ≤ 1000000; omega⟩
        show b' < n
        omega
    · obtain ⟨x, y, z, h, r⟩ := hp7.mono (c' := c + 2 + 4 * (i + 1)) (by omega)
      refine ⟨x, y, z, ?_, r⟩
      rw [List.getElem?_set_ne (by simp at np; omega)]
      exact h
  · rintro μ st' ⟨hi, ss, l6, l7, lp, rfl, hb, hl, ht, hp', kx⟩
    rw [rangeD_len] at hp'
    have hws : w ≤ s := by omega
    exact ⟨rfl, _, ss, rfl, rfl, rfl, ht, hp'.mono (by omega), kx, hb⟩
end Lk10
end
section
set_option Elab.async false
set_option linter.all false
set_option maxRecDepth 100000
set_option maxHeartbeats 4000000
namespace Lk10
open PySem Fd L2
local macro_rules | `(tactic| walk_at "fd1") => `(tactic| with_reducible first
  | refine v_mSeq ?_ | refine v_m2 ?_ | refine v_mVar rfl ?_ | refine v_mC ?_ | refine v_mN ?_ | refine v_mCons ?_ | refine v_mNil ?_ | refine v_m1 ?_ | refine v_mB ?_ | refine v_mIfS ?_ | refine v_mAsg ?_ | refine v_mRet ?_ | refine v_gN ?_ | refine v_gS ?_
  | refine v_mNext ?_ | refine v_mAndV ?_ | refine v_mOrV ?_ | refine v_mNotV ?_ | refine v_mAnd ?_ | refine v_mOr ?_ | refine v_mNot ?_ | refine v_mIf ?_ | refine v_mChn ?_ | refine v_lkLast ?_ | refine v_lkCons ?_ | refine v_mSl ?_ | refine v_mPartN ?_ | refine v_mPartS ?_ | refine v_mSlS ?_ | refine v_mM ?_
  | refine v_mDnew ?_ | refine v_mPnil ?_ | refine v_mPair ?_ | refine v_mDrop ?_ | refine v_mRetN ?_ | refine v_mPar2 ?_ | refine v_mPar3 ?_ | refine v_mFor ?_ | refine v_mLc ?_ | refine v_mIt ?_ | refine v_mEnum ?_ | refine v_mRng ?_ | refine v_gsNil ?_ | refine v_gsCons ?_ | refine v_yes ?_
  | refine v_endN ?_ | refine v_endR ?_ | refine v_nx ?_ | refine v_rt ?_ | refine v_bl ?_ | refine v_kin ?_ | refine v_itt ?_ | refine v_iff ?_
  | refine W.of s_add ?_ | refine W.of s_sub ?_ | refine W.of (s_i2 _) ?_ | refine W.of s_int ?_ | refine W.of s_intb ?_ | refine W.of s_abs ?_ | refine W.of s_neg ?_ | refine W.of s_eqi ?_ | refine W.of s_nei ?_ | refine W.of s_eqb ?_ | refine W.of s_neb ?_ | refine W.of s_lent ?_ | refine W.of s_lenr ?_ | refine W.of s_max2 ?_ | refine W.of s_min2 ?_ | refine W.of s_nT0 ?_ | refine W.of s_nL0 ?_ | refine W.of s_nT1 ?_ | refine W.of s_nL1 ?_ | refine W.of s_nT2 ?_ | refine W.of s_nL2 ?_ | refine W.of s_nT3 ?_ | refine W.of s_nL3 ?_ | refine W.of s_nT4 ?_ | refine W.of s_nL4 ?_ | refine W.of s_nT5 ?_ | refine W.of s_nL5 ?_)
local macro_rules | `(tactic| walk_at "fd") => `(tactic| repeat walk_at "fd1")
def isI : D → Bool
  | .int _ => true
  | _ => false
def betw (v : D) (a b : Int) : Bool := match v with
  | .int i => decide (a ≤ i) && decide (i ≤ b)
  | _ => false
def streetB (v : D) (n : Int) : Bool := match v with
  | .tup [.int i, y, z] => decide (0 ≤ i) && decide (i ≤ n - 1) && (betw y (i + 1) (n - 1) && betw z 1 1000000)
  | _ => false
def townB (v : D) : Bool := match v with
  | .tup [.int n, .tup ss] => decide (1 ≤ n) && decide (n ≤ 12) && (decide (ss.length ≤ 40) && ss.all fun s => streetB s n)
  | _ => false
theorem isIB_isB (v : D) : (isIB v && !isB v) = isI v := by cases v <;> rfl
theorem integer_W {v : D} {st : Sto} {Q : D → Sto → Prop} (h : Dok st v) (q : Q (.bl (isI v)) st) : W (g_is_integer [v] st) Q := by
  unfold g_is_integer m_is_integer
  refine v_fnD rfl ?_
  walk_at "fd"
  refine w_isi h ?_
  walk_at "fd"
  refine v_ite (fun e => ?_) (fun e => ?_)
  · walk_at "fd"
    refine w_isb h ?_
    walk_at "fd"
    have := isIB_isB v
    rw [e, Bool.true_and] at this
    rw [this]
    exact q
  · walk_at "fd"
    have := isIB_isB v
    rw [e, Bool.false_and] at this
    rw [this]
    exact q
theorem between_W {v : D} {a b : Int} {st : Sto} {Q : D → Sto → Prop} (h : Dok st v) (q : Q (.bl (betw v a b)) st) : W (g_is_between [v, .int a, .int b] st) Q := by
  unfold g_is_between m_is_between
  refine v_fnD rfl ?_
  walk_at "fd"
  refine integer_W h ?_
  walk_at "fd"
  refine v_ite (fun e => ?_) (fun e => ?_)
  · cases v <;> first | cases e | skip
    rename_i i
    walk_at "fd"
    refine v_ite (fun e1 => ?_) (fun e1 => ?_)
    · walk_at "fd"
      have : betw (.int i) a b = decide (i ≤ b) := by show (decide (a ≤ i) && decide (i ≤ b)) = _; rw [e1, Bool.true_and]
      rw [← this]
      exact q
    · walk_at "fd"
      have : betw (.int i) a b = false := by show (decide (a ≤ i) && decide (i ≤ b)) = _; rw [e1, Bool.false_and]
      rw [← this]
      exact q
  · walk_at "fd"
    have : betw v a b = false := by cases v <;> first | rfl | cases e
    rw [← this]
    exact q
theorem not_tup3 {v : D} (h : ∀ x y z, v ≠ .tup [x, y, z]) (n : Int) : streetB v n = false := by
  unfold streetB
  split
  · rename_i i y z
    exact absurd rfl (h _ _ _)
  · rfl
theorem len3 {xs : List D} (h : ((xs.length : Int)) = 3) : ∃ x y z, xs = [x, y, z] := by
  match xs, h with
  | [x, y, z], _ => exact ⟨x, y, z, rfl⟩
  | [], h => simp at h
  | [_], h => simp at h
  | [_, _], h => simp at h
  | _ :: _ :: _ :: _ :: _, h => simp at h; omega
theorem street_W {v : D} {n : Int} {st : Sto} {Q : D → Sto → Prop} (h : Dok st v) (q : Q (.bl (streetB v n)) st) : W (g_is_street [v, .int n] st) Q := by
  unfold g_is_street m_is_street
  refine v_fnD rfl ?_
  walk_at "fd"
  refine w_ist h ?_
  walk_at "fd"
  by_cases ht : ∃ xs, v = .tup xs
  · obtain ⟨xs, rfl⟩ := ht
    walk_at "fd"
    refine v_ite_f rfl ?_
    walk_at "fd"
    by_cases hl : (xs.length : Int) = 3
    · obtain ⟨x, y, z, rfl⟩ := len3 hl
      refine v_ite_f rfl ?_
      walk_at "fd"
      have hx : Dok st x := by cases h with | tup h => exact h x (by simp)
      have hy : Dok st y := by cases h with | tup h => exact h y (by simp)
      have hz : Dok st z := by cases h with | tup h => exact h z (by simp)
      with_reducible refine W.of (s_ixt (d := x) rfl) ?_
      walk_at "fd"
      refine between_W hx ?_
      walk_at "fd"
      refine v_ite (fun e => ?_) (fun e => ?_)
      · have eb : betw x 0 (n - 1) = false := by simpa using e
        walk_at "fd"
        have : streetB (.tup [x, y, z]) n = false := by
          cases x <;> first | rfl | skip
          rename_i i
          show ((decide (0 ≤ i) && decide (i ≤ n - 1)) && _) = false
          have : (decide (0 ≤ i) && decide (i ≤ n - 1)) = false := eb
          rw [this, Bool.false_and]
        rw [← this]
        exact q
      · have eb : betw x 0 (n - 1) = true := by simpa using e
        obtain ⟨i, rfl⟩ : ∃ i, x = .int i := by cases x <;> first | exact ⟨_, rfl⟩ | cases eb
        have es : streetB (.tup [.int i, y, z]) n = (betw y (i + 1) (n - 1) && betw z 1 1000000) := by
          show ((decide (0 ≤ i) && decide (i ≤ n - 1)) && _) = _
          have : (decide (0 ≤ i) && decide (i ≤ n - 1)) = true := eb
          rw [this, Bool.true_and]
        rw [es] at q
        walk_at "fd"
        with_reducible refine W.of (s_ixt (d := y) rfl) ?_
        walk_at "fd"
        with_reducible refine W.of (s_ixt (d := .int i) rfl) ?_
        walk_at "fd"
        refine between_W hy ?_
        walk_at "fd"
        refine v_ite (fun e => ?_) (fun e => ?_)
        · walk_at "fd"
          with_reducible refine W.of (s_ixt (d := z) rfl) ?_
          walk_at "fd"
          refine between_W hz ?_
          walk_at "fd"
          rw [e, Bool.true_and] at q
          exact q
        · walk_at "fd"
          rw [e, Bool.false_and] at q
          exact q
    · refine v_ite_t (by simpa using hl) ?_
      walk_at "fd"
      rw [← not_tup3 (v := .tup xs) (fun x y z e => hl (by cases e; rfl)) n]
      exact q
  · have hf : isT v = false := by cases v <;> first | rfl | exact absurd ⟨_, rfl⟩ ht
    rw [hf]
    refine v_ite_t rfl ?_
    walk_at "fd"
    rw [← not_tup3 (v := v) (fun x y z e => ht ⟨_, e⟩) n]
    exact q
end Lk10
end
section
set_option Elab.async false
set_option linter.all false
set_option maxRecDepth 100000
set_option maxHeartbeats 4000000
namespace Lk10
open PySem Fd L2
local macro_rules | `(tactic| walk_at "fd1") => `(tactic| with_reducible first
  | refine v_mSeq ?_ | refine v_m2 ?_ | refine v_mVar rfl ?_ | refine v_mC ?_ | refine v_mN ?_ | refine v_mCons ?_ | refine v_mNil ?_ | refine v_m1 ?_ | refine v_mB ?_ | refine v_mIfS ?_ | refine v_mAsg ?_ | refine v_mRet ?_ | refine v_gN ?_ | refine v_gS ?_
  | refine v_mNext ?_ | refine v_mAndV ?_ | refine v_mOrV ?_ | refine v_mNotV ?_ | refine v_mAnd ?_ | refine v_mOr ?_ | refine v_mNot ?_ | refine v_mIf ?_ | refine v_mChn ?_ | refine v_lkLast ?_ | refine v_lkCons ?_ | refine v_mSl ?_ | refine v_mPartN ?_ | refine v_mPartS ?_ | refine v_mSlS ?_ | refine v_mM ?_
  | refine v_mDnew ?_ | refine v_mPnil ?_ | refine v_mPair ?_ | refine v_mDrop ?_ | refine v_mRetN ?_ | refine v_mPar2 ?_ | refine v_mPar3 ?_ | refine v_mFor ?_ | refine v_mLc ?_ | refine v_mIt ?_ | refine v_mEnum ?_ | refine v_mRng ?_ | refine v_gsNil ?_ | refine v_gsCons ?_ | refine v_yes ?_
  | refine v_endN ?_ | refine v_endR ?_ | refine v_nx ?_ | refine v_rt ?_ | refine v_bl ?_ | refine v_kin ?_ | refine v_itt ?_ | refine v_iff ?_
  | refine W.of s_add ?_ | refine W.of s_sub ?_ | refine W.of (s_i2 _) ?_ | refine W.of s_int ?_ | refine W.of s_intb ?_ | refine W.of s_abs ?_ | refine W.of s_neg ?_ | refine W.of s_eqi ?_ | refine W.of s_nei ?_ | refine W.of s_eqb ?_ | refine W.of s_neb ?_ | refine W.of s_lent ?_ | refine W.of s_lenr ?_ | refine W.of s_max2 ?_ | refine W.of s_min2 ?_ | refine W.of s_nT0 ?_ | refine W.of s_nL0 ?_ | refine W.of s_nT1 ?_ | refine W.of s_nL1 ?_ | refine W.of s_nT2 ?_ | refine W.of s_nL2 ?_ | refine W.of s_nT3 ?_ | refine W.of s_nL3 ?_ | refine W.of s_nT4 ?_ | refine W.of s_nL4 ?_ | refine W.of s_nT5 ?_ | refine W.of s_nL5 ?_)
local macro_rules | `(tactic| walk_at "fd") => `(tactic| repeat walk_at "fd1")
theorem len2 {xs : List D} (h : ((xs.length : Int)) = 2) : ∃ x y, xs = [x, y] := by
  match xs, h with
  | [x, y], _ => exact ⟨x, y, rfl⟩
  | [], h => simp at h
  | [_], h => simp at h
  | _ :: _ :: _ :: _, h => simp at h; omega
theorem townB_not {v : D} (h : ∀ x y, v ≠ .tup [x, y]) : townB v = false := by
  unfold townB
  split
  · exact absurd rfl (h _ _)
  · rfl
theorem townB_not1 {x y : D} (h : isT y = false) : townB (.tup [x, y]) = false := by
  unfold townB
  split
  · rename_i e; cases e; cases h
  · rfl
theorem townB_int {n : Int} {ss : List D} : townB (.tup [.int n, .tup ss]) = (decide (1 ≤ n) && decide (n ≤ 12) && (decide (ss.length ≤ 40) && ss.all fun s => streetB s n)) := rfl
theorem townB_no {x : D} {ss : List D} (h : betw x 1 12 = false) : townB (.tup [x, .tup ss]) = false := by
  cases x <;> first | rfl | skip
  rename_i n
  rw [townB_int]
  have : (decide (1 ≤ n) && decide (n ≤ 12)) = false := h
  rw [this, Bool.false_and]
theorem filterMap_bl {α : Type} {f : α → Bool} : ∀ l : List α, l.filterMap (fun x => some (D.bl (f x))) = (l.map f).map D.bl
  | [] => rfl
  | x :: r => by rw [List.filterMap_cons]; simp only; rw [filterMap_bl r]; rfl
theorem all_map_id {α : Type} {f : α → Bool} : ∀ l : List α, (l.map f).all id = l.all f
  | [] => rfl
  | x :: r => by rw [List.map_cons, List.all_cons, List.all_cons, all_map_id r]; rfl
theorem is_town_W {v : D} {st : Sto} {Q : D → Sto → Prop} (h : Dok st v) (q : ∀ st', Kx [] st st' → Q (.bl (townB v)) st') : W (g_is_town [v] st) Q := by
  unfold g_is_town m_is_town
  refine v_fnD rfl ?_
  walk_at "fd"
  refine w_ist h ?_
  walk_at "fd"
  by_cases ht : ∃ xs, v = .tup xs
  · obtain ⟨xs, rfl⟩ := ht
    refine v_ite_f rfl ?_
    walk_at "fd"
    by_cases hl : (xs.length : Int) = 2
    · obtain ⟨x, y, rfl⟩ := len2 hl
      refine v_ite_f rfl ?_
      walk_at "fd"
      have hx : Dok st x := by cases h with | tup h => exact h x (by simp)
      have hy : Dok st y := by cases h with | tup h => exact h y (by simp)
      with_reducible refine W.of (s_ixt (d := x) rfl) ?_
      walk_at "fd"
      refine between_W hx ?_
      walk_at "fd"
      refine v_ite (fun e => ?_) (fun e => ?_)
      · have eb : betw x 1 12 = false := by simpa using e
        walk_at "fd"
        have : townB (.tup [x, y]) = false := by
          by_cases hy : ∃ ss, y = .tup ss
          · obtain ⟨ss, rfl⟩ := hy; exact townB_no eb
          · exact townB_not1 (by cases y <;> first | rfl | exact absurd ⟨_, rfl⟩ hy)
        rw [← this]
        exact q st Kx.refl
      · have eb : betw x 1 12 = true := by simpa using e
        walk_at "fd"
        with_reducible refine W.of (s_ixt (d := y) rfl) ?_
        refine w_ist hy ?_
        walk_at "fd"
        by_cases hty : ∃ ss, y = .tup ss
        · obtain ⟨ss, rfl⟩ := hty
          refine v_ite_f rfl ?_
          walk_at "fd"
          with_reducible refine W.of (s_ixt (d := .tup ss) rfl) ?_
          walk_at "fd"
          obtain ⟨n, rfl⟩ : ∃ n, x = .int n := by cases x <;> first | exact ⟨_, rfl⟩ | cases eb
          have eb' : (decide (1 ≤ n) && decide (n ≤ 12)) = true := eb
          have et := townB_int (n := n) (ss := ss)
          rw [eb', Bool.true_and] at et
          refine v_ite (fun e => ?_) (fun e => ?_)
          · have : ¬ ss.length ≤ 40 := by rw [decide_eq_true_eq] at e; omega
            walk_at "fd"
            rw [decide_eq_false this, Bool.false_and] at et
            rw [← et]
            exact q st Kx.refl
          · have few : ss.length ≤ 40 := by rw [decide_eq_false_iff_not] at e; omega
            rw [decide_eq_true few, Bool.true_and] at et
            walk_at "fd"
            with_reducible refine W.of (s_ixt (d := .tup ss) rfl) ?_
            refine ⟨_, rfl, ?_⟩
            refine lcGo_fm (S := []) (st0 := st) (fun s => some (D.bl (streetB s n))) (Nat.le_trans few (by decide)) (Nat.le_refl _) (by simp) (fun _ _ => rfl) (fun s hs st' kx hn => ?_) (fun st' kx he => ?_) (Kx.app _) get_new
            · walk_at "fd"
              with_reducible refine W.of (s_ixt (d := .int n) rfl) ?_
              walk_at "fd"
              have hd : Dok st' s := by
                cases hy with
                | tup hy => exact (hy s hs).keep kx.1
              exact street_W hd ⟨Kx.refl, rfl⟩
            · walk_at "fd"
              rw [filterMap_bl] at he
              refine W.of (s_all he) ?_
              walk_at "fd"
              rw [all_map_id, ← et]
              exact q st' kx
        · have hf : isT y = false := by cases y <;> first | rfl | exact absurd ⟨_, rfl⟩ hty
          rw [hf]
          refine v_ite_t rfl ?_
          walk_at "fd"
          rw [← townB_not1 (x := x) hf]
          exact q st Kx.refl
    · refine v_ite_t (by simpa using hl) ?_
      walk_at "fd"
      rw [← townB_not (v := .tup xs) (fun x y e => hl (by cases e; rfl))]
      exact q st Kx.refl
  · have hf : isT v = false := by cases v <;> first | rfl | exact absurd ⟨_, rfl⟩ ht
    rw [hf]
    refine v_ite_t rfl ?_
    walk_at "fd"
    rw [← townB_not (v := v) (fun x y e => ht ⟨_, e⟩)]
    exact q st Kx.refl
end Lk10
end
section
set_option Elab.async false
set_option linter.all false
set_option maxRecDepth 100000
set_option maxHeartbeats 4000000
namespace Lk10
open PySem Fd L2
local macro_rules | `(tactic| walk_at "fd1") => `(tactic| with_reducible first
  | refine v_mSeq ?_ | refine v_m2 ?_ | refine v_mVar rfl ?_ | refine v_mC ?_ | refine v_mN ?_ | refine v_mCons ?_ | refine v_mNil ?_ | refine v_m1 ?_ | refine v_mB ?_ | refine v_mIfS ?_ | refine v_mAsg ?_ | refine v_mRet ?_ | refine v_gN ?_ | refine v_gS ?_
  | refine v_mNext ?_ | refine v_mAndV ?_ | refine v_mOrV ?_ | refine v_mNotV ?_ | refine v_mAnd ?_ | refine v_mOr ?_ | refine v_mNot ?_ | refine v_mIf ?_ | refine v_mChn ?_ | refine v_lkLast ?_ | refine v_lkCons ?_ | refine v_mSl ?_ | refine v_mPartN ?_ | refine v_mPartS ?_ | refine v_mSlS ?_ | refine v_mM ?_
  | refine v_mDnew ?_ | refine v_mPnil ?_ | refine v_mPair ?_ | refine v_mDrop ?_ | refine v_mRetN ?_ | refine v_mPar2 ?_ | refine v_mPar3 ?_ | refine v_mFor ?_ | refine v_mLc ?_ | refine v_mIt ?_ | refine v_mEnum ?_ | refine v_mRng ?_ | refine v_gsNil ?_ | refine v_gsCons ?_ | refine v_yes ?_
  | refine v_endN ?_ | refine v_endR ?_ | refine v_nx ?_ | refine v_rt ?_ | refine v_bl ?_ | refine v_kin ?_ | refine v_itt ?_ | refine v_iff ?_
  | refine W.of s_add ?_ | refine W.of s_sub ?_ | refine W.of (s_i2 _) ?_ | refine W.of s_int ?_ | refine W.of s_intb ?_ | refine W.of s_abs ?_ | refine W.of s_neg ?_ | refine W.of s_eqi ?_ | refine W.of s_nei ?_ | refine W.of s_eqb ?_ | refine W.of s_neb ?_ | refine W.of s_lent ?_ | refine W.of s_lenr ?_ | refine W.of s_max2 ?_ | refine W.of s_min2 ?_ | refine W.of s_nT0 ?_ | refine W.of s_nL0 ?_ | refine W.of s_nT1 ?_ | refine W.of s_nL1 ?_ | refine W.of s_nT2 ?_ | refine W.of s_nL2 ?_ | refine W.of s_nT3 ?_ | refine W.of s_nL3 ?_ | refine W.of s_nT4 ?_ | refine W.of s_nL4 ?_ | refine W.of s_nT5 ?_ | refine W.of s_nL5 ?_)
local macro_rules | `(tactic| walk_at "fd") => `(tactic| repeat walk_at "fd1")
theorem s_neI {i j : Int} {st : Sto} : opNe (.int i) (.int j) st = .ok (.bl (!decide (i = j))) st := rfl
theorem streetB_ints {a b c n : Int} : streetB (.tup [.int a, .int b, .int c]) n = (decide (0 ≤ a) && (decide (a < b) && decide (b < n)) && (decide (1 ≤ c) && decide (c ≤ 1000000))) := by
  show (decide (0 ≤ a) && decide (a ≤ n - 1) && ((decide (a + 1 ≤ b) && decide (b ≤ n - 1)) && (decide (1 ≤ c) && decide (c ≤ 1000000)))) = _
  by_cases h1 : 0 ≤ a <;> by_cases h2 : a < b <;> by_cases h3 : b < n
  · have e1 : a ≤ n - 1 := by omega
    have e2 : a + 1 ≤ b := by omega
    have e3 : b ≤ n - 1 := by omega
    simp [h1, h2, h3, e1, e2, e3]
  · have e3 : ¬ b ≤ n - 1 := by omega
    simp [h1, h2, h3, e3]
  · have e2 : ¬ a + 1 ≤ b := by omega
    simp [h1, h2, h3, e2]
  · have e2 : ¬ a + 1 ≤ b := by omega
    simp [h1, h2, h3, e2]
  all_goals simp [h1]
theorem streetB_noint {x y z : D} {n : Int} (h : ¬ (isI x = true ∧ isI y = true ∧ isI z = true)) : streetB (.tup [x, y, z]) n = false := by
  cases x <;> first | rfl | skip
  rename_i a
  show (decide (0 ≤ a) && decide (a ≤ n - 1) && (betw y (a + 1) (n - 1) && betw z 1 1000000)) = false
  cases y <;> first | (rw [show betw _ (a + 1) (n - 1) = false from rfl, Bool.false_and, Bool.and_false]) | skip
  cases z <;> first | (rw [show betw _ 1 1000000 = false from rfl, Bool.and_false, Bool.and_false]) | skip
  exact absurd ⟨rfl, rfl, rfl⟩ h
theorem all3 {x y z : D} : [x, y, z].all isI = true ↔ isI x = true ∧ isI y = true ∧ isI z = true := by simp
theorem law_is_town_W {v : D} {st : Sto} {Q : D → Sto → Prop} (h : Dok st v) (q : ∀ st', Kx [] st st' → Q (.bl (townB v)) st') : W (g__law_is_town [v] st) Q := by
  unfold g__law_is_town m__law_is_town
  refine v_fnD rfl ?_
  walk_at "fd"
  refine w_ist h ?_
  walk_at "fd"
  by_cases ht : ∃ xs, v = .tup xs
  · obtain ⟨xs, rfl⟩ := ht
    refine v_ite_f rfl ?_
    walk_at "fd"
    by_cases hl : (xs.length : Int) = 2
    · obtain ⟨x, y, rfl⟩ := len2 hl
      refine v_ite_f rfl ?_
      walk_at "fd"
      have hx : Dok st x := by cases h with | tup h => exact h x (by simp)
      have hy : Dok st y := by cases h with | tup h => exact h y (by simp)
      with_reducible refine W.of (s_ixt (d := y) rfl) ?_
      refine w_ist hy ?_
      walk_at "fd"
      by_cases hty : ∃ ss, y = .tup ss
      · obtain ⟨ss, rfl⟩ := hty
        refine v_ite_f rfl ?_
        walk_at "fd"
        with_reducible refine W.of (s_ixt (d := .tup ss) rfl) ?_
        walk_at "fd"
        refine v_ite (fun e => ?_) (fun e => ?_)
        · have few : ¬ ss.length ≤ 40 := by rw [decide_eq_true_eq] at e; omega
          walk_at "fd"
          have : townB (.tup [x, .tup ss]) = false := by
            cases x <;> first | rfl | skip
            rw [townB_int, decide_eq_false few, Bool.false_and, Bool.and_false]
          rw [← this]
          exact q st Kx.refl
        · have few : ss.length ≤ 40 := by rw [decide_eq_false_iff_not] at e; omega
          walk_at "fd"
          with_reducible refine W.of (s_ixt (d := x) rfl) ?_
          refine w_isi hx ?_
          walk_at "fd"
          refine v_ite (fun e => ?_) (fun e => ?_)
          · have e : isIB x = false := by simpa using e
            walk_at "fd"
            have : townB (.tup [x, .tup ss]) = false := by cases x <;> first | rfl | cases e
            rw [← this]
            exact q st Kx.refl
          · have e : isIB x = true := by simpa using e
            walk_at "fd"
            with_reducible refine W.of (s_ixt (d := x) rfl) ?_
            refine w_isb hx ?_
            walk_at "fd"
            refine v_ite (fun eb => ?_) (fun eb => ?_)
            · walk_at "fd"
              have : townB (.tup [x, .tup ss]) = false := by cases x <;> first | rfl | cases eb
              rw [← this]
              exact q st Kx.refl
            · obtain ⟨n, rfl⟩ : ∃ n, x = .int n := by
                cases x with
                | int n => exact ⟨n, rfl⟩
                | bl b => cases eb
                | _ => cases e
              walk_at "fd"
              with_reducible refine W.of (s_ixt (d := .int n) rfl) ?_
              walk_at "fd"
              have et := townB_int (n := n) (ss := ss)
              rw [decide_eq_true few, Bool.true_and] at et
              refine v_ite (fun e1 => ?_) (fun e1 => ?_)
              · walk_at "fd"
                rw [e1, Bool.true_and] at et
                refine v_ite (fun e2 => ?_) (fun e2 => ?_)
                · have e2 : decide (n ≤ 12) = false := by simpa using e2
                  walk_at "fd"
                  rw [e2, Bool.false_and] at et
                  rw [← et]
                  exact q st Kx.refl
                · have e2 : decide (n ≤ 12) = true := by simpa using e2
                  rw [e2, Bool.true_and] at et
                  walk_at "fd"
                  with_reducible refine W.of (s_ixt (d := .tup ss) rfl) ?_
                  refine ⟨_, rfl, ?_⟩
                  have hss : ∀ s ∈ ss, Dok st s := by cases hy with | tup hy => exact hy
                  refine (forGo_W (Q := fun o st' => Kx [] st st' ∧ ((o = .rt (.bl false) ∧ (ss.all fun s => streetB s n) = false) ∨ (∃ μ, o = .nx μ ∧ (ss.all fun s => streetB s n) = true)))
                    (fun i μ st' => Kx [] st st' ∧ ((ss.take i).all fun s => streetB s n) = true ∧ ∃ l1 l2, μ = [some (.tup [.int n, .tup ss]), l1, l2]) ?_ ?_ 0 _ st (Nat.zero_le _) ⟨Kx.refl, rfl, none, none, rfl⟩).mono ?_
                  · rintro i s μ st' hs ⟨kx, al, l1, l2, rfl⟩
                    refine ⟨rfl, ?_⟩
                    have hmem := List.mem_of_getElem? hs
                    have hsd : Dok st' s := (hss s hmem).keep kx.1
                    have bad : streetB s n = false → (ss.all fun s => streetB s n) = false := fun e => by
                      rw [List.all_eq_false]
                      exact ⟨s, hmem, by rw [e]; decide⟩
                    have good : streetB s n = true → ((ss.take (i + 1)).all fun s => streetB s n) = true := fun e => by
                      rw [List.take_add_one, hs, List.all_append, al]
                      simp [e]
                    walk_at "fd"
                    refine w_ist hsd ?_
                    walk_at "fd"
                    by_cases hts : ∃ xs, s = .tup xs
                    · obtain ⟨xs, rfl⟩ := hts
                      refine v_ite_f rfl ?_
                      walk_at "fd"
                      by_cases hl3 : (xs.length : Int) = 3
                      · obtain ⟨a, b, c, rfl⟩ := len3 hl3
                        refine v_ite_f rfl ?_
                        walk_at "fd"
                        refine ⟨_, rfl, ?_⟩
                        have habc : ∀ x ∈ [a, b, c], Dok st' x := by cases hsd with | tup h => exact h
                        refine lcGo_fm (items := [a, b, c]) (S := []) (st0 := st') (fun x => some (D.bl (isI x))) (show 3 ≤ sizeLine by decide) (Nat.le_refl _) (by simp) (fun _ _ => rfl) (fun x hx st2 kx2 hn => ?_) (fun st2 kx2 he => ?_) (Kx.app _) get_new
                        · walk_at "fd"
                          have hxd := (habc x hx).keep kx2.1
                          refine w_isi hxd ?_
                          walk_at "fd"
                          refine v_ite (fun e => ?_) (fun e => ?_)
                          · walk_at "fd"
                            refine w_isb hxd ?_
                            walk_at "fd"
                            have := isIB_isB x
                            rw [e, Bool.true_and] at this
                            rw [this]
                            exact ⟨Kx.refl, rfl⟩
                          · walk_at "fd"
                            have := isIB_isB x
                            rw [e, Bool.false_and] at this
                            rw [this]
                            exact ⟨Kx.refl, rfl⟩
                        · walk_at "fd"
                          rw [filterMap_bl] at he
                          refine W.of (s_all he) ?_
                          walk_at "fd"
                          rw [all_map_id]
                          refine v_ite (fun e => ?_) (fun e => ?_)
                          · have e : [a, b, c].all isI = false := by
                              cases hh : [a, b, c].all isI with
                              | true => rw [hh] at e; cases e
                              | false => rfl
                            walk_at "fd"
                            have hb : streetB (.tup [a, b, c]) n = false := streetB_noint fun hh => by rw [all3.mpr hh] at e; cases e
                            exact ⟨kx.trans kx2, .inl ⟨rfl, bad hb⟩⟩
                          · have e : [a, b, c].all isI = true := by
                              cases hh : [a, b, c].all isI with
                              | true => rfl
                              | false => rw [hh] at e; cases e
                            obtain ⟨i1, i2, i3⟩ := all3.mp e
                            obtain ⟨a, rfl⟩ : ∃ i, a = .int i := by cases a <;> first | exact ⟨_, rfl⟩ | cases i1
                            obtain ⟨b, rfl⟩ : ∃ i, b = .int i := by cases b <;> first | exact ⟨_, rfl⟩ | cases i2
                            obtain ⟨c, rfl⟩ : ∃ i, c = .int i := by cases c <;> first | exact ⟨_, rfl⟩ | cases i3
                            rw [streetB_ints] at bad good
                            walk_at "fd"
                            with_reducible refine W.of (s_ixt (d := .int a) rfl) ?_
                            walk_at "fd"
                            have kk := kx.trans kx2
                            refine v_ite (fun e1 => ?_) (fun e1 => ?_)
                            · rw [e1, Bool.true_and] at bad good
                              walk_at "fd"
                              with_reducible refine W.of (s_ixt (d := .int b) rfl) ?_
                              walk_at "fd"
                              refine v_ite (fun e2 => ?_) (fun e2 => ?_)
                              · rw [e2, Bool.true_and] at bad good
                                walk_at "fd"
                                with_reducible refine W.of (s_ixt (d := .int n) rfl) ?_
                                walk_at "fd"
                                refine v_ite (fun e3 => ?_) (fun e3 => ?_)
                                · have e3 : decide (b < n) = false := by simpa using e3
                                  rw [e3, Bool.false_and] at bad
                                  walk_at "fd"
                                  exact ⟨kk, .inl ⟨rfl, bad rfl⟩⟩
                                · have e3 : decide (b < n) = true := by simpa using e3
                                  rw [e3, Bool.true_and] at bad good
                                  walk_at "fd"
                                  with_reducible refine W.of (s_ixt (d := .int c) rfl) ?_
                                  walk_at "fd"
                                  refine v_ite (fun e4 => ?_) (fun e4 => ?_)
                                  · rw [e4, Bool.true_and] at bad good
                                    walk_at "fd"
                                    with_reducible refine W.of (s_pow (by decide)) ?_
                                    walk_at "fd"
                                    refine v_ite (fun e5 => ?_) (fun e5 => ?_)
                                    · have e5 : decide (c ≤ 1000000) = false := by simpa using e5
                                      walk_at "fd"
                                      exact ⟨kk, .inl ⟨rfl, bad e5⟩⟩
                                    · have e5 : decide (c ≤ 1000000) = true := by simpa using e5
                                      walk_at "fd"
                                      exact ⟨kk, good e5, _, _, rfl⟩
                                  · rw [e4, Bool.false_and] at bad
                                    walk_at "fd"
                                    refine v_ite_t rfl ?_
                                    walk_at "fd"
                                    exact ⟨kk, .inl ⟨rfl, bad rfl⟩⟩
                              · rw [e2, Bool.false_and, Bool.false_and] at bad
                                walk_at "fd"
                                refine v_ite_t rfl ?_
                                walk_at "fd"
                                exact ⟨kk, .inl ⟨rfl, bad rfl⟩⟩
                            · rw [e1, Bool.false_and, Bool.false_and] at bad
                              walk_at "fd"
                              refine v_ite_t rfl ?_
                              walk_at "fd"
                              exact ⟨kk, .inl ⟨rfl, bad rfl⟩⟩
                      · refine v_ite_t (by simpa using hl3) ?_
                        walk_at "fd"
                        exact ⟨kx, .inl ⟨rfl, bad (not_tup3 (fun x y z e => hl3 (by cases e; rfl)) n)⟩⟩
                    · have hf : isT s = false := by cases s <;> first | rfl | exact absurd ⟨_, rfl⟩ hts
                      rw [hf]
                      refine v_ite_t rfl ?_
                      walk_at "fd"
                      exact ⟨kx, .inl ⟨rfl, bad (not_tup3 (fun x y z e => hts ⟨_, e⟩) n)⟩⟩
                  · rintro μ st' ⟨kx, al, _⟩
                    rw [List.take_length] at al
                    exact ⟨rfl, kx, .inr ⟨μ, rfl, al⟩⟩
                  · rintro o st' ⟨kx, ⟨rfl, e⟩ | ⟨μ, rfl, e⟩⟩
                    · walk_at "fd"
                      rw [e] at et
                      rw [← et]
                      exact q st' kx
                    · walk_at "fd"
                      rw [e] at et
                      rw [← et]
                      exact q st' kx
              · walk_at "fd"
                rw [e1, Bool.false_and, Bool.false_and] at et
                refine v_ite_t rfl ?_
                walk_at "fd"
                rw [← et]
                exact q st Kx.refl
      · have hf : isT y = false := by cases y <;> first | rfl | exact absurd ⟨_, rfl⟩ hty
        rw [hf]
        refine v_ite_t rfl ?_
        walk_at "fd"
        rw [← townB_not1 (x := x) hf]
        exact q st Kx.refl
    · refine v_ite_t (by simpa using hl) ?_
      walk_at "fd"
      rw [← townB_not (v := .tup xs) (fun x y e => hl (by cases e; rfl))]
      exact q st Kx.refl
  · have hf : isT v = false := by cases v <;> first | rfl | exact absurd ⟨_, rfl⟩ ht
    rw [hf]
    refine v_ite_t rfl ?_
    walk_at "fd"
    rw [← townB_not (v := v) (fun x y e => ht ⟨_, e⟩)]
    exact q st Kx.refl
end Lk10
end
section
set_option Elab.async false
set_option linter.all false
set_option maxRecDepth 100000
set_option maxHeartbeats 4000000
namespace Lk10
open PySem Fd L2
local macro_rules | `(tactic| walk_at "fd1") => `(tactic| with_reducible first
  | refine v_mSeq ?_ | refine v_m2 ?_ | refine v_mVar rfl ?_ | refine v_mC ?_ | refine v_mN ?_ | refine v_mCons ?_ | refine v_mNil ?_ | refine v_m1 ?_ | refine v_mB ?_ | refine v_mIfS ?_ | refine v_mAsg ?_ | refine v_mRet ?_ | refine v_gN ?_ | refine v_gS ?_
  | refine v_mNext ?_ | refine v_mAndV ?_ | refine v_mOrV ?_ | refine v_mNotV ?_ | refine v_mAnd ?_ | refine v_mOr ?_ | refine v_mNot ?_ | refine v_mIf ?_ | refine v_mChn ?_ | refine v_lkLast ?_ | refine v_lkCons ?_ | refine v_mSl ?_ | refine v_mPartN ?_ | refine v_mPartS ?_ | refine v_mSlS ?_ | refine v_mM ?_
  | refine v_mDnew ?_ | refine v_mPnil ?_ | refine v_mPair ?_ | refine v_mDrop ?_ | refine v_mRetN ?_ | refine v_mPar2 ?_ | refine v_mPar3 ?_ | refine v_mFor ?_ | refine v_mLc ?_ | refine v_mIt ?_ | refine v_mEnum ?_ | refine v_mRng ?_ | refine v_gsNil ?_ | refine v_gsCons ?_ | refine v_yes ?_
  | refine v_endN ?_ | refine v_endR ?_ | refine v_nx ?_ | refine v_rt ?_ | refine v_bl ?_ | refine v_kin ?_ | refine v_itt ?_ | refine v_iff ?_
  | refine W.of s_add ?_ | refine W.of s_sub ?_ | refine W.of (s_i2 _) ?_ | refine W.of s_int ?_ | refine W.of s_intb ?_ | refine W.of s_abs ?_ | refine W.of s_neg ?_ | refine W.of s_eqi ?_ | refine W.of s_nei ?_ | refine W.of s_eqb ?_ | refine W.of s_neb ?_ | refine W.of s_lent ?_ | refine W.of s_lenr ?_ | refine W.of s_max2 ?_ | refine W.of s_min2 ?_ | refine W.of s_nT0 ?_ | refine W.of s_nL0 ?_ | refine W.of s_nT1 ?_ | refine W.of s_nL1 ?_ | refine W.of s_nT2 ?_ | refine W.of s_nL2 ?_ | refine W.of s_nT3 ?_ | refine W.of s_nL3 ?_ | refine W.of s_nT4 ?_ | refine W.of s_nL4 ?_ | refine W.of s_nT5 ?_ | refine W.of s_nL5 ?_)
local macro_rules | `(tactic| walk_at "fd") => `(tactic| repeat walk_at "fd1")
theorem dok_st {st : Sto} (s : St3) : Dok st (stD s) := .tup fun x hx => by
  simp only [List.mem_cons, List.not_mem_nil, or_false] at hx
  rcases hx with rfl | rfl | rfl <;> exact .int _
theorem dok_town {st : Sto} (n : Nat) (ss : List St3) : Dok st (townD n ss) := .tup fun x hx => by
  simp only [List.mem_cons, List.not_mem_nil, or_false] at hx
  rcases hx with rfl | rfl
  · exact .int _
  · exact .tup fun y hy => by
      obtain ⟨s, _, rfl⟩ := List.mem_map.mp hy
      exact dok_st s
theorem Town.isTown {n : Nat} {ss : List St3} (t : Town n ss) : townB (townD n ss) = true := by
  show (decide ((1 : Int) ≤ n) && decide ((n : Int) ≤ 12) && (decide ((ss.map stD).length ≤ 40) && (ss.map stD).all fun s => streetB s n)) = true
  have h1 := t.lo
  have h2 := t.hi
  have h3 := t.few
  simp only [Bool.and_eq_true, decide_eq_true_eq, List.length_map, List.all_eq_true]
  refine ⟨⟨by omega, by omega⟩, h3, fun x hx => ?_⟩
  obtain ⟨s, hs, rfl⟩ := List.mem_map.mp hx
  obtain ⟨a, b, c, d⟩ := t.ok s hs
  show streetB (.tup [.int s.1, .int s.2.1, .int s.2.2]) n = true
  rw [streetB_ints]
  simp only [Bool.and_eq_true, decide_eq_true_eq]
  omega
theorem check_town_W {n : Nat} {ss : List St3} (t : Town n ss) {st : Sto} {Q : D → Sto → Prop} (q : ∀ st', Kx [] st st' → Q .non st') : W (g_check_town [townD n ss] st) Q := by
  unfold g_check_town m_check_town
  refine v_fnD rfl ?_
  walk_at "fd"
  refine is_town_W (dok_town n ss) fun st' kx => ?_
  walk_at "fd"
  rw [t.isTown]
  refine v_ite_f rfl ?_
  walk_at "fd"
  exact q st' kx
/-- the street lies at the corner -/
def at_ (c : Nat) (s : St3) : Bool := decide (s.1 = c) || decide (s.2.1 = c)
def deg (ss : List St3) (c : Nat) : Nat := ss.countP (at_ c)
def degs (n : Nat) (ss : List St3) : List Nat := (List.range n).map (deg ss)
theorem degs_get {n c : Nat} {ss : List St3} (h : c < n) : (degs n ss)[c]? = some (deg ss c) := by unfold degs; rw [List.getElem?_map, List.getElem?_range h]; rfl
theorem degs_len {n : Nat} {ss : List St3} : (degs n ss).length = n := by unfold degs; rw [List.length_map, List.length_range]
theorem deg_snoc (t : List St3) (s : St3) (c : Nat) : deg (t ++ [s]) c = deg t c + if at_ c s = true then 1 else 0 := by unfold deg; rw [List.countP_append, List.countP_singleton]
theorem degs_step {n : Nat} {t : List St3} {s : St3} (h1 : s.1 < s.2.1) (h2 : s.2.1 < n) : (((degs n t).map iD).set s.1 (iD (deg t s.1 + 1))).set s.2.1 (iD (deg t s.2.1 + 1)) = (degs n (t ++ [s])).map iD := by
  apply List.ext_getElem?
  intro j
  rw [List.getElem?_set, List.length_set, List.length_map, degs_len, List.getElem?_set, List.length_map, degs_len, List.getElem?_map, List.getElem?_map]
  by_cases hj : j < n
  · rw [degs_get hj, degs_get hj, deg_snoc]
    by_cases e2 : s.2.1 = j
    · subst e2
      rw [if_pos rfl, if_pos h2]
      simp [at_]
    · rw [if_neg e2]
      by_cases e1 : s.1 = j
      · subst e1
        rw [if_pos rfl, if_pos hj]
        simp [at_]
      · rw [if_neg e1]
        simp [at_, e1, e2]
  · have z : ∀ l : List St3, (degs n l)[j]? = none := fun l => List.getElem?_eq_none (by rw [degs_len]; omega)
    rw [z, z, if_neg (by omega), if_neg (by omega)]
theorem reps_one (n : Nat) (x : D) : reps n [x] = List.replicate n x := by
  unfold reps
  rw [Int.toNat_natCast]
  induction n with
  | zero => rfl
  | succ k ih => rw [List.replicate_succ, List.flatten_cons, ih, List.replicate_succ]; rfl
theorem degs_nil (n : Nat) : (degs n []).map iD = List.replicate n (.int 0) := by
  unfold degs deg
  rw [List.map_map]
  induction n with
  | zero => rfl
  | succ k ih => rw [List.range_succ, List.map_append, ih, List.replicate_succ']; rfl
theorem s_mulL {k n : Nat} {st : Sto} {x : D} (e : st[k]? = some (.lst [x])) (hn : n ≤ 1000000) : opMul (.ref k) (.int n) st = .ok (.ref st.length) (st ++ [.lst (List.replicate n x)]) := by
  rw [← reps_one]
  unfold opMul
  simp only [e]
  refine if_pos ⟨by omega, by omega, ?_⟩
  rw [Int.toNat_natCast]
  exact Nat.le_trans (show [x].length * n ≤ 1000000 by simp; exact hn) (by decide)
theorem atI_nat {xs : List D} {c : Nat} {d : D} (h : xs[c]? = some d) : atI xs (c : Int) = some d := by
  rw [atI_nn (by omega) (by have := (List.getElem?_eq_some_iff.mp h).1; omega), Int.toNat_natCast]
  exact h
theorem ixN_nat' {n c : Nat} (h : c < n) : ixN n (c : Int) = some c := by
  unfold ixN
  rw [if_pos (by omega), if_pos (by omega), Int.toNat_natCast]
theorem town_ix0 {n : Nat} {ss : List St3} {st : Sto} : opIx (townD n ss) (.int 0) st = .ok (iD n) st := s_ixt rfl
theorem town_ix1 {n : Nat} {ss : List St3} {st : Sto} : opIx (townD n ss) (.int 1) st = .ok (.tup (ss.map stD)) st := s_ixt rfl
theorem degrees_of_W {n : Nat} {ss : List St3} (t : Town n ss) {st : Sto} {Q : D → Sto → Prop} (q : ∀ r st', Kx [] st st' → st.length ≤ r → st'[r]? = some (.lst ((degs n ss).map iD)) → Q (.ref r) st') : W (g_degrees_of [townD n ss] st) Q := by
  have hn := t.hi
  unfold g_degrees_of m_degrees_of
  refine v_fnD rfl ?_
  walk_at "fd"
  with_reducible refine W.of town_ix0 ?_
  refine W.of (s_mulL (n := n) get_new (by omega)) ?_
  walk_at "fd"
  with_reducible refine W.of town_ix1 ?_
  refine ⟨_, rfl, ?_⟩
  have e0 : (st ++ [O.lst [D.int 0]] ++ [O.lst (List.replicate n (D.int 0))])[(st ++ [O.lst [D.int 0]]).length]? = some (.lst ((degs n (ss.take 0)).map iD)) := by
    rw [List.take_zero, degs_nil]; exact get_new
  have hr : st.length ≤ (st ++ [O.lst [D.int 0]]).length := by simp
  have k0 : Kx [] st (st ++ [O.lst [D.int 0]] ++ [O.lst (List.replicate n (D.int 0))]) := (Kx.app _).push _
  generalize (st ++ [O.lst [D.int 0]]).length = r at e0 hr ⊢
  generalize st ++ [O.lst [D.int 0]] ++ [O.lst (List.replicate n (D.int 0))] = st1 at e0 k0 ⊢
  refine (forGo_W (items := ss.map stD) (Q := fun o st' => ∃ l2 l3 l4, o = .nx [some (townD n ss), some (.ref r), l2, l3, l4] ∧ Kx [] st st' ∧ st'[r]? = some (.lst ((degs n ss).map iD)))
    (fun i μ st' => Kx [] st st' ∧ st'[r]? = some (.lst ((degs n (ss.take i)).map iD)) ∧ ∃ l2 l3 l4, μ = [some (townD n ss), some (.ref r), l2, l3, l4]) ?_ ?_ 0 _ st1 (Nat.zero_le _) ⟨k0, e0, none, none, none, rfl⟩).mono ?_
  · rintro i x μ st' hx ⟨kx, he, l2, l3, l4, rfl⟩
    refine ⟨rfl, ?_⟩
    rw [List.getElem?_map] at hx
    obtain ⟨s, hs, rfl⟩ := Option.map_eq_some_iff.mp hx
    obtain ⟨h1, h2, h3, h4⟩ := t.ok s (List.mem_of_getElem? hs)
    have tk : ss.take (i + 1) = ss.take i ++ [s] := by rw [List.take_add_one, hs]; rfl
    refine v_gT (ds := [iD s.1, iD s.2.1, iD s.2.2]) rfl rfl ?_
    walk_at "fd"
    have g1 : ((degs n (ss.take i)).map iD)[s.1]? = some (iD (deg (ss.take i) s.1)) := by rw [List.getElem?_map, degs_get (by omega)]; rfl
    have g2 : ((degs n (ss.take i)).map iD)[s.2.1]? = some (iD (deg (ss.take i) s.2.1)) := by rw [List.getElem?_map, degs_get h2]; rfl
    with_reducible refine W.of (s_ixl he (atI_nat g1)) ?_
    walk_at "fd"
    with_reducible refine W.of (s_ixl he (atI_nat g2)) ?_
    walk_at "fd"
    refine v_gT rfl rfl ?_
    walk_at "fd"
    have len1 : ((degs n (ss.take i)).map iD).length = n := by rw [List.length_map, degs_len]
    with_reducible refine W.of (s_set he (ixN_nat' (c := s.1) (by rw [len1]; omega))) ?_
    walk_at "fd"
    with_reducible refine W.of (s_set (get_set he _) (ixN_nat' (c := s.2.1) (by rw [List.length_set, len1]; exact h2))) ?_
    walk_at "fd"
    refine ⟨(kx.set (.inr hr)).set (.inr hr), ?_, _, _, _, rfl⟩
    rw [tk, ← degs_step h1 h2]
    exact get_set (get_set he _) _
  · rintro μ st' ⟨kx, he, l2, l3, l4, rfl⟩
    rw [List.length_map, List.take_length] at he
    exact ⟨rfl, _, _, _, rfl, kx, he⟩
  · rintro o st' ⟨l2, l3, l4, rfl, kx, he⟩
    walk_at "fd"
    exact q r st' kx hr he
end Lk10
end
section
set_option Elab.async false
set_option linter.all false
set_option maxRecDepth 100000
set_option maxHeartbeats 4000000
namespace Lk10
open PySem Fd L2
local macro_rules | `(tactic| walk_at "fd1") => `(tactic| with_reducible first
  | refine v_mSeq ?_ | refine v_m2 ?_ | refine v_mVar rfl ?_ | refine v_mC ?_ | refine v_mN ?_ | refine v_mCons ?_ | refine v_mNil ?_ | refine v_m1 ?_ | refine v_mB ?_ | refine v_mIfS ?_ | refine v_mAsg ?_ | refine v_mRet ?_ | refine v_gN ?_ | refine v_gS ?_
  | refine v_mNext ?_ | refine v_mAndV ?_ | refine v_mOrV ?_ | refine v_mNotV ?_ | refine v_mAnd ?_ | refine v_mOr ?_ | refine v_mNot ?_ | refine v_mIf ?_ | refine v_mChn ?_ | refine v_lkLast ?_ | refine v_lkCons ?_ | refine v_mSl ?_ | refine v_mPartN ?_ | refine v_mPartS ?_ | refine v_mSlS ?_ | refine v_mM ?_
  | refine v_mDnew ?_ | refine v_mPnil ?_ | refine v_mPair ?_ | refine v_mDrop ?_ | refine v_mRetN ?_ | refine v_mPar2 ?_ | refine v_mPar3 ?_ | refine v_mFor ?_ | refine v_mLc ?_ | refine v_mIt ?_ | refine v_mEnum ?_ | refine v_mRng ?_ | refine v_gsNil ?_ | refine v_gsCons ?_ | refine v_yes ?_
  | refine v_endN ?_ | refine v_endR ?_ | refine v_nx ?_ | refine v_rt ?_ | refine v_bl ?_ | refine v_kin ?_ | refine v_itt ?_ | refine v_iff ?_
  | refine W.of s_add ?_ | refine W.of s_sub ?_ | refine W.of (s_i2 _) ?_ | refine W.of s_int ?_ | refine W.of s_intb ?_ | refine W.of s_abs ?_ | refine W.of s_neg ?_ | refine W.of s_eqi ?_ | refine W.of s_nei ?_ | refine W.of s_eqb ?_ | refine W.of s_neb ?_ | refine W.of s_lent ?_ | refine W.of s_lenr ?_ | refine W.of s_max2 ?_ | refine W.of s_min2 ?_ | refine W.of s_nT0 ?_ | refine W.of s_nL0 ?_ | refine W.of s_nT1 ?_ | refine W.of s_nL1 ?_ | refine W.of s_nT2 ?_ | refine W.of s_nL2 ?_ | refine W.of s_nT3 ?_ | refine W.of s_nL3 ?_ | refine W.of s_nT4 ?_ | refine W.of s_nL4 ?_ | refine W.of s_nT5 ?_ | refine W.of s_nL5 ?_)
local macro_rules | `(tactic| walk_at "fd") => `(tactic| repeat walk_at "fd1")
theorem degrees_W {n : Nat} {ss : List St3} (t : Town n ss) {st : Sto} {Q : D → Sto → Prop} (q : ∀ st', Kx [] st st' → Q (.tup ((degs n ss).map iD)) st') : W (g_degrees [townD n ss] st) Q := by
  unfold g_degrees m_degrees
  with_reducible refine v_fnD rfl ?_
  walk_at "fd"
  refine check_town_W t fun st1 k1 => ?_
  walk_at "fd"
  refine degrees_of_W t fun r st2 k2 hr he => ?_
  walk_at "fd"
  refine W.of (s_tuple (seq_lst he)) ?_
  walk_at "fd"
  exact q st2 (k1.trans k2)
def odds (n : Nat) (ss : List St3) : List Nat := (List.range n).filter fun c => deg ss c % 2 == 1
theorem degs_mapIdx (n : Nat) (ss : List St3) : (degs n ss).mapIdx (fun i a => (i, a)) = (List.range n).map fun c => (c, deg ss c) := by
  apply List.ext_getElem?
  intro i
  rw [List.getElem?_mapIdx, List.getElem?_map]
  by_cases h : i < n
  · rw [degs_get h, List.getElem?_range h]; rfl
  · rw [List.getElem?_eq_none (by rw [degs_len]; omega), List.getElem?_eq_none (by rw [List.length_range]; omega)]; rfl
theorem enum_degs (n : Nat) (ss : List St3) : enumD ((degs n ss).map iD) = (List.range n).map fun c => .tup [iD c, iD (deg ss c)] := by
  rw [enumD_map, degs_mapIdx, List.map_map]
  rfl
theorem filterMap_if {α : Type} {p : α → Bool} {h : α → D} : ∀ l : List α, l.filterMap (fun a => if p a = true then some (h a) else none) = (l.filter p).map h
  | [] => rfl
  | a :: r => by
    rw [List.filterMap_cons, List.filter_cons]
    by_cases e : p a = true
    · simp only [e, if_true]; rw [filterMap_if r]; rfl
    · simp only [e, if_false]; rw [filterMap_if r]; simp
theorem odd_eq (k : Nat) : decide ((k : Int) % 2 = 1) = (k % 2 == 1) := by
  by_cases h : k % 2 = 1
  · rw [h, decide_eq_true (by omega)]; rfl
  · rw [decide_eq_false (by omega)]; simp [h]
theorem odd_of_W {n : Nat} {ss : List St3} (t : Town n ss) {st : Sto} {Q : D → Sto → Prop} (q : ∀ st', Kx [] st st' → Q (.tup ((odds n ss).map iD)) st') : W (g_odd_of [townD n ss] st) Q := by
  have hn := t.hi
  unfold g_odd_of m_odd_of
  with_reducible refine v_fnD rfl ?_
  walk_at "fd"
  refine degrees_of_W t fun r st1 k1 hr he => ?_
  have hs : SeqK [] (.ref r) st1 ((degs n ss).map iD) := .inr (.inr ⟨r, rfl, by simp, he⟩)
  obtain ⟨gs, e1, og⟩ := hs.src
  refine ⟨_, e1, ?_⟩
  refine lcGo_mp (S := []) (st0 := st1) (List.range n) (fun c => .tup [iD c, iD (deg ss c)]) (fun c => if (deg ss c % 2 == 1) = true then some (iD c) else none) (enum_degs n ss) (by rw [List.length_range]; exact Nat.le_trans hn (by decide)) (Nat.le_refl _) (by simp) og (fun c hc st' kx hl => ?_) (fun st' kx he' => ?_) (Kx.app _) get_new
  · refine v_gT (ds := [iD c, iD (deg ss c)]) rfl rfl ?_
    walk_at "fd"
    with_reducible refine W.of (s_mod (by decide)) ?_
    walk_at "fd"
    rw [odd_eq]
    refine v_ite (fun e => ?_) (fun e => ?_)
    · walk_at "fd"
      exact ⟨Kx.refl, if_pos e⟩
    · exact ⟨Kx.refl, if_neg (by rw [e]; decide)⟩
  · walk_at "fd"
    rw [filterMap_if] at he'
    refine W.of (s_tuple (seq_lst he')) ?_
    walk_at "fd"
    exact q st' (k1.trans kx)
theorem odd_W {n : Nat} {ss : List St3} (t : Town n ss) {st : Sto} {Q : D → Sto → Prop} (q : ∀ st', Kx [] st st' → Q (.tup ((odds n ss).map iD)) st') : W (g_odd [townD n ss] st) Q := by
  unfold g_odd m_odd
  with_reducible refine v_fnD rfl ?_
  walk_at "fd"
  refine check_town_W t fun st1 k1 => ?_
  walk_at "fd"
  refine odd_of_W t fun st2 k2 => ?_
  walk_at "fd"
  exact q st2 (k1.trans k2)
theorem cut2 {a b c : D} : cutD [a, b, c] none (some 2) = [a, b] := rfl
theorem st_sl {s : St3} {st : Sto} : opSl (stD s) none (some 2) st = .ok (.tup [iD s.1, iD s.2.1]) st := rfl
theorem at_eq (c : Nat) (s : St3) : (decide ((s.1 : Int) = c) || decide ((s.2.1 : Int) = c)) = at_ c s := by
  unfold at_
  have : ∀ x : Nat, decide ((x : Int) = c) = decide (x = c) := fun x => by
    by_cases h : x = c
    · rw [decide_eq_true h, decide_eq_true (by omega)]
    · rw [decide_eq_false h, decide_eq_false (by omega)]
  rw [this, this]
theorem law_degrees_W {n : Nat} {ss : List St3} (t : Town n ss) {st : Sto} {Q : D → Sto → Prop} (q : ∀ r st', Kx [] st st' → st.length ≤ r → st'[r]? = some (.lst ((degs n ss).map iD)) → Q (.ref r) st') : W (g__law_degrees [townD n ss] st) Q := by
  have hn := t.hi
  have few := t.few
  unfold g__law_degrees m__law_degrees
  with_reducible refine v_fnD rfl ?_
  walk_at "fd"
  with_reducible refine W.of town_ix0 ?_
  walk_at "fd"
  with_reducible refine W.of (s_rng1 (by omega) (by omega)) ?_
  refine lcGo_mp (S := []) (st0 := st) (List.range n) iD (fun c => some (iD (deg ss c))) (by rw [Int.toNat_natCast]; exact rangeD_iD n) (by rw [List.length_range]; exact Nat.le_trans hn (by decide)) (Nat.le_refl _) (by simp) (fun _ _ => rfl) (fun c hc st1 kx hl => ?_) (fun st' kx he' => ?_) (Kx.app _) get_new
  · walk_at "fd"
    with_reducible refine W.of town_ix1 ?_
    refine ⟨_, rfl, ?_⟩
    refine lcGo_mp (S := []) (st0 := st1) ss stD (fun s => if at_ c s = true then some (stD s) else none) rfl (Nat.le_trans few (by decide)) (Nat.le_refl _) (by simp) (fun _ _ => rfl) (fun s hs st2 kx2 hl2 => ?_) (fun st2 kx2 he2 => ?_) (Kx.app _) get_new
    · walk_at "fd"
      with_reducible refine W.of st_sl ?_
      with_reducible refine W.of s_in2 ?_
      walk_at "fd"
      rw [show id (decide ((s.1 : Int) = c) || decide ((s.2.1 : Int) = c)) = at_ c s from at_eq c s]
      refine v_ite (fun e => ?_) (fun e => ?_)
      · walk_at "fd"
        exact ⟨Kx.refl, if_pos e⟩
      · exact ⟨Kx.refl, if_neg (by rw [e]; decide)⟩
    · walk_at "fd"
      rw [filterMap_if] at he2
      with_reducible refine W.of (s_lenq (seq_lst he2)) ?_
      refine ⟨kx2, ?_⟩
      rw [List.length_map]
      unfold deg
      rw [List.countP_eq_length_filter]
  · walk_at "fd"
    have : (List.range n).filterMap (fun c => some (iD (deg ss c))) = (degs n ss).map iD := by
      unfold degs
      rw [List.map_map, ← List.filterMap_eq_map]
      rfl
    rw [this] at he'
    exact q st.length st' kx (Nat.le_refl _) he'
theorem law_odd_ones_W {n : Nat} {ss : List St3} (t : Town n ss) {st : Sto} {Q : D → Sto → Prop} (q : ∀ r st', Kx [] st st' → st.length ≤ r → st'[r]? = some (.lst ((odds n ss).map iD)) → Q (.ref r) st') : W (g__law_odd_ones [townD n ss] st) Q := by
  have hn := t.hi
  unfold g__law_odd_ones m__law_odd_ones
  with_reducible refine v_fnD rfl ?_
  walk_at "fd"
  with_reducible refine law_degrees_W t fun r st1 k1 hr he => ?_
  have hs : SeqK [] (.ref r) st1 ((degs n ss).map iD) := .inr (.inr ⟨r, rfl, by simp, he⟩)
  obtain ⟨gs, e1, og⟩ := hs.src
  refine ⟨_, e1, ?_⟩
  refine lcGo_mp (S := []) (st0 := st1) (List.range n) (fun c => .tup [iD c, iD (deg ss c)]) (fun c => if (deg ss c % 2 == 1) = true then some (iD c) else none) (enum_degs n ss) (by rw [List.length_range]; exact Nat.le_trans hn (by decide)) (Nat.le_refl _) (by simp) og (fun c hc st' kx hl => ?_) (fun st' kx he' => ?_) (Kx.app _) get_new
  · refine v_gT (ds := [iD c, iD (deg ss c)]) rfl rfl ?_
    walk_at "fd"
    with_reducible refine W.of (s_mod (by decide)) ?_
    walk_at "fd"
    rw [odd_eq]
    refine v_ite (fun e => ?_) (fun e => ?_)
    · walk_at "fd"
      exact ⟨Kx.refl, if_pos e⟩
    · exact ⟨Kx.refl, if_neg (by rw [e]; decide)⟩
  · walk_at "fd"
    rw [filterMap_if] at he'
    exact q _ st' (k1.trans kx) (by have := k1.1; omega) he'
end Lk10
end
section
set_option Elab.async false
set_option linter.all false
/-! streets and corners: what hangs together -/
namespace Lk10
def adj (ss : List St3) (a b : Nat) : Prop := ∃ s ∈ ss, (s.1 = a ∧ s.2.1 = b) ∨ (s.1 = b ∧ s.2.1 = a)
inductive Conn (ss : List St3) (a : Nat) : Nat → Prop
  | refl : Conn ss a a
  | step {b c : Nat} : Conn ss a b → adj ss b c → Conn ss a c
theorem adj.symm {ss : List St3} {a b : Nat} (h : adj ss a b) : adj ss b a := by
  obtain ⟨s, hs, h | h⟩ := h
  · exact ⟨s, hs, .inr ⟨h.1, h.2⟩⟩
  · exact ⟨s, hs, .inl ⟨h.1, h.2⟩⟩
theorem Conn.trans {ss : List St3} {a b c : Nat} (h : Conn ss a b) (h' : Conn ss b c) : Conn ss a c := by
  induction h' with
  | refl => exact h
  | step _ k ih => exact ih.step k
theorem Conn.one {ss : List St3} {a b : Nat} (h : adj ss a b) : Conn ss a b := Conn.refl.step h
theorem Conn.symm {ss : List St3} {a b : Nat} (h : Conn ss a b) : Conn ss b a := by
  induction h with
  | refl => exact .refl
  | step _ k ih => exact (Conn.one k.symm).trans ih
theorem Conn.mono {ss tt : List St3} {a b : Nat} (h : Conn ss a b) (i : ∀ s ∈ ss, s ∈ tt) : Conn tt a b := by
  induction h with
  | refl => exact .refl
  | step _ k ih => obtain ⟨s, hs, h⟩ := k; exact ih.step ⟨s, i s hs, h⟩
theorem Conn.closed {ss : List St3} {P : Nat → Prop} {a b : Nat} (h : Conn ss a b) (ha : P a) (cl : ∀ x y, P x → adj ss x y → P y) : P b := by
  induction h with
  | refl => exact ha
  | step _ k ih => exact cl _ _ ih k
theorem Conn.lt {n : Nat} {ss : List St3} {a b : Nat} (t : Town n ss) (h : Conn ss a b) (ha : a < n) : b < n := by
  refine h.closed (P := fun x => x < n) ha fun x y _ k => ?_
  obtain ⟨s, hs, k⟩ := k
  obtain ⟨h1, h2, _⟩ := t.ok s hs
  rcases k with k | k
  · omega
  · omega
/-- the corners that hang together with a, in order -/
def IsComp (ss : List St3) (a : Nat) (L : List Nat) : Prop := L.Pairwise (· < ·) ∧ ∀ d, d ∈ L ↔ Conn ss a d
theorem sortedN_eq : ∀ {l m : List Nat}, l.Pairwise (· < ·) → m.Pairwise (· < ·) → (∀ k, k ∈ l ↔ k ∈ m) → l = m
  | [], [], _, _, _ => rfl
  | [], x :: r, _, _, h => absurd ((h x).mpr List.mem_cons_self) (by simp)
  | x :: r, [], _, _, h => absurd ((h x).mp List.mem_cons_self) (by simp)
  | x :: r, y :: t, h1, h2, h => by
    rw [List.pairwise_cons] at h1 h2
    have e : x = y := by
      rcases List.mem_cons.mp ((h x).mp List.mem_cons_self) with a | a
      · exact a
      · rcases List.mem_cons.mp ((h y).mpr List.mem_cons_self) with b | b
        · exact b.symm
        · have := h2.1 x a; have := h1.1 y b; omega
    subst e
    refine congrArg (x :: ·) (sortedN_eq h1.2 h2.2 fun k => ⟨fun hk => ?_, fun hk => ?_⟩)
    · rcases List.mem_cons.mp ((h k).mp (List.mem_cons_of_mem _ hk)) with e | e
      · have := h1.1 k hk; omega
      · exact e
    · rcases List.mem_cons.mp ((h k).mpr (List.mem_cons_of_mem _ hk)) with e | e
      · have := h2.1 k hk; omega
      · exact e
theorem IsComp.eq {ss : List St3} {a b : Nat} {L M : List Nat} (h : IsComp ss a L) (h' : IsComp ss b M) (k : Conn ss a b) : L = M :=
  sortedN_eq h.1 h'.1 fun d => by rw [h.2 d, h'.2 d]; exact ⟨fun x => k.symm.trans x, fun x => k.trans x⟩
/-- the least corners of the pieces, in order -/
def IsReps (n : Nat) (ss : List St3) (R : List Nat) : Prop := R.Pairwise (· < ·) ∧ ∀ c, c ∈ R ↔ c < n ∧ ∀ d, Conn ss c d → c ≤ d
/-- the pieces, in order -/
inductive Comps (ss : List St3) : List Nat → List (List Nat) → Prop
  | nil : Comps ss [] []
  | cons {a : Nat} {L : List Nat} {R : List Nat} {P : List (List Nat)} : IsComp ss a L → Comps ss R P → Comps ss (a :: R) (L :: P)
theorem Comps.eq {ss : List St3} {R : List Nat} {P P' : List (List Nat)} (h : Comps ss R P) (h' : Comps ss R P') : P = P' := by
  induction h generalizing P' with
  | nil => cases h'; rfl
  | cons a b ih =>
    cases h' with
    | cons a' b' => rw [a.eq a' .refl, ih b']
theorem IsReps.eq {n : Nat} {ss : List St3} {R R' : List Nat} (h : IsReps n ss R) (h' : IsReps n ss R') : R = R' := sortedN_eq h.1 h'.1 fun k => by rw [h.2, h'.2]
theorem Comps.snoc {ss : List St3} {R : List Nat} {P : List (List Nat)} {a : Nat} {L : List Nat} (h : Comps ss R P) (c : IsComp ss a L) : Comps ss (R ++ [a]) (P ++ [L]) := by
  induction h with
  | nil => exact .cons c .nil
  | cons a b ih => exact .cons a ih
theorem Comps.mem {ss : List St3} {R : List Nat} {P : List (List Nat)} (h : Comps ss R P) : ∀ L ∈ P, ∃ a ∈ R, IsComp ss a L := by
  induction h with
  | nil => exact fun _ h => nomatch h
  | cons a b ih =>
    intro L hL
    rcases List.mem_cons.mp hL with e | e
    · subst e; exact ⟨_, List.mem_cons_self, a⟩
    · obtain ⟨c, hc, k⟩ := ih L e; exact ⟨c, List.mem_cons_of_mem _ hc, k⟩
end Lk10
end
section
set_option Elab.async false
set_option linter.all false
set_option maxRecDepth 100000
set_option maxHeartbeats 4000000
namespace Lk10
open PySem Fd L2
local macro_rules | `(tactic| walk_at "fd1") => `(tactic| with_reducible first
  | refine v_mSeq ?_ | refine v_m2 ?_ | refine v_mVar rfl ?_ | refine v_mC ?_ | refine v_mN ?_ | refine v_mCons ?_ | refine v_mNil ?_ | refine v_m1 ?_ | refine v_mB ?_ | refine v_mIfS ?_ | refine v_mAsg ?_ | refine v_mRet ?_ | refine v_gN ?_ | refine v_gS ?_
  | refine v_mNext ?_ | refine v_mAndV ?_ | refine v_mOrV ?_ | refine v_mNotV ?_ | refine v_mAnd ?_ | refine v_mOr ?_ | refine v_mNot ?_ | refine v_mIf ?_ | refine v_mChn ?_ | refine v_lkLast ?_ | refine v_lkCons ?_ | refine v_mSl ?_ | refine v_mPartN ?_ | refine v_mPartS ?_ | refine v_mSlS ?_ | refine v_mM ?_
  | refine v_mDnew ?_ | refine v_mPnil ?_ | refine v_mPair ?_ | refine v_mDrop ?_ | refine v_mRetN ?_ | refine v_mPar2 ?_ | refine v_mPar3 ?_ | refine v_mFor ?_ | refine v_mLc ?_ | refine v_mIt ?_ | refine v_mEnum ?_ | refine v_mRng ?_ | refine v_gsNil ?_ | refine v_gsCons ?_ | refine v_yes ?_
  | refine v_endN ?_ | refine v_endR ?_ | refine v_nx ?_ | refine v_rt ?_ | refine v_bl ?_ | refine v_kin ?_ | refine v_itt ?_ | refine v_iff ?_
  | refine W.of s_add ?_ | refine W.of s_sub ?_ | refine W.of (s_i2 _) ?_ | refine W.of s_int ?_ | refine W.of s_intb ?_ | refine W.of s_abs ?_ | refine W.of s_neg ?_ | refine W.of s_eqi ?_ | refine W.of s_nei ?_ | refine W.of s_eqb ?_ | refine W.of s_neb ?_ | refine W.of s_lent ?_ | refine W.of s_lenr ?_ | refine W.of s_max2 ?_ | refine W.of s_min2 ?_ | refine W.of s_nT0 ?_ | refine W.of s_nL0 ?_ | refine W.of s_nT1 ?_ | refine W.of s_nL1 ?_ | refine W.of s_nT2 ?_ | refine W.of s_nL2 ?_ | refine W.of s_nT3 ?_ | refine W.of s_nL3 ?_ | refine W.of s_nT4 ?_ | refine W.of s_nL4 ?_ | refine W.of s_nT5 ?_ | refine W.of s_nL5 ?_)
local macro_rules | `(tactic| walk_at "fd") => `(tactic| repeat walk_at "fd1")
def kvT (k : Nat) : Key × D := (.inl (k : Int), .bl true)
theorem v_mDisp {m : PE2} {μ : Mu} {st : Sto} {QD : D → Sto → Prop} (h : W (m μ (st ++ [.dct []])) fun ps st1 => ∃ kvs, keysOf ps = some kvs ∧ st1[st.length]? = some (.dct []) ∧ kvs.length ≤ 15 ∧ QD (.ref st.length) (st1.set st.length (.dct (mergeD [] kvs)))) : W (mDisp m μ st) QD := by
  unfold mDisp
  rw [W_bind]
  refine h.mono fun ps st1 ⟨kvs, e1, e2, l, q⟩ => ?_
  rw [e1, e2]
  simp only
  rw [if_pos l]
  exact q
theorem look_kvT {K : List Nat} {t : Nat} : (look (K.map kvT) (.inl (t : Int))).isSome = decide (t ∈ K) := by
  induction K with
  | nil => rfl
  | cons k r ih =>
    unfold look at ih ⊢
    rw [List.map_cons, List.find?_cons]
    by_cases e : k = t
    · subst e
      simp [kvT]
    · have e' : decide ((kvT k).1 = .inl (t : Int)) = false := by
        rw [decide_eq_false_iff_not]
        intro h
        unfold kvT at h
        injection h with h
        omega
      rw [e', ih]
      have : ¬ t = k := fun z => e z.symm
      simp [this]
theorem put_kvT {K : List Nat} {t : Nat} (h : t ∉ K) : put (K.map kvT) (.inl (t : Int)) (.bl true) = (K ++ [t]).map kvT := by
  unfold put
  rw [if_neg, List.map_append]
  · rfl
  · rw [List.any_map]
    intro z
    rw [List.any_eq_true] at z
    obtain ⟨k, hk, e⟩ := z
    have e : (kvT k).1 = .inl (t : Int) := of_decide_eq_true e
    unfold kvT at e
    injection e with e
    have : k = t := by omega
    exact h (this ▸ hk)
theorem s_ind {n : Nat} {K : List Nat} {t : Nat} {f : Bool → Bool} {st : Sto} (e : st[n]? = some (.dct (K.map kvT))) : opIn f (.int t) (.ref n) st = .ok (.bl (f (decide (t ∈ K)))) st := by
  unfold opIn seqOf lstOf Fd.keyOf
  simp only [e]
  rw [look_kvT]
theorem s_setd {n : Nat} {K : List Nat} {t : Nat} {st : Sto} (e : st[n]? = some (.dct (K.map kvT))) (h : t ∉ K) (l : K.length ≤ 1000) : opSet (.ref n) (.int t) (.bl true) st = .ok () (st.set n (.dct ((K ++ [t]).map kvT))) := by
  unfold opSet
  simp only [e]
  show (if (K.map kvT).length < sizeLine then _ else _) = _
  rw [if_pos (by rw [List.length_map]; exact Nat.lt_of_le_of_lt l (by decide)), put_kvT h]
theorem toPy_ints {st : Sto} {n : Nat} : ∀ l : List Nat, optAll ((l.map iD).map (toPy n st)) = some (l.map fun k : Nat => PyData.int (k : Int))
  | [] => rfl
  | k :: r => by rw [List.map_cons, List.map_cons, toPy_flat]; unfold optAll; rw [toPy_ints r]; rfl
theorem lay_ints : ∀ l : List Nat, PyData.canLayAll0 (l.map fun k : Nat => PyData.int (k : Int)) = true
  | [] => rfl
  | k :: r => by show (true && PyData.canLayAll0 _) = true; rw [lay_ints r]; rfl
theorem dep_ints : ∀ l : List Nat, PyData.depthAll (l.map fun k : Nat => PyData.int (k : Int)) = 0
  | [] => rfl
  | k :: r => by show max 0 (PyData.depthAll _) = 0; rw [dep_ints r]; rfl
theorem shaped_ints (l : List Nat) : SeqAt.shaped (.list (l.map fun k : Nat => PyData.int (k : Int))) = true := by
  show (PyData.canLayAll0 _ && decide (PyData.depthAll _ + 1 ≤ 64)) = true
  rw [lay_ints, dep_ints]
  rfl
theorem s_neW {a b : Nat} {l : List Nat} {st : Sto} (e : st[a]? = some (.lst (l.map iD))) (e' : st[b]? = some (.lst [])) : opNe (.ref a) (.ref b) st = .ok (.bl (!decide (l = []))) st := by
  have p1 : toPy deepN st (.ref a) = some (.list (l.map fun k : Nat => PyData.int (k : Int))) := by
    simp only [deepN, toPy, e, toPy_ints]
    rfl
  have p2 : toPy deepN st (.ref b) = some (.list []) := by
    simp only [deepN, toPy, e']
    rfl
  have p3 : PyData.eqv (.list (l.map fun k : Nat => PyData.int (k : Int))) (.list []) = decide (l = []) := by
    cases l with
    | nil => rfl
    | cons x r => rfl
  show opEqW not (.ref a) (.ref b) st = _
  unfold opEqW
  simp only [p1, p2]
  rw [if_pos ⟨shaped_ints l, by decide⟩, p3]
theorem nodup_len : ∀ (n : Nat) (l : List Nat), l.Nodup → (∀ x ∈ l, x < n) → l.length ≤ n
  | 0, l, _, h => by
    cases l with
    | nil => exact Nat.le_refl _
    | cons x r => exact absurd (h x List.mem_cons_self) (Nat.not_lt_zero x)
  | n + 1, l, nd, h => by
    by_cases hn : n ∈ l
    · have ih := nodup_len n (l.erase n) (nd.erase n) fun x hx => by
        have h1 := (nd.mem_erase_iff).mp hx
        have h2 := h x h1.2
        have h3 := h1.1
        omega
      rw [List.length_erase_of_mem hn] at ih
      omega
    · have ih := nodup_len n l nd fun x hx => by
        have h2 := h x hx
        have h3 : x ≠ n := fun e => hn (e ▸ hx)
        omega
      omega
theorem intKeys_kvT : ∀ K : List Nat, intKeys (K.map kvT) = some (K.map fun k : Nat => (k : Int))
  | [] => rfl
  | k :: r => by rw [List.map_cons]; show (intKeys (r.map kvT)).map _ = _; rw [intKeys_kvT r]; rfl
theorem s_sortedD {n : Nat} {K : List Nat} {st : Sto} (e : st[n]? = some (.dct (K.map kvT))) (l : K.length < 64) : opSorted [.ref n] st = .ok (.ref st.length) (st ++ [.lst ((sortI (K.map fun k : Nat => (k : Int))).map D.int)]) := by
  unfold opSorted lstOf
  simp only [e, intKeys_kvT]
  rw [if_pos (by rw [List.length_map]; exact l)]
theorem sortN {K : List Nat} (nd : K.Nodup) : ∃ L : List Nat, sortI (K.map fun k : Nat => (k : Int)) = L.map (fun k : Nat => (k : Int)) ∧ L.Pairwise (· < ·) ∧ ∀ d, d ∈ L ↔ d ∈ K := by
  have pm := sortI_perm (K.map fun k : Nat => (k : Int))
  have pw := sortI_pw (K.map fun k : Nat => (k : Int))
  have nn : ∀ x ∈ sortI (K.map fun k : Nat => (k : Int)), ((x.toNat : Nat) : Int) = x := fun x hx => by
    obtain ⟨k, _, rfl⟩ := List.mem_map.mp (pm.mem_iff.mp hx)
    rfl
  have e : sortI (K.map fun k : Nat => (k : Int)) = ((sortI (K.map fun k : Nat => (k : Int))).map Int.toNat).map fun k : Nat => (k : Int) := by
    rw [List.map_map]
    conv => lhs; rw [← List.map_id (sortI (K.map fun k : Nat => (k : Int)))]
    exact List.map_congr_left fun x hx => (nn x hx).symm
  have pl : ((sortI (K.map fun k : Nat => (k : Int))).map Int.toNat).Perm K := by
    have := pm.map Int.toNat
    rw [List.map_map] at this
    have e2 : (Int.toNat ∘ fun k : Nat => (k : Int)) = id := by funext k; rfl
    rw [e2, List.map_id] at this
    exact this
  refine ⟨(sortI (K.map fun k : Nat => (k : Int))).map Int.toNat, e, ?_, fun d => pl.mem_iff⟩
  have nd2 := pl.nodup_iff.mpr nd
  have pw2 : ((sortI (K.map fun k : Nat => (k : Int))).map Int.toNat).Pairwise (· ≤ ·) := by
    rw [List.pairwise_map]
    exact pw.imp fun {a b} h => by omega
  exact (List.pairwise_and_iff.mpr ⟨pw2, nd2⟩).imp fun {a b} h => Nat.lt_of_le_of_ne h.1 h.2
end Lk10
end
section
set_option Elab.async false
set_option linter.all false
set_option maxRecDepth 100000
set_option maxHeartbeats 4000000
namespace Lk10
open PySem Fd L2
local macro_rules | `(tactic| walk_at "fd1") => `(tactic| with_reducible first
  | refine v_mSeq ?_ | refine v_m2 ?_ | refine v_mVar rfl ?_ | refine v_mC ?_ | refine v_mN ?_ | refine v_mCons ?_ | refine v_mNil ?_ | refine v_m1 ?_ | refine v_mB ?_ | refine v_mIfS ?_ | refine v_mAsg ?_ | refine v_mRet ?_ | refine v_gN ?_ | refine v_gS ?_
  | refine v_mNext ?_ | refine v_mAndV ?_ | refine v_mOrV ?_ | refine v_mNotV ?_ | refine v_mAnd ?_ | refine v_mOr ?_ | refine v_mNot ?_ | refine v_mIf ?_ | refine v_mChn ?_ | refine v_lkLast ?_ | refine v_lkCons ?_ | refine v_mSl ?_ | refine v_mPartN ?_ | refine v_mPartS ?_ | refine v_mSlS ?_ | refine v_mM ?_
  | refine v_mDnew ?_ | refine v_mPnil ?_ | refine v_mPair ?_ | refine v_mDrop ?_ | refine v_mRetN ?_ | refine v_mPar2 ?_ | refine v_mPar3 ?_ | refine v_mFor ?_ | refine v_mLc ?_ | refine v_mIt ?_ | refine v_mEnum ?_ | refine v_mRng ?_ | refine v_gsNil ?_ | refine v_gsCons ?_ | refine v_yes ?_
  | refine v_endN ?_ | refine v_endR ?_ | refine v_nx ?_ | refine v_rt ?_ | refine v_bl ?_ | refine v_kin ?_ | refine v_itt ?_ | refine v_iff ?_
  | refine W.of s_add ?_ | refine W.of s_sub ?_ | refine W.of (s_i2 _) ?_ | refine W.of s_int ?_ | refine W.of s_intb ?_ | refine W.of s_abs ?_ | refine W.of s_neg ?_ | refine W.of s_eqi ?_ | refine W.of s_nei ?_ | refine W.of s_eqb ?_ | refine W.of s_neb ?_ | refine W.of s_lent ?_ | refine W.of s_lenr ?_ | refine W.of s_max2 ?_ | refine W.of s_min2 ?_ | refine W.of s_nT0 ?_ | refine W.of s_nL0 ?_ | refine W.of s_nT1 ?_ | refine W.of s_nL1 ?_ | refine W.of s_nT2 ?_ | refine W.of s_nL2 ?_ | refine W.of s_nT3 ?_ | refine W.of s_nL3 ?_ | refine W.of s_nT4 ?_ | refine W.of s_nL4 ?_ | refine W.of s_nT5 ?_ | refine W.of s_nL5 ?_)
local macro_rules | `(tactic| walk_at "fd") => `(tactic| repeat walk_at "fd1")
/-- the known corners and those that wait -/
structure Hang (n : Nat) (ss : List St3) (c : Nat) (K Wt : List Nat) : Prop where
  nd : K.Nodup
  lt : ∀ k ∈ K, k < n
  me : c ∈ K
  reach : ∀ k ∈ K, Conn ss c k
  wait : ∀ k ∈ Wt, k ∈ K
  few : Wt.length ≤ K.length
theorem Hang.add {n : Nat} {ss : List St3} {c t : Nat} {K Wt : List Nat} (h : Hang n ss c K Wt) (ht : t < n) (hr : Conn ss c t) (hn : t ∉ K) : Hang n ss c (K ++ [t]) (Wt ++ [t]) where
  nd := List.nodup_append.mpr ⟨h.nd, List.pairwise_singleton _ _, fun a ha b hb e => by
    rw [List.mem_singleton.mp hb] at e
    exact hn (e ▸ ha)⟩
  lt := fun k hk => by
    rcases List.mem_append.mp hk with hk | hk
    · exact h.lt k hk
    · rw [List.mem_singleton.mp hk]; exact ht
  me := List.mem_append_left _ h.me
  reach := fun k hk => by
    rcases List.mem_append.mp hk with hk | hk
    · exact h.reach k hk
    · rw [List.mem_singleton.mp hk]; exact hr
  wait := fun k hk => by
    rcases List.mem_append.mp hk with hk | hk
    · exact List.mem_append_left _ (h.wait k hk)
    · exact List.mem_append_right _ hk
  few := by rw [List.length_append, List.length_append]; have := h.few; simp; omega
theorem s_pop0n {a : Nat} {l : List Nat} {k : Nat} {st : Sto} (e : st[a]? = some (.lst ((l ++ [k]).map iD))) : mfPop0 (.ref a) [] st = .ok (iD k) (st.set a (.lst (l.map iD))) := by
  have hx : ((l ++ [k]).map iD)[((l ++ [k]).map iD).length - 1]? = some (iD k) := by simp
  rw [s_pop0 e hx, List.map_append]
  simp
theorem hanging_W {n c : Nat} {ss : List St3} (t : Town n ss) (hc : c < n) {st : Sto} {Q : D → Sto → Prop} (q : ∀ L st', IsComp ss c L → Kx [] st st' → Q (.tup (L.map iD)) st') : W (g_hanging [townD n ss, iD c] st) Q := by
  have hn := t.hi
  unfold g_hanging m_hanging
  with_reducible refine v_fnD rfl ?_
  walk_at "fd"
  refine v_mDisp ?_
  walk_at "fd"
  refine ⟨_, rfl, get_new, by simp, ?_⟩
  walk_at "fd"
  refine ⟨_, _, rfl, ?_⟩
  have e1 : (((st ++ [O.dct []]).set st.length (.dct (mergeD [] [(.inl (c : Int), D.bl true)]))) ++ [O.lst [iD c]])[st.length]? = some (.dct ([c].map kvT)) := by
    rw [List.getElem?_append_left (by simp)]
    exact get_set get_new _
  have e2 : (((st ++ [O.dct []]).set st.length (.dct (mergeD [] [(.inl (c : Int), D.bl true)]))) ++ [O.lst [iD c]])[((st ++ [O.dct []]).set st.length (.dct (mergeD [] [(.inl (c : Int), D.bl true)]))).length]? = some (.lst ([c].map iD)) := get_new
  have k0 : Kx [] st (((st ++ [O.dct []]).set st.length (.dct (mergeD [] [(.inl (c : Int), D.bl true)]))) ++ [O.lst [iD c]]) := ((Kx.app _).set (.inr (Nat.le_refl _))).push _
  have hw : ((st ++ [O.dct []]).set st.length (.dct (mergeD [] [(.inl (c : Int), D.bl true)]))).length = st.length + 1 := by simp
  rw [hw] at e2 ⊢
  generalize ((st ++ [O.dct []]).set st.length (.dct (mergeD [] [(.inl (c : Int), D.bl true)]))) ++ [O.lst [iD c]] = st1 at e1 e2 k0 ⊢
  walk_at "fd"
  refine v_mWhile ?_
  refine (whGo_W (Q := fun o st' => ∃ (K : List Nat) (x4 x5 x6 x7 x8 : Option D), o = .nx [some (townD n ss), some (iD c), some (.ref st.length), some (.ref (st.length + 1)), x4, x5, x6, x7, x8] ∧ st'[st.length]? = some (.dct (K.map kvT)) ∧ K.Nodup ∧ (∀ d, d ∈ K ↔ Conn ss c d) ∧ K.length ≤ n ∧ Kx [] st st')
    (fun m μ st' => ∃ (K Wt : List Nat) (x4 x5 x6 x7 x8 : Option D), μ = [some (townD n ss), some (iD c), some (.ref st.length), some (.ref (st.length + 1)), x4, x5, x6, x7, x8] ∧ st'[st.length]? = some (.dct (K.map kvT)) ∧ st'[st.length + 1]? = some (.lst (Wt.map iD)) ∧ Hang n ss c K Wt ∧ m = 2 * (n - K.length) + Wt.length ∧ (∀ k ∈ K, k ∉ Wt → ∀ b, adj ss k b → b ∈ K) ∧ Kx [] st st')
    ?_ 100000 (2 * (n - 1) + 1) _ st1 (by omega) ⟨[c], [c], none, none, none, none, none, rfl, e1, e2, ⟨by simp, fun k hk => by rw [List.mem_singleton.mp hk]; exact hc, by simp, fun k hk => by rw [List.mem_singleton.mp hk]; exact .refl, fun _ h => h, Nat.le_refl _⟩, rfl, fun k hk h => absurd hk h, k0⟩).mono ?_
  · rintro m μ st2 ⟨K, Wt, x4, x5, x6, x7, x8, rfl, hk, hwt, H, rfl, cl, kx⟩
    have hKn := nodup_len n K H.nd H.lt
    walk_at "fd"
    have hk' := (Kx.app (S := []) [O.lst []]).at hk (by simp)
    have hwt' := (Kx.app (S := []) [O.lst []]).at hwt (by simp)
    with_reducible refine W.of (s_neW hwt' get_new) ?_
    walk_at "fd"
    have kx' : Kx [] st (st2 ++ [O.lst []]) := kx.push _
    generalize st2 ++ [O.lst []] = st3 at hk' hwt' kx' ⊢
    rcases List.eq_nil_or_concat Wt with rfl | ⟨W0, h0, rfl⟩
    · refine v_ite_f rfl ?_
      refine ⟨K, x4, x5, x6, x7, x8, rfl, hk', H.nd, fun d => ⟨H.reach d, fun hd => ?_⟩, hKn, kx'⟩
      exact hd.closed (P := fun x => x ∈ K) H.me fun x y hx ha => cl x hx (by simp) y ha
    · rw [List.concat_eq_append] at hwt' H cl ⊢
      refine v_ite_t (by simp) ?_
      walk_at "fd"
      refine ⟨v_tyL hwt', ?_⟩
      walk_at "fd"
      with_reducible refine W.of (s_pop0n hwt') ?_
      walk_at "fd"
      with_reducible refine W.of town_ix1 ?_
      refine ⟨_, rfl, ?_⟩
      have hwt4 := get_set hwt' (.lst (W0.map iD))
      have hk4 : (st3.set (st.length + 1) (.lst (W0.map iD)))[st.length]? = some (.dct (K.map kvT)) := by rw [List.getElem?_set_ne (by omega)]; exact hk'
      have kx4 : Kx [] st (st3.set (st.length + 1) (.lst (W0.map iD))) := kx'.set (.inr (by omega))
      have hin : h0 ∈ K := H.wait h0 (by simp)
      have hlt : h0 < n := H.lt h0 hin
      have H0 : Hang n ss c K W0 := ⟨H.nd, H.lt, H.me, H.reach, fun k hk => H.wait k (List.mem_append_left _ hk), by have := H.few; rw [List.length_append] at this; omega⟩
      refine (forGo_W (items := ss.map stD) (Q := fun o st' => ∃ (K' W' : List Nat) (x5 x6 x7 x8 : Option D), o = .nx [some (townD n ss), some (iD c), some (.ref st.length), some (.ref (st.length + 1)), some (iD h0), x5, x6, x7, x8] ∧ st'[st.length]? = some (.dct (K'.map kvT)) ∧ st'[st.length + 1]? = some (.lst (W'.map iD)) ∧ Hang n ss c K' W' ∧ 2 * (n - K'.length) + W'.length ≤ 2 * (n - K.length) + W0.length ∧ (∀ k ∈ K', k ∉ W' → ∀ b, adj ss k b → b ∈ K') ∧ Kx [] st st')
        (fun i μ st' => ∃ (K' W' : List Nat) (x5 x6 x7 x8 : Option D), μ = [some (townD n ss), some (iD c), some (.ref st.length), some (.ref (st.length + 1)), some (iD h0), x5, x6, x7, x8] ∧ st'[st.length]? = some (.dct (K'.map kvT)) ∧ st'[st.length + 1]? = some (.lst (W'.map iD)) ∧ Hang n ss c K' W' ∧ 2 * (n - K'.length) + W'.length ≤ 2 * (n - K.length) + W0.length ∧ h0 ∈ K' ∧ (∀ k ∈ K', k ∉ W' → k ≠ h0 → ∀ b, adj ss k b → b ∈ K') ∧ (∀ s ∈ ss.take i, (s.1 = h0 → s.2.1 ∈ K') ∧ (s.2.1 = h0 → s.1 ∈ K')) ∧ Kx [] st st')
        ?_ ?_ 0 _ _ (Nat.zero_le _) ⟨K, W0, x5, x6, x7, x8, rfl, hk4, hwt4, H0, Nat.le_refl _, hin, fun k hk hw hne b hb => cl k hk (fun hh => (List.mem_append.mp hh).elim hw fun z => hne (List.mem_singleton.mp z)) b hb, (fun s hs => by rw [List.take_zero] at hs; cases hs), kx4⟩).mono ?_
      · rintro i x μ st5 hx ⟨K', W', y5, y6, y7, y8, rfl, hk5, hw5, H5, ms, hin5, cl5, nb, kx5⟩
        refine ⟨rfl, ?_⟩
        rw [List.getElem?_map] at hx
        obtain ⟨s, hs, rfl⟩ := Option.map_eq_some_iff.mp hx
        have hmem := List.mem_of_getElem? hs
        obtain ⟨h1, h2, _, _⟩ := t.ok s hmem
        have tk : ss.take (i + 1) = ss.take i ++ [s] := by rw [List.take_add_one, hs]; rfl
        have nb' : ∀ {K2 : List Nat}, (∀ k ∈ K', k ∈ K2) → ((s.1 = h0 → s.2.1 ∈ K2) ∧ (s.2.1 = h0 → s.1 ∈ K2)) → ∀ z ∈ ss.take (i + 1), (z.1 = h0 → z.2.1 ∈ K2) ∧ (z.2.1 = h0 → z.1 ∈ K2) := fun {K2} sub hh z hz => by
          rw [tk] at hz
          rcases List.mem_append.mp hz with hz | hz
          · exact ⟨fun e => sub _ ((nb z hz).1 e), fun e => sub _ ((nb z hz).2 e)⟩
          · rw [List.mem_singleton.mp hz]; exact hh
        refine v_gT (ds := [iD s.1, iD s.2.1, iD s.2.2]) rfl rfl ?_
        walk_at "fd"
        with_reducible refine W.of s_in2 ?_
        walk_at "fd"
        rw [show id (decide ((s.1 : Int) = h0) || decide ((s.2.1 : Int) = h0)) = at_ h0 s from at_eq h0 s]
        refine v_ite (fun e => ?_) (fun e => ?_)
        · have hadj : ∀ u : Nat, (s.1 = h0 ∧ s.2.1 = u) ∨ (s.2.1 = h0 ∧ s.1 = u) → adj ss h0 u := fun u hu => ⟨s, hmem, hu.imp id fun z => ⟨z.2, z.1⟩⟩
          have key : ∀ u : Nat, u < n → adj ss h0 u → ((s.1 = h0 → s.2.1 = u) ∧ (s.2.1 = h0 → s.1 = u)) → W (mIfS (mB (m2 (opIn not) (mVar 8) (mVar 2)))
              (mSeq (mAsg (mC (.bl true)) (gS (mVar 2) (mVar 8))) (mDrop (mM "list" mfAppend (mVar 3) (mCons (mVar 8) mNil)))) mNext [some (townD n ss), some (iD c), some (.ref st.length), some (.ref (st.length + 1)), some (iD h0), some (iD s.1), some (iD s.2.1), some (iD s.2.2), some (iD u)] st5) fun o st2 => match o with
              | .nx μ2 => ∃ (K' W' : List Nat) (x5 x6 x7 x8 : Option D), μ2 = [some (townD n ss), some (iD c), some (.ref st.length), some (.ref (st.length + 1)), some (iD h0), x5, x6, x7, x8] ∧ st2[st.length]? = some (.dct (K'.map kvT)) ∧ st2[st.length + 1]? = some (.lst (W'.map iD)) ∧ Hang n ss c K' W' ∧ 2 * (n - K'.length) + W'.length ≤ 2 * (n - K.length) + W0.length ∧ h0 ∈ K' ∧ (∀ k ∈ K', k ∉ W' → k ≠ h0 → ∀ b, adj ss k b → b ∈ K') ∧ (∀ s ∈ ss.take (i + 1), (s.1 = h0 → s.2.1 ∈ K') ∧ (s.2.1 = h0 → s.1 ∈ K')) ∧ Kx [] st st2
              | _ => False := by
            intro u hu ha hs2
            walk_at "fd"
            with_reducible refine W.of (s_ind hk5) ?_
            walk_at "fd"
            by_cases hm : u ∈ K'
            · refine v_ite_f (by simp [hm]) ?_
              walk_at "fd"
              exact ⟨K', W', _, _, _, _, rfl, hk5, hw5, H5, ms, hin5, cl5, nb' (fun _ h => h) ⟨fun e => by rw [hs2.1 e]; exact hm, fun e => by rw [hs2.2 e]; exact hm⟩, kx5⟩
            · refine v_ite_t (by simp [hm]) ?_
              walk_at "fd"
              have hl5 := nodup_len n K' H5.nd H5.lt
              with_reducible refine W.of (s_setd hk5 hm (by omega)) ?_
              walk_at "fd"
              have hw6 : (st5.set st.length (.dct ((K' ++ [u]).map kvT)))[st.length + 1]? = some (.lst (W'.map iD)) := by rw [List.getElem?_set_ne (by omega)]; exact hw5
              refine ⟨v_tyL hw6, ?_⟩
              walk_at "fd"
              have H6 := H5.add hu ((H5.reach h0 hin5).step ha) hm
              have hl6 := nodup_len n _ H6.nd H6.lt
              rw [List.length_append, List.length_singleton] at hl6
              have hwl : W'.length ≤ 1000 := by have := H5.few; omega
              with_reducible refine W.of (s_append hw6 (Nat.lt_of_le_of_lt (show (W'.map iD).length ≤ 1000 by rw [List.length_map]; exact hwl) (by decide))) ?_
              refine ⟨K' ++ [u], W' ++ [u], _, _, _, _, rfl, ?_, ?_, H6, ?_, List.mem_append_left _ hin5, ?_, ?_, (kx5.set (.inr (Nat.le_refl _))).set (.inr (Nat.le_succ _))⟩
              · rw [List.getElem?_set_ne (by omega)]; exact get_set hk5 _
              · rw [show (W' ++ [u]).map iD = W'.map iD ++ [iD u] from List.map_append]; exact get_set hw6 _
              · rw [List.length_append, List.length_append, List.length_singleton]; omega
              · intro k hk hkw hne b hb
                rcases List.mem_append.mp hk with hk | hk
                · exact List.mem_append_left _ (cl5 k hk (fun z => hkw (List.mem_append_left _ z)) hne b hb)
                · exact absurd (List.mem_append_right _ hk) hkw
              · exact nb' (fun _ h => List.mem_append_left _ h) ⟨fun e => by rw [hs2.1 e]; simp, fun e => by rw [hs2.2 e]; simp⟩
          walk_at "fd"
          by_cases e1 : s.1 = h0
          · refine v_ite_t (by rw [decide_eq_true_eq]; omega) ?_
            with_reducible refine v_mVar rfl ?_
            with_reducible refine v_gN ?_
            with_reducible refine v_nx ?_
            refine (key s.2.1 h2 (hadj _ (.inl ⟨e1, rfl⟩)) ⟨fun _ => rfl, fun e => by omega⟩).mono fun o st2 h => ?_
            cases o with
            | nx μ => exact h
            | _ => exact h.elim
          · have e3 : s.2.1 = h0 := by unfold at_ at e; simpa [e1] using e
            refine v_ite_f (by rw [decide_eq_false_iff_not]; omega) ?_
            with_reducible refine v_mVar rfl ?_
            with_reducible refine v_gN ?_
            with_reducible refine v_nx ?_
            refine (key s.1 (by omega) (hadj _ (.inr ⟨e3, rfl⟩)) ⟨fun e => absurd e e1, fun _ => rfl⟩).mono fun o st2 h => ?_
            cases o with
            | nx μ => exact h
            | _ => exact h.elim
        · walk_at "fd"
          have n1 : s.1 ≠ h0 ∧ s.2.1 ≠ h0 := by unfold at_ at e; simpa using e
          exact ⟨K', W', _, _, _, _, rfl, hk5, hw5, H5, ms, hin5, cl5, nb' (fun _ h => h) ⟨fun e => absurd e n1.1, fun e => absurd e n1.2⟩, kx5⟩
      · rintro μ st5 ⟨K', W', y5, y6, y7, y8, rfl, hk5, hw5, H5, ms, hin5, cl5, nb, kx5⟩
        rw [List.length_map, List.take_length] at nb
        refine ⟨rfl, K', W', _, _, _, _, rfl, hk5, hw5, H5, ms, fun k hk hkw b hb => ?_, kx5⟩
        by_cases e : k = h0
        · subst e
          obtain ⟨s, hs, z | z⟩ := hb
          · rw [← z.2]; exact (nb s hs).1 z.1
          · rw [← z.1]; exact (nb s hs).2 z.2
        · exact cl5 k hk hkw e b hb
      · rintro o st5 ⟨K', W', y5, y6, y7, y8, rfl, hk5, hw5, H5, ms, cl5, kx5⟩
        refine ⟨_, ?_, K', W', _, _, _, _, _, rfl, hk5, hw5, H5, rfl, cl5, kx5⟩
        rw [List.length_append, List.length_singleton]
        omega
  · rintro o st5 ⟨K, x4, x5, x6, x7, x8, rfl, hk5, nd, mem, hl, kx5⟩
    walk_at "fd"
    with_reducible refine W.of (s_sortedD hk5 (by omega)) ?_
    obtain ⟨L, eL, pw, ml⟩ := sortN nd
    walk_at "fd"
    refine W.of (s_tuple (seq_lst get_new)) ?_
    walk_at "fd"
    rw [eL, List.map_map]
    exact q L _ ⟨pw, fun d => by rw [ml d, mem d]⟩ (kx5.push _)
end Lk10
end
section
set_option Elab.async false
set_option linter.all false
set_option maxRecDepth 100000
set_option maxHeartbeats 4000000
namespace Lk10
open PySem Fd L2
local macro_rules | `(tactic| walk_at "fd1") => `(tactic| with_reducible first
  | refine v_mSeq ?_ | refine v_m2 ?_ | refine v_mVar rfl ?_ | refine v_mC ?_ | refine v_mN ?_ | refine v_mCons ?_ | refine v_mNil ?_ | refine v_m1 ?_ | refine v_mB ?_ | refine v_mIfS ?_ | refine v_mAsg ?_ | refine v_mRet ?_ | refine v_gN ?_ | refine v_gS ?_
  | refine v_mNext ?_ | refine v_mAndV ?_ | refine v_mOrV ?_ | refine v_mNotV ?_ | refine v_mAnd ?_ | refine v_mOr ?_ | refine v_mNot ?_ | refine v_mIf ?_ | refine v_mChn ?_ | refine v_lkLast ?_ | refine v_lkCons ?_ | refine v_mSl ?_ | refine v_mPartN ?_ | refine v_mPartS ?_ | refine v_mSlS ?_ | refine v_mM ?_
  | refine v_mDnew ?_ | refine v_mPnil ?_ | refine v_mPair ?_ | refine v_mDrop ?_ | refine v_mRetN ?_ | refine v_mPar2 ?_ | refine v_mPar3 ?_ | refine v_mFor ?_ | refine v_mLc ?_ | refine v_mIt ?_ | refine v_mEnum ?_ | refine v_mRng ?_ | refine v_gsNil ?_ | refine v_gsCons ?_ | refine v_yes ?_
  | refine v_endN ?_ | refine v_endR ?_ | refine v_nx ?_ | refine v_rt ?_ | refine v_bl ?_ | refine v_kin ?_ | refine v_itt ?_ | refine v_iff ?_
  | refine W.of s_add ?_ | refine W.of s_sub ?_ | refine W.of (s_i2 _) ?_ | refine W.of s_int ?_ | refine W.of s_intb ?_ | refine W.of s_abs ?_ | refine W.of s_neg ?_ | refine W.of s_eqi ?_ | refine W.of s_nei ?_ | refine W.of s_eqb ?_ | refine W.of s_neb ?_ | refine W.of s_lent ?_ | refine W.of s_lenr ?_ | refine W.of s_max2 ?_ | refine W.of s_min2 ?_ | refine W.of s_nT0 ?_ | refine W.of s_nL0 ?_ | refine W.of s_nT1 ?_ | refine W.of s_nL1 ?_ | refine W.of s_nT2 ?_ | refine W.of s_nL2 ?_ | refine W.of s_nT3 ?_ | refine W.of s_nL3 ?_ | refine W.of s_nT4 ?_ | refine W.of s_nL4 ?_ | refine W.of s_nT5 ?_ | refine W.of s_nL5 ?_)
local macro_rules | `(tactic| walk_at "fd") => `(tactic| repeat walk_at "fd1")
theorem opSetD_kvT {n : Nat} {K : List Nat} {t : Nat} {st : Sto} (e : st[n]? = some (.dct (K.map kvT))) (h : t ∉ K) (l : K.length ≤ 1000) : opSetD n (iD t) (.bl true) st = .ok () (st.set n (.dct ((K ++ [t]).map kvT))) := by
  unfold opSetD
  simp only [e]
  show (if (K.map kvT).length < sizeLine then _ else _) = _
  rw [if_pos (by rw [List.length_map]; exact Nat.lt_of_le_of_lt l (by decide)), put_kvT h]
theorem dcGo_keys {j n : Nat} {μ : Mu} {st0 : Sto} {Q : D → Sto → Prop} (hj : j < μ.length) (hn : st0.length ≤ n) {l : List Nat} (small : l.length ≤ 1000) (nd : l.Nodup) (q : ∀ st, Kx [] st0 st → st[n]? = some (.dct (l.map kvT)) → Q (.ref n) st) :
    ∀ (rest dn : List Nat) (st : Sto), dn ++ rest = l → Kx [] st0 st → st[n]? = some (.dct (dn.map kvT)) → W (dcGo [] (gN j) tYesM (mVar j) (mC (.bl true)) μ n (rest.map iD) st) Q
  | [], dn, st, e, kx, h => by
    rw [List.append_nil] at e
    subst e
    exact q st kx h
  | t :: rest, dn, st, e, kx, h => by
    rw [List.map_cons]
    unfold dcGo
    rw [gok_nil, if_pos rfl, W_bind]
    refine W_noX ?_
    unfold dcStep
    rw [W_bind]
    with_reducible refine v_gN ?_
    rw [W_bind]
    with_reducible refine v_yes ?_
    rw [if_pos rfl, W_bind]
    refine v_mVar (by unfold getS; rw [List.getElem?_set_self hj]; rfl) ?_
    rw [W_bind]
    with_reducible refine v_mC ?_
    have hd : t ∉ dn := by
      rw [← e, List.nodup_append] at nd
      exact fun z => nd.2.2 t z t List.mem_cons_self rfl
    have hl : dn.length ≤ 1000 := by rw [← e, List.length_append] at small; omega
    rw [opSetD_kvT h hd hl]
    exact dcGo_keys hj hn small nd q rest (dn ++ [t]) _ (by rw [List.append_assoc]; exact e) (kx.set (.inr hn)) (get_set h _)
theorem merge_kvT : ∀ (L K : List Nat), L.Nodup → (∀ k ∈ L, k ∉ K) → mergeD (K.map kvT) (L.map kvT) = (K ++ L).map kvT
  | [], K, _, _ => by rw [List.append_nil]; rfl
  | t :: r, K, nd, h => by
    rw [List.nodup_cons] at nd
    have e : mergeD (K.map kvT) ((t :: r).map kvT) = mergeD (put (K.map kvT) (.inl (t : Int)) (.bl true)) (r.map kvT) := rfl
    rw [e, put_kvT (h t List.mem_cons_self), merge_kvT r (K ++ [t]) nd.2 fun k hk z => ?_, List.append_assoc]
    · rfl
    · rcases List.mem_append.mp z with z | z
      · exact h k (List.mem_cons_of_mem _ hk) z
      · rw [List.mem_singleton.mp z] at hk; exact nd.1 hk
theorem s_update {a b : Nat} {K L : List Nat} {st : Sto} (e : st[a]? = some (.dct (K.map kvT))) (e' : st[b]? = some (.dct (L.map kvT))) (h : a ≠ b) (nd : L.Nodup) (ds : ∀ k ∈ L, k ∉ K) (l : K.length + L.length ≤ 1000) : mfUpdate (.ref a) [.ref b] st = .ok .non (st.set a (.dct ((K ++ L).map kvT))) := by
  unfold mfUpdate
  simp only [e, e']
  rw [if_pos ⟨h, by rw [List.length_map, List.length_map]; exact Nat.le_trans l (by decide)⟩, merge_kvT L K nd ds]
theorem isTy_dct {n : Nat} {kvs : List (Key × D)} {st : Sto} (e : st[n]? = some (.dct kvs)) : isTy "dict" (.ref n) st = true := by unfold isTy; simp only [e]; rfl
theorem v_mDc {mi : IE} {g : GE} {t : BE} {ek ev : EE} {vs : List Nat} {μ : Mu} {st : Sto} {QD : D → Sto → Prop} (h : W (mi μ st) fun p st1 => W (dcGo p.2 g t ek ev (wipeM μ vs) st1.length p.1 (st1 ++ [.dct []])) QD) : W (mDc mi g t ek ev vs μ st) QD := by unfold mDc; rw [W_bind]; exact h
theorem atI_end {xs : List D} {d : D} : atI (xs ++ [d]) (-1) = some d := by
  unfold atI ixN
  rw [if_neg (by decide), if_pos (by rw [List.length_append, List.length_singleton]; omega)]
  have : (-1 + ((xs ++ [d]).length : Int)).toNat = xs.length := by rw [List.length_append, List.length_singleton]; omega
  rw [Option.bind_some, this]
  simp
def compD (L : List Nat) : D := .tup (L.map iD)
/-- the pieces found so far -/
structure Pcs (n : Nat) (ss : List St3) (i : Nat) (R K : List Nat) (P : List (List Nat)) : Prop where
  nd : K.Nodup
  lt : ∀ k ∈ K, k < n
  pw : R.Pairwise (· < ·)
  rep : ∀ c, c ∈ R ↔ c < i ∧ ∀ d, Conn ss c d → c ≤ d
  cs : Comps ss R P
  kn : ∀ d, d ∈ K ↔ ∃ a ∈ R, Conn ss a d
  old : ∀ c, c < i → c ∈ K
theorem Pcs.zero {n : Nat} {ss : List St3} : Pcs n ss 0 [] [] [] where
  nd := List.nodup_nil
  lt := fun _ h => nomatch h
  pw := .nil
  rep := fun c => ⟨(fun h => nomatch h), (fun h => absurd h.1 (Nat.not_lt_zero c))⟩
  cs := .nil
  kn := fun d => ⟨(fun h => nomatch h), (fun ⟨a, h, _⟩ => nomatch h)⟩
  old := fun c h => absurd h (Nat.not_lt_zero c)
theorem Pcs.skip {n i : Nat} {ss : List St3} {R K : List Nat} {P : List (List Nat)} (h : Pcs n ss i R K P) (hi : i ∈ K) : Pcs n ss (i + 1) R K P where
  nd := h.nd
  lt := h.lt
  pw := h.pw
  rep := fun c => by
    rw [h.rep c]
    constructor
    · exact fun z => ⟨by omega, z.2⟩
    · rintro ⟨z1, z2⟩
      refine ⟨?_, z2⟩
      rcases Nat.lt_succ_iff_lt_or_eq.mp z1 with z | z
      · exact z
      · subst z
        obtain ⟨a, ha, k⟩ := (h.kn c).mp hi
        have h1 := ((h.rep a).mp ha).1
        have h2 := z2 a k.symm
        omega
  cs := h.cs
  kn := h.kn
  old := fun c hc => by
    rcases Nat.lt_succ_iff_lt_or_eq.mp hc with z | z
    · exact h.old c z
    · rw [z]; exact hi
theorem Pcs.next {n i : Nat} {ss : List St3} {R K L : List Nat} {P : List (List Nat)} (t : Town n ss) (hin : i < n) (h : Pcs n ss i R K P) (hi : i ∉ K) (c : IsComp ss i L) : (∀ k ∈ L, k ∉ K) ∧ Pcs n ss (i + 1) (R ++ [i]) (K ++ L) (P ++ [L]) := by
  have dis : ∀ k ∈ L, k ∉ K := fun k hk z => by
    obtain ⟨a, ha, q⟩ := (h.kn k).mp z
    exact hi ((h.kn i).mpr ⟨a, ha, q.trans ((c.2 k).mp hk).symm⟩)
  have least : ∀ d, Conn ss i d → i ≤ d := fun d hd => by
    by_cases z : i ≤ d
    · exact z
    · obtain ⟨a, ha, q⟩ := (h.kn d).mp (h.old d (by omega))
      exact absurd ((h.kn i).mpr ⟨a, ha, q.trans hd.symm⟩) hi
  refine ⟨dis, ?_⟩
  exact {
    nd := List.nodup_append.mpr ⟨h.nd, c.1.imp fun {a b} z => Nat.ne_of_lt z, fun a ha b hb e => dis b hb (e ▸ ha)⟩
    lt := fun k hk => by
      rcases List.mem_append.mp hk with hk | hk
      · exact h.lt k hk
      · exact Conn.lt t ((c.2 k).mp hk) hin
    pw := List.pairwise_append.mpr ⟨h.pw, List.pairwise_singleton _ _, fun a ha b hb => by rw [List.mem_singleton.mp hb]; exact ((h.rep a).mp ha).1⟩
    rep := fun x => by
      rw [List.mem_append, h.rep x, List.mem_singleton]
      constructor
      · rintro (z | z)
        · exact ⟨by omega, z.2⟩
        · subst z; exact ⟨by omega, least⟩
      · rintro ⟨z1, z2⟩
        rcases Nat.lt_succ_iff_lt_or_eq.mp z1 with z | z
        · exact .inl ⟨z, z2⟩
        · exact .inr z
    cs := h.cs.snoc c
    kn := fun d => by
      rw [List.mem_append, h.kn d, c.2 d]
      constructor
      · rintro (⟨a, ha, q⟩ | q)
        · exact ⟨a, List.mem_append_left _ ha, q⟩
        · exact ⟨i, by simp, q⟩
      · rintro ⟨a, ha, q⟩
        rcases List.mem_append.mp ha with ha | ha
        · exact .inl ⟨a, ha, q⟩
        · rw [List.mem_singleton.mp ha] at q; exact .inr q
    old := fun x hx => by
      rcases Nat.lt_succ_iff_lt_or_eq.mp hx with z | z
      · exact List.mem_append_left _ (h.old x z)
      · rw [z]; exact List.mem_append_right _ ((c.2 i).mpr .refl) }
theorem Comps.len {ss : List St3} {R : List Nat} {P : List (List Nat)} (h : Comps ss R P) : R.length = P.length := by
  induction h with
  | nil => rfl
  | cons a b ih => rw [List.length_cons, List.length_cons, ih]
theorem pieces_of_W {n : Nat} {ss : List St3} (t : Town n ss) {st : Sto} {Q : D → Sto → Prop} (q : ∀ R P r st', IsReps n ss R → Comps ss R P → Kx [] st st' → st'[r]? = some (.lst (P.map compD)) → Q (.ref r) st') : W (g_pieces_of [townD n ss] st) Q := by
  have hn := t.hi
  unfold g_pieces_of m_pieces_of
  with_reducible refine v_fnD rfl ?_
  walk_at "fd"
  refine ⟨_, _, rfl, ?_⟩
  walk_at "fd"
  with_reducible refine W.of town_ix0 ?_
  walk_at "fd"
  with_reducible refine W.of (s_rng1 (by omega) (by omega)) ?_
  rw [Int.toNat_natCast, rangeD_iD]
  have e1 : (st ++ [O.lst []] ++ [O.dct []])[st.length]? = some (.lst ([].map compD)) := by simp
  have e2 : (st ++ [O.lst []] ++ [O.dct []])[st.length + 1]? = some (.dct ([].map kvT)) := by simp
  have k0 : Kx [] st (st ++ [O.lst []] ++ [O.dct []]) := (Kx.app _).push _
  have hw : (st ++ [O.lst []]).length = st.length + 1 := by simp
  rw [hw]
  generalize st ++ [O.lst []] ++ [O.dct []] = st1 at e1 e2 k0 ⊢
  refine (forGo_W (items := (List.range n).map iD) (Q := fun o st' => ∃ (R : List Nat) (P : List (List Nat)) (x1 x4 : Option D), o = .nx [some (townD n ss), x1, some (.ref st.length), some (.ref (st.length + 1)), x4] ∧ IsReps n ss R ∧ Comps ss R P ∧ Kx [] st st' ∧ st'[st.length]? = some (.lst (P.map compD)))
    (fun i μ st' => ∃ (R K : List Nat) (P : List (List Nat)) (x1 x4 : Option D), μ = [some (townD n ss), x1, some (.ref st.length), some (.ref (st.length + 1)), x4] ∧ Pcs n ss i R K P ∧ i ≤ n ∧ st'[st.length]? = some (.lst (P.map compD)) ∧ st'[st.length + 1]? = some (.dct (K.map kvT)) ∧ Kx [] st st')
    ?_ ?_ 0 _ st1 (Nat.zero_le _) ⟨[], [], [], none, none, rfl, Pcs.zero, Nat.zero_le _, e1, e2, k0⟩).mono ?_
  · rintro i x μ st2 hx ⟨R, K, P, x1, x4, rfl, H, hin, hf, hk, kx⟩
    have hi : i < n := by have := (List.getElem?_eq_some_iff.mp hx).1; rw [List.length_map, List.length_range] at this; exact this
    rw [List.getElem?_map, List.getElem?_range hi] at hx
    obtain rfl : iD i = x := Option.some.inj hx
    refine ⟨rfl, ?_⟩
    walk_at "fd"
    with_reducible refine W.of (s_ind hk) ?_
    walk_at "fd"
    by_cases hm : i ∈ K
    · refine v_ite_f (by simp [hm]) ?_
      walk_at "fd"
      exact ⟨R, K, P, _, _, rfl, H.skip hm, hi, hf, hk, kx⟩
    · refine v_ite_t (by simp [hm]) ?_
      walk_at "fd"
      refine ⟨v_tyL hf, ?_⟩
      walk_at "fd"
      refine hanging_W t hi fun L st3 hL kx3 => ?_
      walk_at "fd"
      have hf3 := kx3.at hf (by simp)
      have hk3 := kx3.at hk (by simp)
      obtain ⟨dis, H'⟩ := H.next t hi hm hL
      have hR : R.length ≤ n := nodup_len n R (H.pw.imp fun {a b} z => Nat.ne_of_lt z) fun r hr => by have := ((H.rep r).mp hr).1; omega
      have hP : P.length ≤ 1000 := by rw [← H.cs.len]; omega
      with_reducible refine W.of (s_append hf3 (Nat.lt_of_le_of_lt (show (P.map compD).length ≤ 1000 by rw [List.length_map]; exact hP) (by decide))) ?_
      walk_at "fd"
      have hf4 : (st3.set st.length (.lst (P.map compD ++ [.tup (L.map iD)])))[st.length]? = some (.lst (P.map compD ++ [.tup (L.map iD)])) := get_set hf3 _
      have hk4 : (st3.set st.length (.lst (P.map compD ++ [.tup (L.map iD)])))[st.length + 1]? = some (.dct (K.map kvT)) := by rw [List.getElem?_set_ne (by omega)]; exact hk3
      have kx4 : Kx [] st (st3.set st.length (.lst (P.map compD ++ [.tup (L.map iD)]))) := (kx.trans kx3).set (.inr (Nat.le_refl _))
      generalize st3.set st.length (.lst (P.map compD ++ [.tup (L.map iD)])) = st4 at hf4 hk4 kx4 ⊢
      refine ⟨isTy_dct hk4, ?_⟩
      walk_at "fd"
      refine v_mDc ?_
      walk_at "fd"
      with_reducible refine W.of (s_ixl hf4 atI_end) ?_
      refine ⟨_, rfl, ?_⟩
      have ndL : L.Nodup := hL.1.imp fun {a b} z => Nat.ne_of_lt z
      have hLn : L.length ≤ n := nodup_len n L ndL fun k hk => Conn.lt t ((hL.2 k).mp hk) hi
      have hKn : K.length ≤ n := nodup_len n K H.nd H.lt
      refine dcGo_keys (st0 := st4) (show 4 < 5 by decide) (Nat.le_refl _) (by omega) ndL (fun st5 kx5 h5 => ?_) L [] _ rfl (Kx.app _) get_new
      walk_at "fd"
      have hk5 := kx5.at hk4 (by simp)
      have hf5 := kx5.at hf4 (by simp)
      have l4 := lt_of hk4
      refine W.of (s_update hk5 h5 (by omega) ndL dis (by omega)) ?_
      refine ⟨R ++ [i], K ++ L, P ++ [L], _, _, rfl, H', hi, ?_, get_set hk5 _, (kx4.trans kx5).set (.inr (by omega))⟩
      rw [List.getElem?_set_ne (by omega), hf5, List.map_append]
      rfl
  · rintro μ st2 ⟨R, K, P, x1, x4, rfl, H, hin, hf, hk, kx⟩
    rw [List.length_map, List.length_range] at H
    exact ⟨rfl, R, P, _, _, rfl, ⟨H.pw, H.rep⟩, H.cs, kx, hf⟩
  · rintro o st2 ⟨R, P, x1, x4, rfl, hR, hC, kx, hf⟩
    walk_at "fd"
    exact q R P _ st2 hR hC kx hf
end Lk10
end
section
set_option Elab.async false
set_option linter.all false
set_option maxRecDepth 100000
set_option maxHeartbeats 4000000
namespace Lk10
open PySem Fd L2
local macro_rules | `(tactic| walk_at "fd1") => `(tactic| with_reducible first
  | refine v_mSeq ?_ | refine v_m2 ?_ | refine v_mVar rfl ?_ | refine v_mC ?_ | refine v_mN ?_ | refine v_mCons ?_ | refine v_mNil ?_ | refine v_m1 ?_ | refine v_mB ?_ | refine v_mIfS ?_ | refine v_mAsg ?_ | refine v_mRet ?_ | refine v_gN ?_ | refine v_gS ?_
  | refine v_mNext ?_ | refine v_mAndV ?_ | refine v_mOrV ?_ | refine v_mNotV ?_ | refine v_mAnd ?_ | refine v_mOr ?_ | refine v_mNot ?_ | refine v_mIf ?_ | refine v_mChn ?_ | refine v_lkLast ?_ | refine v_lkCons ?_ | refine v_mSl ?_ | refine v_mPartN ?_ | refine v_mPartS ?_ | refine v_mSlS ?_ | refine v_mM ?_
  | refine v_mDnew ?_ | refine v_mPnil ?_ | refine v_mPair ?_ | refine v_mDrop ?_ | refine v_mRetN ?_ | refine v_mPar2 ?_ | refine v_mPar3 ?_ | refine v_mFor ?_ | refine v_mLc ?_ | refine v_mIt ?_ | refine v_mEnum ?_ | refine v_mRng ?_ | refine v_gsNil ?_ | refine v_gsCons ?_ | refine v_yes ?_
  | refine v_endN ?_ | refine v_endR ?_ | refine v_nx ?_ | refine v_rt ?_ | refine v_bl ?_ | refine v_kin ?_ | refine v_itt ?_ | refine v_iff ?_
  | refine W.of s_add ?_ | refine W.of s_sub ?_ | refine W.of (s_i2 _) ?_ | refine W.of s_int ?_ | refine W.of s_intb ?_ | refine W.of s_abs ?_ | refine W.of s_neg ?_ | refine W.of s_eqi ?_ | refine W.of s_nei ?_ | refine W.of s_eqb ?_ | refine W.of s_neb ?_ | refine W.of s_lent ?_ | refine W.of s_lenr ?_ | refine W.of s_max2 ?_ | refine W.of s_min2 ?_ | refine W.of s_nT0 ?_ | refine W.of s_nL0 ?_ | refine W.of s_nT1 ?_ | refine W.of s_nL1 ?_ | refine W.of s_nT2 ?_ | refine W.of s_nL2 ?_ | refine W.of s_nT3 ?_ | refine W.of s_nL3 ?_ | refine W.of s_nT4 ?_ | refine W.of s_nL4 ?_ | refine W.of s_nT5 ?_ | refine W.of s_nL5 ?_)
local macro_rules | `(tactic| walk_at "fd") => `(tactic| repeat walk_at "fd1")
theorem conn_snoc {t : List St3} {s : St3} {c d : Nat} (h : Conn (t ++ [s]) c d) : Conn t c d ∨ (Conn t c s.1 ∧ Conn t s.2.1 d) ∨ (Conn t c s.2.1 ∧ Conn t s.1 d) := by
  refine h.closed (P := fun d => Conn t c d ∨ (Conn t c s.1 ∧ Conn t s.2.1 d) ∨ (Conn t c s.2.1 ∧ Conn t s.1 d)) (.inl .refl) ?_
  rintro x y hx ⟨z, hz, hk⟩
  rcases List.mem_append.mp hz with hz | hz
  · have ha : adj t x y := ⟨z, hz, hk⟩
    rcases hx with h | ⟨h1, h2⟩ | ⟨h1, h2⟩
    · exact .inl (h.step ha)
    · exact .inr (.inl ⟨h1, h2.step ha⟩)
    · exact .inr (.inr ⟨h1, h2.step ha⟩)
  · rw [List.mem_singleton.mp hz] at hk
    rcases hk with ⟨e1, e2⟩ | ⟨e1, e2⟩
    · subst e1; subst e2
      rcases hx with h | ⟨h1, h2⟩ | ⟨h1, h2⟩
      · exact .inr (.inl ⟨h, .refl⟩)
      · exact .inr (.inl ⟨h1, .refl⟩)
      · exact .inl h1
    · subst e1; subst e2
      rcases hx with h | ⟨h1, h2⟩ | ⟨h1, h2⟩
      · exact .inr (.inr ⟨h, .refl⟩)
      · exact .inl h1
      · exact .inr (.inr ⟨h1, .refl⟩)
/-- f marks each corner with the least corner of its piece -/
def Lab (n : Nat) (t : List St3) (f : Nat → Nat) : Prop := ∀ c, c < n → Conn t c (f c) ∧ ∀ d, Conn t c d → f c ≤ d
theorem Lab.same {n : Nat} {t : List St3} {f : Nat → Nat} (h : Lab n t f) {c d : Nat} (hc : c < n) (hd : d < n) (k : Conn t c d) : f c = f d := by
  have h1 := (h c hc).2 (f d) (k.trans (h d hd).1)
  have h2 := (h d hd).2 (f c) (k.symm.trans (h c hc).1)
  omega
theorem Lab.zero (n : Nat) : Lab n [] id := fun c _ => ⟨.refl, fun d k => by
  have : d = c := k.closed (P := fun x => x = c) rfl fun x y hx ⟨z, hz, _⟩ => nomatch hz
  rw [this]
  exact Nat.le_refl _⟩
theorem Lab.step {n : Nat} {t : List St3} {s : St3} {f : Nat → Nat} (h : Lab n t f) (h1 : s.1 < n) (h2 : s.2.1 < n) : Lab n (t ++ [s]) fun c => if f c = max (f s.1) (f s.2.1) then min (f s.1) (f s.2.1) else f c := by
  have mono : ∀ {a b : Nat}, Conn t a b → Conn (t ++ [s]) a b := fun k => k.mono fun z hz => List.mem_append_left _ hz
  have link : Conn (t ++ [s]) s.1 s.2.1 := Conn.one ⟨s, by simp, .inl ⟨rfl, rfl⟩⟩
  have la := h s.1 h1
  have lb := h s.2.1 h2
  have both : Conn (t ++ [s]) (f s.1) (f s.2.1) := ((mono la.1).symm.trans link).trans (mono lb.1)
  have mm : Conn (t ++ [s]) (max (f s.1) (f s.2.1)) (min (f s.1) (f s.2.1)) := by
    by_cases e : f s.1 ≤ f s.2.1
    · rw [Nat.max_eq_right e, Nat.min_eq_left e]; exact both.symm
    · rw [Nat.max_eq_left (by omega), Nat.min_eq_right (by omega)]; exact both
  intro c hc
  have lc := h c hc
  refine ⟨?_, fun d k => ?_⟩
  · show Conn _ c (if _ then _ else _)
    split
    · rename_i e
      have := mono lc.1
      rw [e] at this
      exact this.trans mm
    · exact mono lc.1
  · show (if _ then _ else _) ≤ d
    have hle : (if f c = max (f s.1) (f s.2.1) then min (f s.1) (f s.2.1) else f c) ≤ f c := by
      split
      · rename_i e; rw [e]; omega
      · exact Nat.le_refl _
    rcases conn_snoc k with k | ⟨k1, k2⟩ | ⟨k1, k2⟩
    · exact Nat.le_trans hle (lc.2 d k)
    · have e1 := h.same hc h1 k1
      have e2 := lb.2 d k2
      have a1 := Nat.min_le_right (f s.1) (f s.2.1)
      have a2 := Nat.le_max_left (f s.1) (f s.2.1)
      have a3 : max (f s.1) (f s.2.1) = f s.1 ∨ max (f s.1) (f s.2.1) = f s.2.1 := by omega
      generalize max (f s.1) (f s.2.1) = mx at a2 a3 ⊢
      generalize min (f s.1) (f s.2.1) = mn at a1 ⊢
      split
      · omega
      · omega
    · have e1 := h.same hc h2 k1
      have e2 := la.2 d k2
      have a1 := Nat.min_le_left (f s.1) (f s.2.1)
      have a2 := Nat.le_max_right (f s.1) (f s.2.1)
      have a3 : max (f s.1) (f s.2.1) = f s.1 ∨ max (f s.1) (f s.2.1) = f s.2.1 := by omega
      generalize max (f s.1) (f s.2.1) = mx at a2 a3 ⊢
      generalize min (f s.1) (f s.2.1) = mn at a1 ⊢
      split
      · omega
      · omega
theorem sort2' (x y : Nat) : (sortI [(x : Int), (y : Int)]).map D.int = [iD (min x y), iD (max x y)] := by
  by_cases e : (x : Int) ≤ y
  · have e' : x ≤ y := by omega
    rw [Nat.min_eq_left e', Nat.max_eq_right e']
    simp [sortI, insI, e]
  · have e' : y ≤ x := by omega
    rw [Nat.min_eq_right e', Nat.max_eq_left e']
    simp [sortI, insI, e]
theorem ssetN (M : List Nat) : ∃ R : List Nat, sset (M.map fun k : Nat => (k : Int)) = R.map (fun k : Nat => (k : Int)) ∧ R.Pairwise (· < ·) ∧ ∀ d, d ∈ R ↔ d ∈ M := by
  have pw := sset_sorted (M.map fun k : Nat => (k : Int))
  have nn : ∀ x ∈ sset (M.map fun k : Nat => (k : Int)), ((x.toNat : Nat) : Int) = x := fun x hx => by
    obtain ⟨k, _, rfl⟩ := List.mem_map.mp (mem_sset.mp hx)
    rfl
  have e : sset (M.map fun k : Nat => (k : Int)) = ((sset (M.map fun k : Nat => (k : Int))).map Int.toNat).map fun k : Nat => (k : Int) := by
    rw [List.map_map]
    conv => lhs; rw [← List.map_id (sset (M.map fun k : Nat => (k : Int)))]
    exact List.map_congr_left fun x hx => (nn x hx).symm
  refine ⟨(sset (M.map fun k : Nat => (k : Int))).map Int.toNat, e, ?_, fun d => ?_⟩
  · rw [List.pairwise_map]
    exact List.Pairwise.imp_of_mem (fun {a b} ha hb h => by have := nn a ha; have := nn b hb; omega) pw
  · rw [List.mem_map]
    constructor
    · rintro ⟨x, hx, rfl⟩
      obtain ⟨k, hk, e⟩ := List.mem_map.mp (mem_sset.mp hx)
      have : x.toNat = k := by omega
      rw [this]
      exact hk
    · exact fun hd => ⟨(d : Int), mem_sset.mpr (List.mem_map.mpr ⟨d, hd, rfl⟩), rfl⟩
theorem Lab.reps {n : Nat} {ss : List St3} {f : Nat → Nat} (t : Town n ss) (h : Lab n ss f) {R : List Nat} (pw : R.Pairwise (· < ·)) (mem : ∀ d, d ∈ R ↔ d ∈ (List.range n).map f) : IsReps n ss R := by
  refine ⟨pw, fun c => ?_⟩
  rw [mem c, List.mem_map]
  constructor
  · rintro ⟨x, hx, rfl⟩
    have hx := List.mem_range.mp hx
    have l := h x hx
    exact ⟨Conn.lt t l.1 hx, fun d k => l.2 d (l.1.trans k)⟩
  · rintro ⟨hc, hm⟩
    refine ⟨c, List.mem_range.mpr hc, ?_⟩
    have l := h c hc
    have h1 := l.2 c .refl
    have h2 := hm _ l.1
    omega
theorem Lab.comp {n : Nat} {ss : List St3} {f : Nat → Nat} (t : Town n ss) (h : Lab n ss f) {a : Nat} (ha : a < n) (hm : ∀ d, Conn ss a d → a ≤ d) : IsComp ss a ((List.range n).filter fun c => decide (f c = a)) := by
  have ea : f a = a := by
    have l := h a ha
    have h1 := l.2 a .refl
    have h2 := hm _ l.1
    omega
  refine ⟨List.Pairwise.filter _ List.pairwise_lt_range, fun d => ?_⟩
  rw [List.mem_filter, List.mem_range, decide_eq_true_eq]
  constructor
  · rintro ⟨hd, e⟩
    have := (h d hd).1
    rw [e] at this
    exact this.symm
  · intro k
    have hd := Conn.lt t k ha
    exact ⟨hd, by rw [← h.same ha hd k, ea]⟩
theorem comps_map {ss : List St3} {g : Nat → List Nat} : ∀ R : List Nat, (∀ a ∈ R, IsComp ss a (g a)) → Comps ss R (R.map g)
  | [], _ => .nil
  | a :: r, h => .cons (h a List.mem_cons_self) (comps_map r fun b hb => h b (List.mem_cons_of_mem _ hb))
theorem law_pieces_W {n : Nat} {ss : List St3} (t : Town n ss) {st : Sto} {Q : D → Sto → Prop} (q : ∀ R P r st', IsReps n ss R → Comps ss R P → Kx [] st st' → st.length ≤ r → st'[r]? = some (.lst (P.map compD)) → Q (.ref r) st') : W (g__law_pieces [townD n ss] st) Q := by
  have hn := t.hi
  unfold g__law_pieces m__law_pieces
  with_reducible refine v_fnD rfl ?_
  walk_at "fd"
  with_reducible refine v_lrg1 ?_
  walk_at "fd"
  with_reducible refine W.of town_ix0 ?_
  refine ⟨n, rfl, by omega, ?_⟩
  walk_at "fd"
  with_reducible refine W.of town_ix1 ?_
  refine ⟨_, rfl, ?_⟩
  have e0 : (st ++ [O.lst (rangeD 0 n)])[st.length]? = some (.lst (((List.range n).map id).map iD)) := by rw [List.map_id, ← rangeD_iD]; exact get_new
  have k0 : Kx [] st (st ++ [O.lst (rangeD 0 n)]) := Kx.app _
  generalize st ++ [O.lst (rangeD 0 n)] = st1 at e0 k0 ⊢
  refine (forGo_W (items := ss.map stD) (Q := fun o st' => ∃ (r : Nat) (f : Nat → Nat) (x2 x3 x4 x5 x6 x7 x8 : Option D), o = .nx [some (townD n ss), some (.ref r), x2, x3, x4, x5, x6, x7, x8] ∧ Lab n ss f ∧ st'[r]? = some (.lst (((List.range n).map f).map iD)) ∧ Kx [] st st' ∧ st.length ≤ r)
    (fun i μ st' => ∃ (r : Nat) (f : Nat → Nat) (x2 x3 x4 x5 x6 x7 x8 : Option D), μ = [some (townD n ss), some (.ref r), x2, x3, x4, x5, x6, x7, x8] ∧ Lab n (ss.take i) f ∧ st'[r]? = some (.lst (((List.range n).map f).map iD)) ∧ Kx [] st st' ∧ st.length ≤ r)
    ?_ ?_ 0 _ st1 (Nat.zero_le _) ⟨st.length, id, none, none, none, none, none, none, none, rfl, by rw [List.take_zero]; exact Lab.zero n, e0, k0, Nat.le_refl _⟩).mono ?_
  · rintro i x μ st2 hx ⟨r, f, x2, x3, x4, x5, x6, x7, x8, rfl, lab, hr, kx, hrl⟩
    refine ⟨rfl, ?_⟩
    rw [List.getElem?_map] at hx
    obtain ⟨s, hs, rfl⟩ := Option.map_eq_some_iff.mp hx
    obtain ⟨h1, h2, _, _⟩ := t.ok s (List.mem_of_getElem? hs)
    have tk : ss.take (i + 1) = ss.take i ++ [s] := by rw [List.take_add_one, hs]; rfl
    have getM : ∀ c, c < n → (((List.range n).map f).map iD)[c]? = some (iD (f c)) := fun c hc => by rw [List.getElem?_map, List.getElem?_map, List.getElem?_range hc]; rfl
    refine v_gT (ds := [iD s.1, iD s.2.1, iD s.2.2]) rfl rfl ?_
    walk_at "fd"
    with_reducible refine W.of (s_ixl hr (atI_nat (getM s.1 (by omega)))) ?_
    walk_at "fd"
    with_reducible refine W.of (s_ixl hr (atI_nat (getM s.2.1 h2))) ?_
    walk_at "fd"
    have hn2 : (st2 ++ [O.lst [iD (f s.1), iD (f s.2.1)]])[st2.length]? = some (.lst ([(f s.1 : Int), (f s.2.1 : Int)].map D.int)) := get_new
    refine W.of (s_sorted (lst_lst hn2)) ?_
    rw [sort2']
    refine v_gT (seq_lst get_new) rfl ?_
    walk_at "fd"
    have kx3 : Kx [] st2 (st2 ++ [O.lst [iD (f s.1), iD (f s.2.1)]] ++ [O.lst [iD (min (f s.1) (f s.2.1)), iD (max (f s.1) (f s.2.1))]]) := (Kx.app _).push _
    generalize st2 ++ [O.lst [iD (f s.1), iD (f s.2.1)]] ++ [O.lst [iD (min (f s.1) (f s.2.1)), iD (max (f s.1) (f s.2.1))]] = st3 at kx3 ⊢
    have hr3 := kx3.at hr (by simp)
    have sk : SeqK [] (.ref r) st3 (((List.range n).map f).map iD) := .inr (.inr ⟨r, rfl, by simp, hr3⟩)
    obtain ⟨gs, eg, og⟩ := sk.src
    refine ⟨_, eg, ?_⟩
    refine lcGo_mp (S := []) (st0 := st3) ((List.range n).map f) iD (fun a => some (iD (if a = max (f s.1) (f s.2.1) then min (f s.1) (f s.2.1) else a))) rfl (by rw [List.length_map, List.length_range]; exact Nat.le_trans hn (by decide)) (Nat.le_refl _) (by simp) og (fun a ha st4 kx4 hl => ?_) (fun st4 kx4 he => ?_) (Kx.app _) get_new
    · walk_at "fd"
      refine v_ite (fun e => ?_) (fun e => ?_)
      · walk_at "fd"
        have : a = max (f s.1) (f s.2.1) := by rw [decide_eq_true_eq] at e; omega
        exact ⟨Kx.refl, by rw [if_pos this]⟩
      · walk_at "fd"
        have : ¬ a = max (f s.1) (f s.2.1) := by rw [decide_eq_false_iff_not] at e; omega
        exact ⟨Kx.refl, by rw [if_neg this]⟩
    · walk_at "fd"
      refine ⟨st3.length, fun c => if f c = max (f s.1) (f s.2.1) then min (f s.1) (f s.2.1) else f c, _, _, _, _, _, _, _, rfl, by rw [tk]; exact lab.step (by omega) h2, ?_, (kx.trans kx3).trans kx4, by have := (kx.trans kx3).1; omega⟩
      rw [he]
      congr 2
      rw [List.filterMap_map, List.map_map, ← List.filterMap_eq_map]
      rfl
  · rintro μ st2 ⟨r, f, x2, x3, x4, x5, x6, x7, x8, rfl, lab, hr, kx, hrl⟩
    rw [List.length_map, List.take_length] at lab
    exact ⟨rfl, r, f, _, _, _, _, _, _, _, rfl, lab, hr, kx, hrl⟩
  · rintro o st2 ⟨r, f, x2, x3, x4, x5, x6, x7, x8, rfl, lab, hr, kx, hrl⟩
    walk_at "fd"
    have hr' : st2[r]? = some (.lst ((((List.range n).map f).map fun k : Nat => (k : Int)).map D.int)) := by rw [hr, List.map_map (g := D.int)]; rfl
    refine W.of (s_sset (seq_lst hr') (by simp; omega)) ?_
    obtain ⟨R, eR, pw, mem⟩ := ssetN ((List.range n).map f)
    rw [eR, List.map_map]
    have reps := lab.reps t pw mem
    have hR : R.length ≤ n := nodup_len n R (pw.imp fun {a b} z => Nat.ne_of_lt z) fun a ha => ((reps.2 a).mp ha).1
    have sk : SeqK [] (.ref st2.length) (st2 ++ [O.lst (R.map (D.int ∘ fun k : Nat => (k : Int)))]) (R.map iD) := .inr (.inr ⟨_, rfl, by simp, get_new⟩)
    obtain ⟨gs, eg, og⟩ := sk.src
    refine ⟨_, eg, ?_⟩
    have kx3 : Kx [] st2 (st2 ++ [O.lst (R.map (D.int ∘ fun k : Nat => (k : Int)))]) := Kx.app _
    have hr3 := kx3.at hr (by simp)
    generalize st2 ++ [O.lst (R.map (D.int ∘ fun k : Nat => (k : Int)))] = st3 at og kx3 hr3 ⊢
    refine lcGo_mp (S := []) (st0 := st3) R iD (fun a => some (compD ((List.range n).filter fun c => decide (f c = a)))) rfl (Nat.le_trans hR (Nat.le_trans hn (by decide))) (Nat.le_refl _) (by simp) og (fun a ha st4 kx4 hl => ?_) (fun st4 kx4 he => ?_) (Kx.app _) get_new
    · walk_at "fd"
      with_reducible refine W.of town_ix0 ?_
      walk_at "fd"
      with_reducible refine W.of (s_rng1 (by omega) (by omega)) ?_
      rw [Int.toNat_natCast, rangeD_iD]
      refine lcGo_mp (S := []) (st0 := st4) (List.range n) iD (fun c => if decide (f c = a) = true then some (iD c) else none) rfl (by rw [List.length_range]; exact Nat.le_trans hn (by decide)) (Nat.le_refl _) (by simp) (fun _ _ => rfl) (fun c hc st5 kx5 hl5 => ?_) (fun st5 kx5 he5 => ?_) (Kx.app _) get_new
      · walk_at "fd"
        have hr5 := (kx4.trans kx5).at hr3 (by simp)
        have hc := List.mem_range.mp hc
        have getM : (((List.range n).map f).map iD)[c]? = some (iD (f c)) := by rw [List.getElem?_map, List.getElem?_map, List.getElem?_range hc]; rfl
        with_reducible refine W.of (s_ixl hr5 (atI_nat getM)) ?_
        walk_at "fd"
        refine v_ite (fun e => ?_) (fun e => ?_)
        · walk_at "fd"
          have : f c = a := by rw [decide_eq_true_eq] at e; omega
          exact ⟨Kx.refl, if_pos (decide_eq_true this)⟩
        · have : ¬ f c = a := by rw [decide_eq_false_iff_not] at e; omega
          exact ⟨Kx.refl, if_neg (by rw [decide_eq_false this]; decide)⟩
      · walk_at "fd"
        rw [filterMap_if] at he5
        refine W.of (s_tuple (seq_lst he5)) ?_
        walk_at "fd"
        exact ⟨kx5, rfl⟩
    · walk_at "fd"
      refine q R (R.map fun a => (List.range n).filter fun c => decide (f c = a)) _ st4 reps (comps_map R fun a ha => lab.comp t ((reps.2 a).mp ha).1 ((reps.2 a).mp ha).2) ((kx.trans kx3).trans kx4) (by have := (kx.trans kx3).1; omega) ?_
      rw [he, List.map_map, ← List.filterMap_eq_map]
      rfl
end Lk10
end
section
set_option Elab.async false
set_option linter.all false
set_option maxRecDepth 100000
set_option maxHeartbeats 4000000
namespace Lk10
open PySem Fd L2
local macro_rules | `(tactic| walk_at "fd1") => `(tactic| with_reducible first
  | refine v_mSeq ?_ | refine v_m2 ?_ | refine v_mVar rfl ?_ | refine v_mC ?_ | refine v_mN ?_ | refine v_mCons ?_ | refine v_mNil ?_ | refine v_m1 ?_ | refine v_mB ?_ | refine v_mIfS ?_ | refine v_mAsg ?_ | refine v_mRet ?_ | refine v_gN ?_ | refine v_gS ?_
  | refine v_mNext ?_ | refine v_mAndV ?_ | refine v_mOrV ?_ | refine v_mNotV ?_ | refine v_mAnd ?_ | refine v_mOr ?_ | refine v_mNot ?_ | refine v_mIf ?_ | refine v_mChn ?_ | refine v_lkLast ?_ | refine v_lkCons ?_ | refine v_mSl ?_ | refine v_mPartN ?_ | refine v_mPartS ?_ | refine v_mSlS ?_ | refine v_mM ?_
  | refine v_mDnew ?_ | refine v_mPnil ?_ | refine v_mPair ?_ | refine v_mDrop ?_ | refine v_mRetN ?_ | refine v_mPar2 ?_ | refine v_mPar3 ?_ | refine v_mFor ?_ | refine v_mLc ?_ | refine v_mIt ?_ | refine v_mEnum ?_ | refine v_mRng ?_ | refine v_gsNil ?_ | refine v_gsCons ?_ | refine v_yes ?_
  | refine v_endN ?_ | refine v_endR ?_ | refine v_nx ?_ | refine v_rt ?_ | refine v_bl ?_ | refine v_kin ?_ | refine v_itt ?_ | refine v_iff ?_
  | refine W.of s_add ?_ | refine W.of s_sub ?_ | refine W.of (s_i2 _) ?_ | refine W.of s_int ?_ | refine W.of s_intb ?_ | refine W.of s_abs ?_ | refine W.of s_neg ?_ | refine W.of s_eqi ?_ | refine W.of s_nei ?_ | refine W.of s_eqb ?_ | refine W.of s_neb ?_ | refine W.of s_lent ?_ | refine W.of s_lenr ?_ | refine W.of s_max2 ?_ | refine W.of s_min2 ?_ | refine W.of s_nT0 ?_ | refine W.of s_nL0 ?_ | refine W.of s_nT1 ?_ | refine W.of s_nL1 ?_ | refine W.of s_nT2 ?_ | refine W.of s_nL2 ?_ | refine W.of s_nT3 ?_ | refine W.of s_nL3 ?_ | refine W.of s_nT4 ?_ | refine W.of s_nL4 ?_ | refine W.of s_nT5 ?_ | refine W.of s_nL5 ?_)
local macro_rules | `(tactic| walk_at "fd") => `(tactic| repeat walk_at "fd1")
theorem pieces_W {n : Nat} {ss : List St3} (t : Town n ss) {st : Sto} {Q : D → Sto → Prop} (q : ∀ R P st', IsReps n ss R → Comps ss R P → Kx [] st st' → Q (.tup (P.map compD)) st') : W (g_pieces [townD n ss] st) Q := by
  unfold g_pieces m_pieces
  with_reducible refine v_fnD rfl ?_
  walk_at "fd"
  refine check_town_W t fun st1 k1 => ?_
  walk_at "fd"
  with_reducible refine pieces_of_W t fun R P r st2 hR hC k2 he => ?_
  walk_at "fd"
  refine W.of (s_tuple (seq_lst he)) ?_
  walk_at "fd"
  exact q R P st2 hR hC (k1.trans k2)
theorem check_corner_W {n c : Nat} {ss : List St3} (hc : c < n) {st : Sto} {Q : D → Sto → Prop} (q : Q .non st) : W (g_check_corner [townD n ss, iD c] st) Q := by
  unfold g_check_corner m_check_corner
  with_reducible refine v_fnD rfl ?_
  walk_at "fd"
  with_reducible refine W.of town_ix0 ?_
  walk_at "fd"
  refine between_W (.int _) ?_
  walk_at "fd"
  have : betw (iD c) 0 ((n : Int) - 1) = true := by
    show (decide ((0 : Int) ≤ c) && decide ((c : Int) ≤ n - 1)) = true
    simp only [Bool.and_eq_true, decide_eq_true_eq]
    omega
  rw [this]
  refine v_ite_f rfl ?_
  walk_at "fd"
  exact q
theorem piece_of_W {n c : Nat} {ss : List St3} (t : Town n ss) (hc : c < n) {st : Sto} {Q : D → Sto → Prop} (q : ∀ L st', IsComp ss c L → Kx [] st st' → Q (compD L) st') : W (g_piece_of [townD n ss, iD c] st) Q := by
  unfold g_piece_of m_piece_of
  with_reducible refine v_fnD rfl ?_
  walk_at "fd"
  refine check_town_W t fun st1 k1 => ?_
  walk_at "fd"
  refine check_corner_W hc ?_
  walk_at "fd"
  refine hanging_W t hc fun L st2 hL k2 => ?_
  walk_at "fd"
  exact q L st2 hL (k1.trans k2)
/-- the places of the streets that p takes -/
def places (ss : List St3) (p : St3 → Bool) : List Nat := ((ss.mapIdx fun i s => (i, s)).filter fun q => p q.2).map (·.1)
theorem enum_ss (ss : List St3) : enumD (ss.map stD) = (ss.mapIdx fun i s => (i, s)).map fun q => .tup [iD q.1, stD q.2] := enumD_map ss stD
theorem places_fm {ss : List St3} {p : St3 → Bool} : (ss.mapIdx fun i s => (i, s)).filterMap (fun q => if p q.2 = true then some (iD q.1) else none) = (places ss p).map iD := by
  unfold places
  rw [filterMap_if (p := fun q : Nat × St3 => p q.2) (h := fun q => iD q.1), List.map_map]
  rfl
theorem mapIdx_len (ss : List St3) : (ss.mapIdx fun i s => (i, s)).length = ss.length := by simp
theorem mem_mapIdx' {ss : List St3} {q : Nat × St3} (h : q ∈ ss.mapIdx fun i s => (i, s)) : q.2 ∈ ss ∧ q.1 < ss.length := by
  obtain ⟨i, hi, e⟩ := List.mem_iff_getElem.mp h
  rw [List.getElem_mapIdx] at e
  rw [← e]
  have hi' : i < ss.length := by simpa using hi
  exact ⟨List.getElem_mem hi', hi'⟩
theorem places_lt {ss : List St3} {p : St3 → Bool} : ∀ k ∈ places ss p, k < ss.length := by
  intro k hk
  obtain ⟨q, hq, rfl⟩ := List.mem_map.mp hk
  exact (mem_mapIdx' (List.mem_filter.mp hq).1).2
theorem places_len {ss : List St3} {p : St3 → Bool} : (places ss p).length ≤ ss.length := by
  unfold places
  rw [List.length_map]
  exact Nat.le_trans (List.length_filter_le _ _) (Nat.le_of_eq (mapIdx_len ss))
theorem places_count (ss : List St3) (p : St3 → Bool) : (places ss p).length = ss.countP p := by
  unfold places
  rw [List.length_map, ← List.countP_eq_length_filter]
  have : (fun q : Nat × St3 => p q.2) = p ∘ Prod.snd := rfl
  rw [this, ← List.countP_map]
  congr 1
  apply List.ext_getElem?
  intro i
  rw [List.getElem?_map, List.getElem?_mapIdx]
  cases ss[i]? <;> rfl
/-- the streets enumerated, and those kept that p takes -/
theorem enum_W {n : Nat} {ss : List St3} (t : Town n ss) {g : GE} {tt : BE} {e : EE} {μ : Mu} {st0 : Sto} {Q : D → Sto → Prop} (p : St3 → Bool)
    (step : ∀ i s, s ∈ ss → ∀ st, Kx [] st0 st → W (g (.tup [iD i, stD s]) μ st) fun μ2 st2 => W (tt μ2 st2) fun b st3 => if b = true then p s = true ∧ W (e μ2 st3) fun y st4 => Kx [] st st4 ∧ y = iD i else Kx [] st st3 ∧ p s = false)
    (fin : ∀ r st, Kx [] st0 st → st0.length ≤ r → st[r]? = some (.lst ((places ss p).map iD)) → Q (.ref r) st) : W (lcGo [] g tt e μ st0.length (enumD (ss.map stD)) (st0 ++ [.lst []])) Q := by
  have few := t.few
  refine lcGo_mp (S := []) (st0 := st0) (ss.mapIdx fun i s => (i, s)) (fun q => .tup [iD q.1, stD q.2]) (fun q => if p q.2 = true then some (iD q.1) else none) (enum_ss ss) (by rw [mapIdx_len]; exact Nat.le_trans few (by decide)) (Nat.le_refl _) (by simp) (fun _ _ => rfl) (fun q hq st kx hl => ?_) (fun st kx he => ?_) (Kx.app _) get_new
  · refine (step q.1 q.2 (mem_mapIdx' hq).1 st kx).mono fun μ2 st2 h => h.mono fun b st3 h => ?_
    cases b with
    | true =>
      rw [if_pos rfl] at h ⊢
      obtain ⟨hp, h⟩ := h
      exact h.mono fun y st4 ⟨k, e⟩ => ⟨k, by rw [if_pos hp, e]⟩
    | false =>
      rw [if_neg (by decide)] at h ⊢
      exact ⟨h.1, by rw [if_neg (by rw [h.2]; decide)]⟩
  · rw [places_fm] at he
    exact fin _ st kx (Nat.le_refl _) he
theorem at_corner_W {n c : Nat} {ss : List St3} (t : Town n ss) {st : Sto} {Q : D → Sto → Prop} (q : ∀ r st', Kx [] st st' → st'[r]? = some (.lst ((places ss (at_ c)).map iD)) → Q (.ref r) st') : W (g_at_corner [townD n ss, iD c] st) Q := by
  unfold g_at_corner m_at_corner
  with_reducible refine v_fnD rfl ?_
  walk_at "fd"
  with_reducible refine W.of town_ix1 ?_
  refine ⟨_, rfl, ?_⟩
  refine enum_W t (at_ c) (fun i s hs st1 kx => ?_) (fun r st' kx hr he => ?_)
  · refine v_gT (ds := [iD i, stD s]) rfl rfl ?_
    walk_at "fd"
    with_reducible refine W.of st_sl ?_
    with_reducible refine W.of s_in2 ?_
    walk_at "fd"
    rw [show id (decide ((s.1 : Int) = c) || decide ((s.2.1 : Int) = c)) = at_ c s from at_eq c s]
    refine v_ite (fun e => ?_) (fun e => ?_)
    · refine ⟨e, ?_⟩
      walk_at "fd"
      exact ⟨Kx.refl, rfl⟩
    · exact ⟨Kx.refl, e⟩
  · walk_at "fd"
    exact q r st' kx he
theorem streets_at_W {n c : Nat} {ss : List St3} (t : Town n ss) (hc : c < n) {st : Sto} {Q : D → Sto → Prop} (q : ∀ st', Kx [] st st' → Q (.tup ((places ss (at_ c)).map iD)) st') : W (g_streets_at [townD n ss, iD c] st) Q := by
  unfold g_streets_at m_streets_at
  with_reducible refine v_fnD rfl ?_
  walk_at "fd"
  refine check_town_W t fun st1 k1 => ?_
  walk_at "fd"
  refine check_corner_W hc ?_
  walk_at "fd"
  refine at_corner_W t fun r st2 k2 he => ?_
  walk_at "fd"
  refine W.of (s_tuple (seq_lst he)) ?_
  walk_at "fd"
  exact q st2 (k1.trans k2)
theorem any_iD (l : List Nat) (c : Nat) : ((l.map iD).any fun z => eqF z (.int (c : Int))) = decide (c ∈ l) := by
  induction l with
  | nil => rfl
  | cons x r ih =>
    rw [List.map_cons, List.any_cons, ih]
    have : eqF (iD x) (.int (c : Int)) = decide (c = x) := by
      show decide ((x : Int) = c) = _
      by_cases h : c = x
      · rw [decide_eq_true h, decide_eq_true (by omega)]
      · rw [decide_eq_false h, decide_eq_false (by omega)]
    rw [this]
    by_cases h : c = x <;> simp [h]
theorem flat_iD (l : List Nat) : (l.map iD).all flatD = true := by
  rw [List.all_map, List.all_eq_true]
  exact fun x _ => rfl
theorem s_inT {f : Bool → Bool} {c : Nat} {l : List Nat} {st : Sto} : opIn f (iD c) (.tup (l.map iD)) st = .ok (.bl (f (decide (c ∈ l)))) st := by
  unfold opIn seqOf
  simp only
  rw [if_pos ⟨rfl, flat_iD l⟩, any_iD]
theorem between_all_W {l : List Nat} {m : Int} {st : Sto} {Q : D → Sto → Prop} (hl : l.length ≤ 1000) (h : ∀ k ∈ l, (k : Int) ≤ m) (q : ∀ st', Kx [] st st' → Q (.bl true) st') : W (g_are_between [.tup (l.map iD), .int 0, .int m] st) Q := by
  unfold g_are_between m_are_between
  with_reducible refine v_fnD rfl ?_
  walk_at "fd"
  refine w_ist (.tup fun x hx => by obtain ⟨k, _, rfl⟩ := List.mem_map.mp hx; exact .int _) ?_
  walk_at "fd"
  refine v_ite_t rfl ?_
  walk_at "fd"
  refine ⟨_, rfl, ?_⟩
  refine lcGo_mp (S := []) (st0 := st) l iD (fun k => some (D.bl (betw (iD k) 0 m))) rfl (Nat.le_trans hl (by decide)) (Nat.le_refl _) (by simp) (fun _ _ => rfl) (fun k hk st1 kx hn => ?_) (fun st1 kx he => ?_) (Kx.app _) get_new
  · walk_at "fd"
    exact between_W (.int _) ⟨Kx.refl, rfl⟩
  · walk_at "fd"
    rw [filterMap_bl (f := fun k => betw (iD k) 0 m)] at he
    refine W.of (s_all he) ?_
    walk_at "fd"
    rw [all_map_id]
    have : (l.all fun k => betw (iD k) 0 m) = true := by
      rw [List.all_eq_true]
      intro k hk
      show (decide ((0 : Int) ≤ k) && decide ((k : Int) ≤ m)) = true
      have := h k hk
      simp only [Bool.and_eq_true, decide_eq_true_eq]
      omega
    rw [this]
    exact q st1 kx
end Lk10
end
section
set_option Elab.async false
set_option linter.all false
set_option maxRecDepth 100000
set_option maxHeartbeats 4000000
namespace Lk10
open PySem Fd L2
local macro_rules | `(tactic| walk_at "fd1") => `(tactic| with_reducible first
  | refine v_mSeq ?_ | refine v_m2 ?_ | refine v_mVar rfl ?_ | refine v_mC ?_ | refine v_mN ?_ | refine v_mCons ?_ | refine v_mNil ?_ | refine v_m1 ?_ | refine v_mB ?_ | refine v_mIfS ?_ | refine v_mAsg ?_ | refine v_mRet ?_ | refine v_gN ?_ | refine v_gS ?_
  | refine v_mNext ?_ | refine v_mAndV ?_ | refine v_mOrV ?_ | refine v_mNotV ?_ | refine v_mAnd ?_ | refine v_mOr ?_ | refine v_mNot ?_ | refine v_mIf ?_ | refine v_mChn ?_ | refine v_lkLast ?_ | refine v_lkCons ?_ | refine v_mSl ?_ | refine v_mPartN ?_ | refine v_mPartS ?_ | refine v_mSlS ?_ | refine v_mM ?_
  | refine v_mDnew ?_ | refine v_mPnil ?_ | refine v_mPair ?_ | refine v_mDrop ?_ | refine v_mRetN ?_ | refine v_mPar2 ?_ | refine v_mPar3 ?_ | refine v_mFor ?_ | refine v_mLc ?_ | refine v_mIt ?_ | refine v_mEnum ?_ | refine v_mRng ?_ | refine v_gsNil ?_ | refine v_gsCons ?_ | refine v_yes ?_
  | refine v_endN ?_ | refine v_endR ?_ | refine v_nx ?_ | refine v_rt ?_ | refine v_bl ?_ | refine v_kin ?_ | refine v_itt ?_ | refine v_iff ?_
  | refine W.of s_add ?_ | refine W.of s_sub ?_ | refine W.of (s_i2 _) ?_ | refine W.of s_int ?_ | refine W.of s_intb ?_ | refine W.of s_abs ?_ | refine W.of s_neg ?_ | refine W.of s_eqi ?_ | refine W.of s_nei ?_ | refine W.of s_eqb ?_ | refine W.of s_neb ?_ | refine W.of s_lent ?_ | refine W.of s_lenr ?_ | refine W.of s_max2 ?_ | refine W.of s_min2 ?_ | refine W.of s_nT0 ?_ | refine W.of s_nL0 ?_ | refine W.of s_nT1 ?_ | refine W.of s_nL1 ?_ | refine W.of s_nT2 ?_ | refine W.of s_nL2 ?_ | refine W.of s_nT3 ?_ | refine W.of s_nL3 ?_ | refine W.of s_nT4 ?_ | refine W.of s_nL4 ?_ | refine W.of s_nT5 ?_ | refine W.of s_nL5 ?_)
local macro_rules | `(tactic| walk_at "fd") => `(tactic| repeat walk_at "fd1")
theorem v_mZip {f g : EE} {μ : Mu} {st : Sto} {QI : List D × Gd → Sto → Prop} (h : W (f μ st) fun a st1 => W (g μ st1) fun b st2 => ∃ p q, srcD a st2 = some p ∧ srcD b st2 = some q ∧ QI (zipD p.1 q.1, p.2 ++ q.2) st2) : W (mZip f g μ st) QI := by
  unfold mZip
  rw [W_bind]
  refine h.mono fun a st1 h => ?_
  rw [W_bind]
  refine h.mono fun b st2 ⟨p, q, e1, e2, h⟩ => ?_
  rw [e1, e2]
  exact h
theorem cut_from {xs : List D} {k : Nat} : cutD xs (some (k : Int)) none = xs.drop k := by
  unfold cutD
  rw [HT.sIx_nat, HT.sIx_none]
  by_cases h : k ≤ xs.length
  · rw [Nat.min_eq_left h]
    exact List.take_of_length_le (by rw [List.length_drop]; omega)
  · rw [Nat.min_eq_right (by omega), List.drop_of_length_le (Nat.le_refl _), List.drop_of_length_le (by omega)]
    simp
theorem cut_to {xs : List D} {k : Nat} : cutD xs none (some (k : Int)) = xs.take k := by
  unfold cutD
  rw [HT.sIx_nat, HT.sIx_none, List.drop_zero, Nat.sub_zero]
  by_cases h : k ≤ xs.length
  · rw [Nat.min_eq_left h]
  · rw [Nat.min_eq_right (by omega), List.take_of_length_le (Nat.le_refl _), List.take_of_length_le (by omega)]
theorem zip_iD (l m : List Nat) : zipD (l.map iD) (m.map iD) = (l.zip m).map fun q => .tup [iD q.1, iD q.2] := by
  unfold zipD
  induction l generalizing m with
  | nil => rfl
  | cons x r ih =>
    cases m with
    | nil => rfl
    | cons y t => rw [List.map_cons, List.map_cons, List.zipWith_cons_cons, ih, List.zip_cons_cons, List.map_cons]
theorem zip_asc {l : List Nat} (h : l.Pairwise (· < ·)) : ∀ q ∈ l.zip (l.drop 1), q.1 < q.2 := by
  induction l with
  | nil => exact fun q hq => nomatch hq
  | cons x r ih =>
    rw [List.pairwise_cons] at h
    intro q hq
    cases r with
    | nil => cases hq
    | cons y t =>
      rw [List.drop_succ_cons, List.drop_zero, List.zip_cons_cons] at hq
      rcases List.mem_cons.mp hq with e | e
      · rw [e]; exact h.1 y List.mem_cons_self
      · exact ih h.2 q (by rw [List.drop_succ_cons, List.drop_zero]; exact e)
theorem ascending_W {l : List Nat} {st : Sto} {Q : D → Sto → Prop} (hl : l.length ≤ 1000) (h : l.Pairwise (· < ·)) (q : ∀ st', Kx [] st st' → Q (.bl true) st') : W (g_is_ascending [.tup (l.map iD)] st) Q := by
  unfold g_is_ascending m_is_ascending
  with_reducible refine v_fnD rfl ?_
  walk_at "fd"
  refine v_mZip ?_
  walk_at "fd"
  refine W.of (st := st) (a := .tup (cutD (l.map iD) (some ((1 : Nat) : Int)) none)) rfl ?_
  rw [cut_from, ← List.map_drop]
  refine ⟨_, _, rfl, rfl, ?_⟩
  refine lcGo_mp (S := []) (st0 := st) (l.zip (l.drop 1)) (fun q => .tup [iD q.1, iD q.2]) (fun q => some (D.bl (decide ((q.1 : Int) < q.2)))) (zip_iD _ _) (by rw [List.length_zip]; exact Nat.le_trans (Nat.min_le_left _ _) (Nat.le_trans hl (by decide))) (Nat.le_refl _) (by simp) (fun _ _ => rfl) (fun k hk st1 kx hn => ?_) (fun st1 kx he => ?_) (Kx.app _) get_new
  · refine v_gT (ds := [iD k.1, iD k.2]) rfl rfl ?_
    walk_at "fd"
    exact ⟨Kx.refl, rfl⟩
  · walk_at "fd"
    rw [filterMap_bl (f := fun q : Nat × Nat => decide ((q.1 : Int) < q.2))] at he
    refine W.of (s_all he) ?_
    walk_at "fd"
    rw [all_map_id]
    have : ((l.zip (l.drop 1)).all fun q => decide ((q.1 : Int) < q.2)) = true := by
      rw [List.all_eq_true]
      intro k hk
      have := zip_asc h k hk
      rw [decide_eq_true_eq]
      omega
    rw [this]
    exact q st1 kx
theorem check_lot_W {n : Nat} {ss : List St3} {l : List Nat} (hl : l.length ≤ 1000) (h : l.Pairwise (· < ·)) (hb : ∀ k ∈ l, k < n) {st : Sto} {Q : D → Sto → Prop} (q : ∀ st', Kx [] st st' → Q .non st') : W (g_check_lot [townD n ss, .tup (l.map iD)] st) Q := by
  unfold g_check_lot m_check_lot
  with_reducible refine v_fnD rfl ?_
  walk_at "fd"
  unfold g_is_lot m_is_lot
  with_reducible refine v_fnD rfl ?_
  walk_at "fd"
  with_reducible refine W.of town_ix0 ?_
  walk_at "fd"
  refine between_all_W hl (fun k hk => by have := hb k hk; omega) fun st1 k1 => ?_
  walk_at "fd"
  refine ascending_W hl h fun st2 k2 => ?_
  walk_at "fd"
  refine v_ite_f rfl ?_
  walk_at "fd"
  exact q st2 (k1.trans k2)
theorem check_bunch_W {n : Nat} {ss : List St3} {l : List Nat} (hl : l.length ≤ 1000) (h : l.Pairwise (· < ·)) (hb : ∀ k ∈ l, k < ss.length) {st : Sto} {Q : D → Sto → Prop} (q : ∀ st', Kx [] st st' → Q .non st') : W (g_check_bunch [townD n ss, .tup (l.map iD)] st) Q := by
  unfold g_check_bunch m_check_bunch
  with_reducible refine v_fnD rfl ?_
  walk_at "fd"
  unfold g_is_bunch m_is_bunch
  with_reducible refine v_fnD rfl ?_
  walk_at "fd"
  with_reducible refine W.of town_ix1 ?_
  walk_at "fd"
  refine between_all_W hl (fun k hk => by have := hb k hk; rw [List.length_map]; omega) fun st1 k1 => ?_
  walk_at "fd"
  refine ascending_W hl h fun st2 k2 => ?_
  walk_at "fd"
  refine v_ite_f rfl ?_
  walk_at "fd"
  exact q st2 (k1.trans k2)
def crossB (l : List Nat) (s : St3) : Bool := !decide (decide (s.1 ∈ l) = decide (s.2.1 ∈ l))
def insideB (l : List Nat) (s : St3) : Bool := decide (s.1 ∈ l) && decide (s.2.1 ∈ l)
theorem across_W {n : Nat} {ss : List St3} (t : Town n ss) {l : List Nat} (hl : l.length ≤ 1000) (h : l.Pairwise (· < ·)) (hb : ∀ k ∈ l, k < n) {st : Sto} {Q : D → Sto → Prop} (q : ∀ st', Kx [] st st' → Q (.tup ((places ss (crossB l)).map iD)) st') : W (g_across [townD n ss, .tup (l.map iD)] st) Q := by
  unfold g_across m_across
  with_reducible refine v_fnD rfl ?_
  walk_at "fd"
  refine check_town_W t fun st1 k1 => ?_
  walk_at "fd"
  refine check_lot_W hl h hb fun st2 k2 => ?_
  walk_at "fd"
  unfold g_crossing m_crossing
  with_reducible refine v_fnD rfl ?_
  walk_at "fd"
  with_reducible refine W.of town_ix1 ?_
  refine ⟨_, rfl, ?_⟩
  refine enum_W t (crossB l) (fun i s hs st3 kx => ?_) (fun r st3 kx hr he => ?_)
  · refine v_gT (ds := [iD i, stD s]) rfl rfl ?_
    walk_at "fd"
    refine v_gT (ds := [iD s.1, iD s.2.1, iD s.2.2]) rfl rfl ?_
    walk_at "fd"
    with_reducible refine W.of s_inT ?_
    walk_at "fd"
    with_reducible refine W.of s_inT ?_
    walk_at "fd"
    change if crossB l s = true then _ else _
    refine v_ite (fun e => ?_) (fun e => ?_)
    · refine ⟨e, ?_⟩
      walk_at "fd"
      exact ⟨Kx.refl, rfl⟩
    · exact ⟨Kx.refl, e⟩
  · walk_at "fd"
    refine W.of (s_tuple (seq_lst he)) ?_
    walk_at "fd"
    exact q st3 ((k1.trans k2).trans kx)
theorem inside_W {n : Nat} {ss : List St3} (t : Town n ss) {l : List Nat} (hl : l.length ≤ 1000) (h : l.Pairwise (· < ·)) (hb : ∀ k ∈ l, k < n) {st : Sto} {Q : D → Sto → Prop} (q : ∀ st', Kx [] st st' → Q (.tup ((places ss (insideB l)).map iD)) st') : W (g_inside [townD n ss, .tup (l.map iD)] st) Q := by
  unfold g_inside m_inside
  with_reducible refine v_fnD rfl ?_
  walk_at "fd"
  refine check_town_W t fun st1 k1 => ?_
  walk_at "fd"
  refine check_lot_W hl h hb fun st2 k2 => ?_
  walk_at "fd"
  with_reducible refine W.of town_ix1 ?_
  refine ⟨_, rfl, ?_⟩
  refine enum_W t (insideB l) (fun i s hs st3 kx => ?_) (fun r st3 kx hr he => ?_)
  · refine v_gT (ds := [iD i, stD s]) rfl rfl ?_
    walk_at "fd"
    refine v_gT (ds := [iD s.1, iD s.2.1, iD s.2.2]) rfl rfl ?_
    walk_at "fd"
    with_reducible refine W.of s_inT ?_
    walk_at "fd"
    refine v_ite (fun e1 => ?_) (fun e1 => ?_)
    · walk_at "fd"
      with_reducible refine W.of s_inT ?_
      walk_at "fd"
      have e1 : decide (s.1 ∈ l) = true := e1
      refine v_ite (fun e => ?_) (fun e => ?_)
      · have e : decide (s.2.1 ∈ l) = true := e
        refine ⟨by unfold insideB; rw [e1, e]; rfl, ?_⟩
        walk_at "fd"
        exact ⟨Kx.refl, rfl⟩
      · have e : decide (s.2.1 ∈ l) = false := e
        exact ⟨Kx.refl, by unfold insideB; rw [e1, e]; rfl⟩
    · have e1 : decide (s.1 ∈ l) = false := e1
      exact v_iff ⟨Kx.refl, by unfold insideB; rw [e1]; rfl⟩
  · walk_at "fd"
    refine W.of (s_tuple (seq_lst he)) ?_
    walk_at "fd"
    exact q st3 ((k1.trans k2).trans kx)
end Lk10
end
section
set_option Elab.async false
set_option linter.all false
set_option maxRecDepth 100000
set_option maxHeartbeats 4000000
namespace Lk10
open PySem Fd L2
local macro_rules | `(tactic| walk_at "fd1") => `(tactic| with_reducible first
  | refine v_mSeq ?_ | refine v_m2 ?_ | refine v_mVar rfl ?_ | refine v_mC ?_ | refine v_mN ?_ | refine v_mCons ?_ | refine v_mNil ?_ | refine v_m1 ?_ | refine v_mB ?_ | refine v_mIfS ?_ | refine v_mAsg ?_ | refine v_mRet ?_ | refine v_gN ?_ | refine v_gS ?_
  | refine v_mNext ?_ | refine v_mAndV ?_ | refine v_mOrV ?_ | refine v_mNotV ?_ | refine v_mAnd ?_ | refine v_mOr ?_ | refine v_mNot ?_ | refine v_mIf ?_ | refine v_mChn ?_ | refine v_lkLast ?_ | refine v_lkCons ?_ | refine v_mSl ?_ | refine v_mPartN ?_ | refine v_mPartS ?_ | refine v_mSlS ?_ | refine v_mM ?_
  | refine v_mDnew ?_ | refine v_mPnil ?_ | refine v_mPair ?_ | refine v_mDrop ?_ | refine v_mRetN ?_ | refine v_mPar2 ?_ | refine v_mPar3 ?_ | refine v_mFor ?_ | refine v_mLc ?_ | refine v_mIt ?_ | refine v_mEnum ?_ | refine v_mRng ?_ | refine v_gsNil ?_ | refine v_gsCons ?_ | refine v_yes ?_
  | refine v_endN ?_ | refine v_endR ?_ | refine v_nx ?_ | refine v_rt ?_ | refine v_bl ?_ | refine v_kin ?_ | refine v_itt ?_ | refine v_iff ?_
  | refine W.of s_add ?_ | refine W.of s_sub ?_ | refine W.of (s_i2 _) ?_ | refine W.of s_int ?_ | refine W.of s_intb ?_ | refine W.of s_abs ?_ | refine W.of s_neg ?_ | refine W.of s_eqi ?_ | refine W.of s_nei ?_ | refine W.of s_eqb ?_ | refine W.of s_neb ?_ | refine W.of s_lent ?_ | refine W.of s_lenr ?_ | refine W.of s_max2 ?_ | refine W.of s_min2 ?_ | refine W.of s_nT0 ?_ | refine W.of s_nL0 ?_ | refine W.of s_nT1 ?_ | refine W.of s_nL1 ?_ | refine W.of s_nT2 ?_ | refine W.of s_nL2 ?_ | refine W.of s_nT3 ?_ | refine W.of s_nL3 ?_ | refine W.of s_nT4 ?_ | refine W.of s_nL4 ?_ | refine W.of s_nT5 ?_ | refine W.of s_nL5 ?_)
local macro_rules | `(tactic| walk_at "fd") => `(tactic| repeat walk_at "fd1")
def sel (ss : List St3) (l : List Nat) : List St3 := l.filterMap fun k => ss[k]?
theorem sel_fm (ss : List St3) (l : List Nat) : l.filterMap (fun k => (ss[k]?).map stD) = (sel ss l).map stD := by
  unfold sel
  rw [List.map_filterMap]
theorem sel_mem {ss : List St3} {l : List Nat} {s : St3} (h : s ∈ sel ss l) : s ∈ ss := by
  obtain ⟨k, _, e⟩ := List.mem_filterMap.mp h
  exact List.mem_of_getElem? e
theorem Town.sel {n : Nat} {ss : List St3} (t : Town n ss) {l : List Nat} (h : l.Pairwise (· < ·)) (hb : ∀ k ∈ l, k < ss.length) : Town n (sel ss l) where
  lo := t.lo
  hi := t.hi
  few := by
    have h1 := List.length_filterMap_le (fun k => ss[k]?) l
    have h2 := nodup_len ss.length l (h.imp fun {a b} z => Nat.ne_of_lt z) hb
    have h3 := t.few
    exact Nat.le_trans h1 (Nat.le_trans h2 h3)
  ok := fun s hs => t.ok s (sel_mem hs)
theorem getSS {ss : List St3} {k : Nat} (h : k < ss.length) : (ss.map stD)[k]? = some (stD ss[k]) := by rw [List.getElem?_map, List.getElem?_eq_getElem h]; rfl
theorem part_of_W {n : Nat} {ss : List St3} {l : List Nat} (hl : l.length ≤ 1000) (hb : ∀ k ∈ l, k < ss.length) {st : Sto} {Q : D → Sto → Prop} (q : ∀ st', Kx [] st st' → Q (townD n (sel ss l)) st') : W (g_part_of [townD n ss, .tup (l.map iD)] st) Q := by
  unfold g_part_of m_part_of
  with_reducible refine v_fnD rfl ?_
  walk_at "fd"
  with_reducible refine W.of town_ix0 ?_
  walk_at "fd"
  refine ⟨_, rfl, ?_⟩
  refine lcGo_mp (S := []) (st0 := st) l iD (fun k => (ss[k]?).map stD) rfl (Nat.le_trans hl (by decide)) (Nat.le_refl _) (by simp) (fun _ _ => rfl) (fun k hk st1 kx hn => ?_) (fun st1 kx he => ?_) (Kx.app _) get_new
  · walk_at "fd"
    with_reducible refine W.of town_ix1 ?_
    walk_at "fd"
    with_reducible refine W.of (s_ixt (atI_nat (getSS (hb k hk)))) ?_
    refine ⟨Kx.refl, ?_⟩
    rw [List.getElem?_eq_getElem (hb k hk)]
    rfl
  · walk_at "fd"
    rw [sel_fm] at he
    refine W.of (s_tuple (seq_lst he)) ?_
    walk_at "fd"
    exact q st1 kx
theorem part_W {n : Nat} {ss : List St3} (t : Town n ss) {l : List Nat} (hl : l.length ≤ 1000) (h : l.Pairwise (· < ·)) (hb : ∀ k ∈ l, k < ss.length) {st : Sto} {Q : D → Sto → Prop} (q : ∀ st', Kx [] st st' → Q (townD n (sel ss l)) st') : W (g_part [townD n ss, .tup (l.map iD)] st) Q := by
  unfold g_part m_part
  with_reducible refine v_fnD rfl ?_
  walk_at "fd"
  refine check_town_W t fun st1 k1 => ?_
  walk_at "fd"
  refine check_bunch_W hl h hb fun st2 k2 => ?_
  walk_at "fd"
  refine part_of_W hl hb fun st3 k3 => ?_
  walk_at "fd"
  exact q st3 ((k1.trans k2).trans k3)
theorem odd_by_W {n : Nat} {ss : List St3} (t : Town n ss) {l : List Nat} (hl : l.length ≤ 1000) (h : l.Pairwise (· < ·)) (hb : ∀ k ∈ l, k < ss.length) {st : Sto} {Q : D → Sto → Prop} (q : ∀ st', Kx [] st st' → Q (.tup ((odds n (sel ss l)).map iD)) st') : W (g_odd_by [townD n ss, .tup (l.map iD)] st) Q := by
  unfold g_odd_by m_odd_by
  with_reducible refine v_fnD rfl ?_
  walk_at "fd"
  refine check_town_W t fun st1 k1 => ?_
  walk_at "fd"
  refine check_bunch_W hl h hb fun st2 k2 => ?_
  walk_at "fd"
  refine part_of_W hl hb fun st3 k3 => ?_
  walk_at "fd"
  refine odd_of_W (t.sel h hb) fun st4 k4 => ?_
  walk_at "fd"
  exact q st4 (((k1.trans k2).trans k3).trans k4)
def endsI (t : List St3) : List Int := t.flatMap fun s => [(s.1 : Int), (s.2.1 : Int)]
theorem ends_count {t : List St3} (h : ∀ s ∈ t, s.1 < s.2.1) (c : Nat) : (endsI t).count (c : Int) = deg t c := by
  induction t with
  | nil => rfl
  | cons s r ih =>
    have ih := ih fun z hz => h z (List.mem_cons_of_mem _ hz)
    have hs := h s List.mem_cons_self
    unfold endsI deg at ih ⊢
    rw [List.flatMap_cons, List.count_append, ih, List.countP_cons, List.count_cons, List.count_cons, List.count_nil]
    unfold at_
    by_cases e1 : s.1 = c
    · have e2 : ¬ s.2.1 = c := by omega
      have z1 : ((s.1 : Int) == c) = true := by rw [beq_iff_eq]; omega
      have z2 : ((s.2.1 : Int) == c) = false := by rw [beq_eq_false_iff_ne]; omega
      rw [z1, z2]
      simp [e1, e2]
      omega
    · have z1 : ((s.1 : Int) == c) = false := by rw [beq_eq_false_iff_ne]; omega
      rw [z1]
      by_cases e2 : s.2.1 = c
      · have z2 : ((s.2.1 : Int) == c) = true := by rw [beq_iff_eq]; omega
        rw [z2]
        simp [e1, e2]
        omega
      · have z2 : ((s.2.1 : Int) == c) = false := by rw [beq_eq_false_iff_ne]; omega
        rw [z2]
        simp [e1, e2]
theorem ends_len (t : List St3) : (endsI t).length = 2 * t.length := by
  unfold endsI
  induction t with
  | nil => rfl
  | cons s r ih => rw [List.flatMap_cons, List.length_append, ih, List.length_cons]; simp; omega
theorem law_odd_by_W {n : Nat} {ss : List St3} (t : Town n ss) {l : List Nat} (hl : l.length ≤ 1000) (hb : ∀ k ∈ l, k < ss.length) {st : Sto} {Q : D → Sto → Prop} (q : ∀ st', Kx [] st st' → Q (.tup ((odds n (sel ss l)).map iD)) st') : W (g__law_odd_by [townD n ss, .tup (l.map iD)] st) Q := by
  have hn := t.hi
  unfold g__law_odd_by m__law_odd_by
  with_reducible refine v_fnD rfl ?_
  walk_at "fd"
  refine ⟨_, rfl, ?_⟩
  refine (forGo_W (items := l.map iD) (Q := fun o st' => ∃ (x3 x4 : Option D), o = .nx [some (townD n ss), some (.tup (l.map iD)), some (.ref st.length), x3, x4] ∧ st'[st.length]? = some (.lst ((endsI (sel ss l)).map D.int)) ∧ Kx [] st st')
    (fun i μ st' => ∃ (x3 x4 : Option D), μ = [some (townD n ss), some (.tup (l.map iD)), some (.ref st.length), x3, x4] ∧ st'[st.length]? = some (.lst ((endsI (sel ss (l.take i))).map D.int)) ∧ Kx [] st st')
    ?_ ?_ 0 _ _ (Nat.zero_le _) ⟨none, none, rfl, get_new, Kx.app _⟩).mono ?_
  · rintro i x μ st2 hx ⟨x3, x4, rfl, he, kx⟩
    refine ⟨rfl, ?_⟩
    rw [List.getElem?_map] at hx
    obtain ⟨k, hk, rfl⟩ := Option.map_eq_some_iff.mp hx
    have hkl := hb k (List.mem_of_getElem? hk)
    have tk : l.take (i + 1) = l.take i ++ [k] := by rw [List.take_add_one, hk]; rfl
    have il : i < l.length := (List.getElem?_eq_some_iff.mp hk).1
    walk_at "fd"
    refine ⟨v_tyL he, ?_⟩
    walk_at "fd"
    with_reducible refine W.of town_ix1 ?_
    walk_at "fd"
    with_reducible refine W.of (s_ixt (atI_nat (getSS hkl))) ?_
    walk_at "fd"
    with_reducible refine W.of st_sl ?_
    walk_at "fd"
    with_reducible refine W.of (s_list (xs := [iD ss[k].1, iD ss[k].2.1]) rfl) ?_
    walk_at "fd"
    have he2 := (Kx.app (S := []) [O.lst [iD ss[k].1, iD ss[k].2.1]]).at he (by simp)
    have sl : (sel ss (l.take i)).length ≤ 1000 := by
      have h1 := List.length_filterMap_le (fun k => ss[k]?) (l.take i)
      rw [List.length_take] at h1
      exact Nat.le_trans h1 (by omega)
    have big : ((endsI (sel ss (l.take i))).map D.int).length + [iD ss[k].1, iD ss[k].2.1].length ≤ 3000 := by rw [List.length_map, ends_len]; simp; omega
    refine W.of (s_extend he2 get_new (Nat.le_trans big (by decide))) ?_
    refine ⟨_, _, rfl, ?_, (kx.push _).set (.inr (Nat.le_refl _))⟩
    rw [tk, get_set he2]
    have : sel ss (l.take i ++ [k]) = sel ss (l.take i) ++ [ss[k]] := by
      unfold sel
      rw [List.filterMap_append, List.filterMap_cons, List.getElem?_eq_getElem hkl]
      rfl
    rw [this]
    unfold endsI
    rw [List.flatMap_append, List.map_append]
    rfl
  · rintro μ st2 ⟨x3, x4, rfl, he, kx⟩
    rw [List.length_map, List.take_length] at he
    exact ⟨rfl, _, _, rfl, he, kx⟩
  · intro o st2 hh
    obtain ⟨x3, x4, eo, he, kx⟩ := hh
    subst eo
    walk_at "fd"
    with_reducible refine W.of town_ix0 ?_
    walk_at "fd"
    with_reducible refine W.of (s_rng1 (by omega) (by omega)) ?_
    rw [Int.toNat_natCast, rangeD_iD]
    refine lcGo_mp (S := []) (st0 := st2) (List.range n) iD (fun c => if (deg (sel ss l) c % 2 == 1) = true then some (iD c) else none) rfl (by rw [List.length_range]; exact Nat.le_trans hn (by decide)) (Nat.le_refl _) (by simp) (fun _ _ => rfl) (fun c hc st3 kx3 hl3 => ?_) (fun st3 kx3 he3 => ?_) (Kx.app _) get_new
    · walk_at "fd"
      have he3 := kx3.at he (by simp)
      refine ⟨v_tyL he3, ?_⟩
      walk_at "fd"
      with_reducible refine W.of (s_count he3) ?_
      rw [ends_count (fun s hs => (t.ok s (sel_mem hs)).1)]
      walk_at "fd"
      with_reducible refine W.of (s_mod (by decide)) ?_
      walk_at "fd"
      rw [odd_eq]
      refine v_ite (fun e => ?_) (fun e => ?_)
      · walk_at "fd"
        exact ⟨Kx.refl, if_pos e⟩
      · exact ⟨Kx.refl, if_neg (by rw [e]; decide)⟩
    · walk_at "fd"
      rw [filterMap_if] at he3
      with_reducible refine W.of (s_tuple (seq_lst he3)) ?_
      walk_at "fd"
      exact q st3 (kx.trans kx3)
end Lk10
end
section
set_option Elab.async false
set_option linter.all false
set_option maxRecDepth 100000
set_option maxHeartbeats 4000000
/-! counting ends -/
namespace Lk10
open PySem Fd L2
def b01 (b : Bool) : Nat := if b = true then 1 else 0
def ins (L : List Nat) (s : St3) : Nat := b01 (decide (s.1 ∈ L)) + b01 (decide (s.2.1 ∈ L))
theorem at_sum {s : St3} (h : s.1 ≠ s.2.1) : ∀ {L : List Nat}, L.Nodup → (L.map fun c => b01 (at_ c s)).sum = ins L s
  | [], _ => rfl
  | c :: r, nd => by
    rw [List.nodup_cons] at nd
    rw [List.map_cons, List.sum_cons, at_sum h nd.2]
    unfold ins at_
    by_cases e1 : s.1 = c
    · have e2 : ¬ s.2.1 = c := fun e => h (e1.trans e.symm)
      have z1 : ¬ s.1 ∈ r := by rw [e1]; exact nd.1
      have m1 : s.1 ∈ c :: r := by rw [e1]; exact List.mem_cons_self
      have m2 : decide (s.2.1 ∈ c :: r) = decide (s.2.1 ∈ r) := by
        by_cases z : s.2.1 ∈ r
        · rw [decide_eq_true z, decide_eq_true (List.mem_cons_of_mem _ z)]
        · rw [decide_eq_false z, decide_eq_false fun q => (List.mem_cons.mp q).elim e2 z]
      rw [m2, decide_eq_true e1, decide_eq_false e2, decide_eq_false z1, decide_eq_true m1]
      show 1 + (0 + _) = 1 + _
      omega
    · have m1 : decide (s.1 ∈ c :: r) = decide (s.1 ∈ r) := by
        by_cases z : s.1 ∈ r
        · rw [decide_eq_true z, decide_eq_true (List.mem_cons_of_mem _ z)]
        · rw [decide_eq_false z, decide_eq_false fun q => (List.mem_cons.mp q).elim e1 z]
      by_cases e2 : s.2.1 = c
      · have z2 : ¬ s.2.1 ∈ r := by rw [e2]; exact nd.1
        have m2 : s.2.1 ∈ c :: r := by rw [e2]; exact List.mem_cons_self
        rw [m1, decide_eq_true e2, decide_eq_false e1, decide_eq_false z2, decide_eq_true m2]
        show 1 + (_ + 0) = _ + 1
        omega
      · have m2 : decide (s.2.1 ∈ c :: r) = decide (s.2.1 ∈ r) := by
          by_cases z : s.2.1 ∈ r
          · rw [decide_eq_true z, decide_eq_true (List.mem_cons_of_mem _ z)]
          · rw [decide_eq_false z, decide_eq_false fun q => (List.mem_cons.mp q).elim e2 z]
        rw [m1, m2, decide_eq_false e1, decide_eq_false e2]
        show 0 + _ = _
        omega
theorem deg_cons (s : St3) (r : List St3) (c : Nat) : deg (s :: r) c = deg r c + b01 (at_ c s) := by unfold deg b01; rw [List.countP_cons]
theorem sum_add {f g : Nat → Nat} : ∀ L : List Nat, (L.map fun c => f c + g c).sum = (L.map f).sum + (L.map g).sum
  | [] => rfl
  | c :: r => by
    rw [List.map_cons, List.map_cons, List.map_cons, List.sum_cons, List.sum_cons, List.sum_cons, sum_add r]
    omega
theorem deg_sum {L : List Nat} (nd : L.Nodup) : ∀ {ss : List St3}, (∀ s ∈ ss, s.1 < s.2.1) → (L.map (deg ss)).sum = (ss.map (ins L)).sum
  | [], _ => by
    have : L.map (deg []) = L.map fun _ => 0 := rfl
    rw [this]
    induction L with
    | nil => rfl
    | cons c r ih => rw [List.map_cons, List.sum_cons, ih (List.nodup_cons.mp nd).2 rfl]; rfl
  | s :: r, h => by
    have hs := h s List.mem_cons_self
    have ih := deg_sum nd (ss := r) fun z hz => h z (List.mem_cons_of_mem _ hz)
    have : L.map (deg (s :: r)) = L.map fun c => deg r c + b01 (at_ c s) := List.map_congr_left fun c _ => deg_cons s r c
    rw [this, sum_add, ih, at_sum (by omega) nd, List.map_cons, List.sum_cons]
    omega
theorem parity {f : Nat → Nat} : ∀ L : List Nat, (L.map f).sum % 2 = (L.countP fun c => f c % 2 == 1) % 2
  | [] => rfl
  | c :: r => by
    have ih := parity (f := f) r
    rw [List.map_cons, List.sum_cons, List.countP_cons]
    by_cases e : f c % 2 = 1
    · have : (f c % 2 == 1) = true := by rw [beq_iff_eq]; exact e
      rw [this, if_pos rfl]
      omega
    · have : (f c % 2 == 1) = false := by rw [beq_eq_false_iff_ne]; exact e
      rw [this, if_neg (by decide)]
      omega
theorem ins_even {ss : List St3} {L : List Nat} (h : ∀ s ∈ ss, (s.1 ∈ L ↔ s.2.1 ∈ L)) : (ss.map (ins L)).sum % 2 = 0 := by
  induction ss with
  | nil => rfl
  | cons s r ih =>
    rw [List.map_cons, List.sum_cons]
    have ih := ih fun z hz => h z (List.mem_cons_of_mem _ hz)
    have hs := h s List.mem_cons_self
    have : ins L s % 2 = 0 := by
      unfold ins
      by_cases z : s.1 ∈ L
      · rw [decide_eq_true z, decide_eq_true (hs.mp z)]; rfl
      · rw [decide_eq_false z, decide_eq_false fun q => z (hs.mpr q)]; rfl
    omega
theorem ins_cross {ss : List St3} {L : List Nat} : (ss.map (ins L)).sum % 2 = (ss.countP (crossB L)) % 2 := by
  induction ss with
  | nil => rfl
  | cons s r ih =>
    rw [List.map_cons, List.sum_cons, List.countP_cons]
    have : ins L s % 2 = if crossB L s = true then 1 else 0 := by
      unfold ins crossB b01
      by_cases z1 : s.1 ∈ L <;> by_cases z2 : s.2.1 ∈ L <;> simp [z1, z2]
    by_cases e : crossB L s = true
    · rw [if_pos e] at this ⊢; omega
    · rw [if_neg e] at this ⊢; omega
theorem ins_all {n : Nat} {ss : List St3} (t : Town n ss) : (ss.map (ins (List.range n))).sum = 2 * ss.length := by
  have : ∀ s ∈ ss, ins (List.range n) s = 2 := fun s hs => by
    obtain ⟨h1, h2, _⟩ := t.ok s hs
    unfold ins
    rw [decide_eq_true (List.mem_range.mpr (by omega)), decide_eq_true (List.mem_range.mpr h2)]
    rfl
  clear t
  induction ss with
  | nil => rfl
  | cons s r ih =>
    rw [List.map_cons, List.sum_cons, this s List.mem_cons_self, ih fun z hz => this z (List.mem_cons_of_mem _ hz), List.length_cons]
    omega
def oddL (ss : List St3) (L : List Nat) : List Nat := L.filter fun c => deg ss c % 2 == 1
theorem piece_even {n a : Nat} {ss : List St3} (t : Town n ss) {L : List Nat} (c : IsComp ss a L) : (oddL ss L).length % 2 = 0 := by
  unfold oddL
  rw [← List.countP_eq_length_filter, ← parity, deg_sum (c.1.imp fun {a b} z => Nat.ne_of_lt z) fun s hs => (t.ok s hs).1]
  refine ins_even fun s hs => ?_
  rw [c.2, c.2]
  exact ⟨fun k => k.step ⟨s, hs, .inl ⟨rfl, rfl⟩⟩, fun k => k.step ⟨s, hs, .inr ⟨rfl, rfl⟩⟩⟩
theorem lot_even {n : Nat} {ss : List St3} (t : Town n ss) {L : List Nat} (nd : L.Nodup) : (places ss (crossB L)).length % 2 = (oddL ss L).length % 2 := by
  unfold oddL
  rw [places_count, ← List.countP_eq_length_filter, ← parity, deg_sum nd fun s hs => (t.ok s hs).1, ins_cross]
theorem many_sum {n : Nat} {ss : List St3} (t : Town n ss) : (((degs n ss).map fun k : Nat => (k : Int)).sum : Int) = 2 * (ss.length : Int) := by
  have h : (degs n ss).sum = 2 * ss.length := by
    unfold degs
    rw [deg_sum List.nodup_range fun s hs => (t.ok s hs).1, ins_all t]
  have c : ∀ l : List Nat, ((l.map fun k : Nat => (k : Int)).sum : Int) = (l.sum : Nat) := fun l => by
    induction l with
    | nil => rfl
    | cons x r ih => rw [List.map_cons, List.sum_cons, List.sum_cons, ih]; omega
  rw [c, h]
  omega
end Lk10
end
section
set_option Elab.async false
set_option linter.all false
set_option maxRecDepth 100000
set_option maxHeartbeats 4000000
namespace Lk10
open PySem Fd L2
local macro_rules | `(tactic| walk_at "fd1") => `(tactic| with_reducible first
  | refine v_mSeq ?_ | refine v_m2 ?_ | refine v_mVar rfl ?_ | refine v_mC ?_ | refine v_mN ?_ | refine v_mCons ?_ | refine v_mNil ?_ | refine v_m1 ?_ | refine v_mB ?_ | refine v_mIfS ?_ | refine v_mAsg ?_ | refine v_mRet ?_ | refine v_gN ?_ | refine v_gS ?_
  | refine v_mNext ?_ | refine v_mAndV ?_ | refine v_mOrV ?_ | refine v_mNotV ?_ | refine v_mAnd ?_ | refine v_mOr ?_ | refine v_mNot ?_ | refine v_mIf ?_ | refine v_mChn ?_ | refine v_lkLast ?_ | refine v_lkCons ?_ | refine v_mSl ?_ | refine v_mPartN ?_ | refine v_mPartS ?_ | refine v_mSlS ?_ | refine v_mM ?_
  | refine v_mDnew ?_ | refine v_mPnil ?_ | refine v_mPair ?_ | refine v_mDrop ?_ | refine v_mRetN ?_ | refine v_mPar2 ?_ | refine v_mPar3 ?_ | refine v_mFor ?_ | refine v_mLc ?_ | refine v_mIt ?_ | refine v_mEnum ?_ | refine v_mRng ?_ | refine v_gsNil ?_ | refine v_gsCons ?_ | refine v_yes ?_
  | refine v_endN ?_ | refine v_endR ?_ | refine v_nx ?_ | refine v_rt ?_ | refine v_bl ?_ | refine v_kin ?_ | refine v_itt ?_ | refine v_iff ?_
  | refine W.of s_add ?_ | refine W.of s_sub ?_ | refine W.of (s_i2 _) ?_ | refine W.of s_int ?_ | refine W.of s_intb ?_ | refine W.of s_abs ?_ | refine W.of s_neg ?_ | refine W.of s_eqi ?_ | refine W.of s_nei ?_ | refine W.of s_eqb ?_ | refine W.of s_neb ?_ | refine W.of s_lent ?_ | refine W.of s_lenr ?_ | refine W.of s_max2 ?_ | refine W.of s_min2 ?_ | refine W.of s_nT0 ?_ | refine W.of s_nL0 ?_ | refine W.of s_nT1 ?_ | refine W.of s_nL1 ?_ | refine W.of s_nT2 ?_ | refine W.of s_nL2 ?_ | refine W.of s_nT3 ?_ | refine W.of s_nL3 ?_ | refine W.of s_nT4 ?_ | refine W.of s_nL4 ?_ | refine W.of s_nT5 ?_ | refine W.of s_nL5 ?_)
local macro_rules | `(tactic| walk_at "fd") => `(tactic| repeat walk_at "fd1")
theorem Pot.push {p c : Nat} {st : Sto} (h : Pot p c st) (os : List O) : Pot p c (st ++ os) := by
  obtain ⟨x, y, z, h, r⟩ := h
  exact ⟨x, y, z, by rw [List.getElem?_append_left (lt_of h)]; exact h, r⟩
theorem Pot.set {p c n : Nat} {st : Sto} {o : O} (h : Pot p c st) (hn : n ≠ p) : Pot p c (st.set n o) := by
  obtain ⟨x, y, z, h, r⟩ := h
  exact ⟨x, y, z, by rw [List.getElem?_set_ne hn]; exact h, r⟩
theorem Pot.lt {p c : Nat} {st : Sto} (h : Pot p c st) : p < st.length := by obtain ⟨x, y, z, h, _⟩ := h; exact lt_of h
theorem Pot.keep {p c : Nat} {st st' : Sto} (h : Pot p c st) (k : Kx [] st st') : Pot p c st' := by
  obtain ⟨x, y, z, h, r⟩ := h
  exact ⟨x, y, z, k.at h (by simp), r⟩
theorem v_pot {p : Nat} {S : List Nat} {st st' : Sto} (k : Kx S st st') {n : Nat} (hn : st.length ≤ n) (hp : p < st.length) : n ∉ [p] := by simp; omega
theorem oddv_W {p c : Nat} {st : Sto} (hp : Pot p c st) (hc : c + 4 ≤ 1000000) {Q : D → Sto → Prop} (q : ∀ d st', Dok st' d → Pot p (c + 4) st' → Kx [p] st st' → Q d st') : W (g__law_odd [.ref p] st) Q := by
  have hpl := hp.lt
  unfold g__law_odd m__law_odd
  with_reducible refine v_fnD rfl ?_
  walk_at "fd"
  with_reducible refine W.of (s_pow (by decide)) ?_
  walk_at "fd"
  refine v_mDisp ?_
  walk_at "fd"
  refine ⟨[(.inr "a", .int 1)], rfl, get_new, by simp, ?_⟩
  walk_at "fd"
  have k0 : Kx [p] st (List.set (st ++ [O.lst []] ++ [O.lst [D.int 0]] ++ [O.dct []] ++ [O.dct []]) (List.length (st ++ [O.lst []] ++ [O.lst [D.int 0]] ++ [O.dct []])) (O.dct (mergeD [] [(Sum.inr (Str.ofString "a"), D.int 1)]))) :=
    ((((Kx.app _).push _).push _).push _).set (.inr (by simp))
  have p0 : Pot p c (List.set (st ++ [O.lst []] ++ [O.lst [D.int 0]] ++ [O.dct []] ++ [O.dct []]) (List.length (st ++ [O.lst []] ++ [O.lst [D.int 0]] ++ [O.dct []])) (O.dct (mergeD [] [(Sum.inr (Str.ofString "a"), D.int 1)]))) :=
    ((((hp.push _).push _).push _).push _).set (by simp; omega)
  have lens : (List.set (st ++ [O.lst []] ++ [O.lst [D.int 0]] ++ [O.dct []] ++ [O.dct []]) (List.length (st ++ [O.lst []] ++ [O.lst [D.int 0]] ++ [O.dct []])) (O.dct (mergeD [] [(Sum.inr (Str.ofString "a"), D.int 1)]))).length = st.length + 4 := by simp
  have l1 : List.length (st ++ [O.lst []]) = st.length + 1 := by simp
  have l2 : List.length (st ++ [O.lst []] ++ [O.lst [D.int 0]]) = st.length + 2 := by simp
  have l3 : List.length (st ++ [O.lst []] ++ [O.lst [D.int 0]] ++ [O.dct []]) = st.length + 3 := by simp
  generalize (List.set (st ++ [O.lst []] ++ [O.lst [D.int 0]] ++ [O.dct []] ++ [O.dct []]) (List.length (st ++ [O.lst []] ++ [O.lst [D.int 0]] ++ [O.dct []])) (O.dct (mergeD [] [(Sum.inr (Str.ofString "a"), D.int 1)]))) = st5 at k0 p0 lens ⊢
  rw [l1, l2, l3]
  generalize (10 : Int) ^ Int.toNat 11 = big
  have dk : ∀ x ∈ [D.non, D.bl true, D.bl false, D.int 0, D.int 1, D.int (-1), D.int 7, D.int big, D.str (Str.ofString ""), D.str (Str.ofString "a"), D.str (Str.ofString "places"), D.tup [], D.tup [D.int 0],
      D.tup [D.non], D.ref (List.length st), D.ref (st.length + 1), D.ref (st.length + 2), D.ref (st.length + 3), D.tup [D.tup [D.int 0, D.int 0]]], Dok st5 x := by
    intro x hx
    simp only [List.mem_cons, List.not_mem_nil, or_false] at hx
    have one : ∀ d : D, Dok st5 d → Dok st5 (.tup [d]) := fun d h => .tup fun y hy => by rw [List.mem_singleton.mp hy]; exact h
    rcases hx with rfl | rfl | rfl | rfl | rfl | rfl | rfl | rfl | rfl | rfl | rfl | rfl | rfl | rfl | rfl | rfl | rfl | rfl | rfl
    · exact .non
    · exact .bl _
    · exact .bl _
    · exact .int _
    · exact .int _
    · exact .int _
    · exact .int _
    · exact .int _
    · exact .str _
    · exact .str _
    · exact .str _
    · exact .tup fun y hy => nomatch hy
    · exact one _ (.int _)
    · exact one _ .non
    · exact .ref (by omega)
    · exact .ref (by omega)
    · exact .ref (by omega)
    · exact .ref (by omega)
    · exact one _ (.tup fun y hy => by
        simp only [List.mem_cons, List.not_mem_nil, or_false] at hy
        rcases hy with rfl | rfl <;> exact .int _)
  generalize eX : [D.non, D.bl true, D.bl false, D.int 0, D.int 1, D.int (-1), D.int 7, D.int big, D.str (Str.ofString ""), D.str (Str.ofString "a"), D.str (Str.ofString "places"), D.tup [], D.tup [D.int 0],
      D.tup [D.non], D.ref (List.length st), D.ref (st.length + 1), D.ref (st.length + 2), D.ref (st.length + 3), D.tup [D.tup [D.int 0, D.int 0]]] = xs at dk ⊢
  have xl : xs.length = 19 := by rw [← eX]; rfl
  with_reducible refine W.of (s_newL (by rw [xl]; decide)) ?_
  walk_at "fd"
  have pl5 := p0.lt
  refine of_W (p0.push _) (by omega) (.inr (.inr ⟨_, rfl, v_pot k0 k0.1 hpl, get_new⟩)) (by rw [← List.length_pos_iff, xl]; omega) (by omega) fun k v st6 hv p6 k6 => ?_
  have d6 : Dok st6 v := (dk v (List.mem_of_getElem? hv)).keep (by have := k6.1; simp at this; omega)
  have kk6 : Kx [p] st st6 := (k0.push _).trans k6
  walk_at "fd"
  refine take_W p6 (by omega) (by decide) (by decide) fun k2 st7 h0 h1 p7 k7 => ?_
  walk_at "fd"
  have kk7 : Kx [p] st st7 := kk6.trans k7
  have d7 : Dok st7 v := d6.keep k7.1
  obtain ⟨w, rfl⟩ : ∃ w : Nat, k2 = (w : Int) := ⟨k2.toNat, by omega⟩
  with_reducible refine W.of (s_rng1 (by omega) (by omega)) ?_
  rw [Int.toNat_natCast]
  refine (forGo_W (items := rangeD 0 w) (Q := fun o st' => ∃ (x1 x3 : Option D) (v : D), o = .nx [some (.ref p), x1, some v, x3] ∧ Dok st' v ∧ Pot p (c + 4) st' ∧ Kx [p] st st')
    (fun i μ st' => i ≤ w ∧ ∃ (x1 x3 : Option D) (v : D), μ = [some (.ref p), x1, some v, x3] ∧ Dok st' v ∧ Pot p (c + 2 + i) st' ∧ Kx [p] st st') ?_ ?_ 0 _ st7 (Nat.zero_le _) ⟨Nat.zero_le _, _, _, _, rfl, d7, p7, kk7⟩).mono ?_
  · rintro i x μ st8 hx ⟨hi, x1, x3, v, rfl, d8, p8, k8⟩
    have hiw : i < w := by have := (List.getElem?_eq_some_iff.mp hx).1; rw [rangeD_len] at this; exact this
    refine ⟨rfl, ?_⟩
    walk_at "fd"
    refine v_mDisp ?_
    walk_at "fd"
    refine ⟨[(.inr "a", v)], rfl, get_new, by simp, ?_⟩
    walk_at "fd"
    have lp := p8.lt
    have k9 : Kx [p] st8 (List.set (st8 ++ [O.lst [v]] ++ [O.dct []]) (List.length (st8 ++ [O.lst [v]])) (O.dct (mergeD [] [(Sum.inr (Str.ofString "a"), v)]))) := ((Kx.app _).push _).set (.inr (by simp))
    have p9 : Pot p (c + 2 + i) (List.set (st8 ++ [O.lst [v]] ++ [O.dct []]) (List.length (st8 ++ [O.lst [v]])) (O.dct (mergeD [] [(Sum.inr (Str.ofString "a"), v)]))) := ((p8.push _).push _).set (by simp; omega)
    have l9 : (List.set (st8 ++ [O.lst [v]] ++ [O.dct []]) (List.length (st8 ++ [O.lst [v]])) (O.dct (mergeD [] [(Sum.inr (Str.ofString "a"), v)]))).length = st8.length + 2 := by simp
    have l8 : List.length (st8 ++ [O.lst [v]]) = st8.length + 1 := by simp
    generalize (List.set (st8 ++ [O.lst [v]] ++ [O.dct []]) (List.length (st8 ++ [O.lst [v]])) (O.dct (mergeD [] [(Sum.inr (Str.ofString "a"), v)]))) = st9 at k9 p9 l9 ⊢
    rw [l8]
    have lp9 := p9.lt
    refine of_W (xs := [.tup [v], .ref st8.length, .ref (st8.length + 1), .tup [v, .int 0], .tup [.int 0, v]]) (p9.push _) (by omega) (.inr (.inr ⟨_, rfl, v_pot k9 k9.1 lp, get_new⟩)) (by simp) (by simp) fun k u st10 hu p10 k10 => ?_
    have d10 : Dok st10 v := d8.keep (by have := k10.1; simp at this; omega)
    have du : Dok st10 u := by
      have hl := k10.1
      rw [List.length_append, List.length_singleton] at hl
      have hm := List.mem_of_getElem? hu
      simp only [List.mem_cons, List.not_mem_nil, or_false] at hm
      rcases hm with rfl | rfl | rfl | rfl | rfl
      · exact .tup fun y hy => by rw [List.mem_singleton.mp hy]; exact d10
      · exact .ref (by omega)
      · exact .ref (by omega)
      · exact .tup fun y hy => by
          simp only [List.mem_cons, List.not_mem_nil, or_false] at hy
          rcases hy with rfl | rfl
          · exact d10
          · exact .int _
      · exact .tup fun y hy => by
          simp only [List.mem_cons, List.not_mem_nil, or_false] at hy
          rcases hy with rfl | rfl
          · exact .int _
          · exact d10
    walk_at "fd"
    exact ⟨hiw, _, _, u, rfl, du, p10.mono (by omega), (k8.trans (k9.push _)).trans k10⟩
  · rintro μ st8 ⟨hi, x1, x3, v, rfl, d8, p8, k8⟩
    rw [rangeD_len] at p8
    exact ⟨rfl, _, _, v, rfl, d8, p8.mono (by omega), k8⟩
  · intro o st8 hh
    obtain ⟨x1, x3, v, eo, d8, p8, k8⟩ := hh
    subst eo
    walk_at "fd"
    exact q v st8 d8 p8 k8
end Lk10
end
section
set_option Elab.async false
set_option linter.all false
set_option maxRecDepth 100000
set_option maxHeartbeats 4000000
namespace Lk10
open PySem Fd L2
local macro_rules | `(tactic| walk_at "fd1") => `(tactic| with_reducible first
  | refine v_mSeq ?_ | refine v_m2 ?_ | refine v_mVar rfl ?_ | refine v_mC ?_ | refine v_mN ?_ | refine v_mCons ?_ | refine v_mNil ?_ | refine v_m1 ?_ | refine v_mB ?_ | refine v_mIfS ?_ | refine v_mAsg ?_ | refine v_mRet ?_ | refine v_gN ?_ | refine v_gS ?_
  | refine v_mNext ?_ | refine v_mAndV ?_ | refine v_mOrV ?_ | refine v_mNotV ?_ | refine v_mAnd ?_ | refine v_mOr ?_ | refine v_mNot ?_ | refine v_mIf ?_ | refine v_mChn ?_ | refine v_lkLast ?_ | refine v_lkCons ?_ | refine v_mSl ?_ | refine v_mPartN ?_ | refine v_mPartS ?_ | refine v_mSlS ?_ | refine v_mM ?_
  | refine v_mDnew ?_ | refine v_mPnil ?_ | refine v_mPair ?_ | refine v_mDrop ?_ | refine v_mRetN ?_ | refine v_mPar2 ?_ | refine v_mPar3 ?_ | refine v_mFor ?_ | refine v_mLc ?_ | refine v_mIt ?_ | refine v_mEnum ?_ | refine v_mRng ?_ | refine v_gsNil ?_ | refine v_gsCons ?_ | refine v_yes ?_
  | refine v_endN ?_ | refine v_endR ?_ | refine v_nx ?_ | refine v_rt ?_ | refine v_bl ?_ | refine v_kin ?_ | refine v_itt ?_ | refine v_iff ?_
  | refine W.of s_add ?_ | refine W.of s_sub ?_ | refine W.of (s_i2 _) ?_ | refine W.of s_int ?_ | refine W.of s_intb ?_ | refine W.of s_abs ?_ | refine W.of s_neg ?_ | refine W.of s_eqi ?_ | refine W.of s_nei ?_ | refine W.of s_eqb ?_ | refine W.of s_neb ?_ | refine W.of s_lent ?_ | refine W.of s_lenr ?_ | refine W.of s_max2 ?_ | refine W.of s_min2 ?_ | refine W.of s_nT0 ?_ | refine W.of s_nL0 ?_ | refine W.of s_nT1 ?_ | refine W.of s_nL1 ?_ | refine W.of s_nT2 ?_ | refine W.of s_nL2 ?_ | refine W.of s_nT3 ?_ | refine W.of s_nL3 ?_ | refine W.of s_nT4 ?_ | refine W.of s_nL4 ?_ | refine W.of s_nT5 ?_ | refine W.of s_nL5 ?_)
local macro_rules | `(tactic| walk_at "fd") => `(tactic| repeat walk_at "fd1")
inductive PV : Nat → D → Prop
  | int {d : Nat} (m : Nat) (h : m < 1000000000) : PV d (iD m)
  | tup {d : Nat} {xs : List D} (l : xs.length ≤ 40) (h : ∀ x ∈ xs, PV d x) : PV (d + 1) (.tup xs)
theorem PV.dok {d : Nat} {v : D} {st : Sto} (h : PV d v) : Dok st v := by
  induction h with
  | int m h => exact .int _
  | tup l h ih => exact .tup ih
def wt : Nat → Nat
  | 0 => 18
  | d + 1 => 40 * (wt d + 2) + 3
theorem wt_ge : ∀ d, 18 ≤ wt d
  | 0 => Nat.le_refl _
  | d + 1 => by have := wt_ge d; unfold wt; omega
theorem PV.rq {d : Nat} {v : D} (h : PV d v) : Rq d (wt d) v := by
  induction h with
  | int m h => exact ⟨_, (rp_nat (Nat.lt_trans h (by decide))).mono (Nat.zero_le _) (wt_ge _)⟩
  | tup l h ih => exact rq_tup ih l
theorem s_neT0 {k w : Nat} {xs : List D} {st : Sto} (h : Rq k w (.tup xs)) (hk : k ≤ 16) : opNe (.tup xs) (.tup []) st = .ok (.bl (!xs.isEmpty)) st := by
  obtain ⟨p, h⟩ := h
  have hp := h.py st deepN hk
  have sh : SeqAt.shaped p = true := by
    show (p.canLay0 && decide (p.depth ≤ 64)) = true
    rw [h.lay, Bool.true_and, decide_eq_true_eq]
    exact Nat.le_trans h.dep (by omega)
  have h0 : toPy deepN st (.tup []) = some (.tuple []) := rfl
  have e : PyData.eqv p (.tuple []) = xs.isEmpty := by
    have : toPy deepN st (.tup xs) = (optAll (xs.map (toPy 15 st))).map PyData.tuple := rfl
    rw [this] at hp
    cases xs with
    | nil => cases hp; rfl
    | cons x r =>
      rw [List.map_cons] at hp
      cases hx : toPy 15 st x with
      | none => rw [hx] at hp; cases hp
      | some a =>
        rw [hx] at hp
        unfold optAll at hp
        cases hr : optAll (r.map (toPy 15 st)) with
        | none => rw [hr] at hp; cases hp
        | some ps => rw [hr] at hp; cases hp; rfl
  show opEqW not (.tup xs) (.tup []) st = _
  unfold opEqW
  simp only [hp, h0]
  rw [if_pos ⟨sh, by decide⟩, e]
theorem cutD_mem {xs : List D} {lo hi : Option Int} {x : D} (h : x ∈ cutD xs lo hi) : x ∈ xs := by
  unfold cutD at h
  exact List.mem_of_mem_drop (List.mem_of_mem_take h)
theorem cutD_le {xs : List D} {lo hi : Option Int} : (cutD xs lo hi).length ≤ xs.length := by
  unfold cutD
  rw [List.length_take, List.length_drop]
  omega
theorem s_slT {xs : List D} {lo hi : Option Int} {st : Sto} : opSl (.tup xs) lo hi st = .ok (.tup (cutD xs lo hi)) st := rfl
theorem pick_mem {xs : List D} {js : List Nat} {x : D} (h : x ∈ pickAt xs js) : x ∈ xs := by
  obtain ⟨j, _, e⟩ := List.mem_filterMap.mp h
  exact List.mem_of_getElem? e
theorem rev_len {xs : List D} : (stepT xs none none (-1)).length ≤ xs.length := by
  unfold stepT pickAt
  refine Nat.le_trans (List.length_filterMap_le _ _) ?_
  unfold stepPl
  rw [List.length_map, List.length_range]
  have h1 : ((-1 : Int) < 0) := by decide
  have h2 : ¬ ((-1 : Int) > 0) := by decide
  unfold Builtin.Slice.sliceAdjust Builtin.Slice.slicePlaces
  simp only [h1, h2, if_true, if_false, Int.neg_neg, Int.ediv_one]
  split <;> omega
theorem s_rev {xs : List D} {st : Sto} (l : xs.length ≤ 1000) : opSlS (.tup xs) none none (.int (-1)) st = .ok (.tup (stepT xs none none (-1))) st := by
  unfold opSlS
  simp only
  rw [if_neg (by decide), if_pos (Nat.le_trans rev_len (Nat.le_trans l (by decide)))]
theorem s_str {i : Int} {st : Sto} (h : i.natAbs.log2 < 1920) : ∃ s : Str, opStr [.int i] st = .ok (.str s) st := by
  unfold opStr
  simp only
  rw [if_pos h]
  exact ⟨_, rfl⟩
theorem s_addT {xs ys : List D} {st : Sto} (h : xs.length + ys.length ≤ 10000) : opAdd (.tup xs) (.tup ys) st = .ok (.tup (xs ++ ys)) st := s_addt (Nat.le_trans h (by decide))
theorem tail_int {p c m : Nat} (hm : m < 1000000000) {fuel : Nat} {st : Sto} (hp : Pot p c st) (hc : c + 1 ≤ 1000000) {Q : D → Sto → Prop} (q : ∀ r st', Dok st' r → Pot p (c + 1) st' → Kx [p] st st' → Q r st') : W (g__law_bent (fuel + 1) [.ref p, iD m] st) Q := by
  have hpl := hp.lt
  unfold g__law_bent m__law_bent
  with_reducible refine v_fnD rfl ?_
  walk_at "fd"
  refine w_ist (.int _) ?_
  walk_at "fd"
  refine v_ite_f rfl ?_
  walk_at "fd"
  refine w_ist (.int _) ?_
  walk_at "fd"
  refine v_ite_f rfl ?_
  walk_at "fd"
  refine w_isb (.int _) ?_
  walk_at "fd"
  refine v_ite_f rfl ?_
  walk_at "fd"
  refine w_isi (.int _) ?_
  walk_at "fd"
  refine v_ite_f rfl ?_
  walk_at "fd"
  obtain ⟨s, hs⟩ := s_str (i := (m : Int)) (st := st) (by
    rw [Int.natAbs_natCast]
    by_cases e : m = 0
    · subst e; decide
    · have : m.log2 < 64 := (Nat.log2_lt e).mpr (Nat.lt_trans hm (by decide))
      omega)
  refine W.of hs ?_
  walk_at "fd"
  refine W.of (s_newL (show 10 ≤ sizeLine by decide)) ?_
  walk_at "fd"
  refine of_W (hp.push _) (by omega) (.inr (.inr ⟨_, rfl, v_pot (S := []) Kx.refl (Nat.le_refl _) hpl, get_new⟩)) (by simp) (by simp) fun k x st1 hx p1 k1 => ?_
  have hm := List.mem_of_getElem? hx
  walk_at "fd"
  refine q x st1 ?_ p1 ((Kx.app _).trans k1)
  simp only [List.mem_cons, List.not_mem_nil, or_false] at hm
  rcases hm with rfl | rfl | rfl | rfl | rfl | rfl | rfl | rfl | rfl | rfl
  · exact .int _
  · exact .int _
  · exact .int _
  · exact .int _
  · exact .str _
  · exact .tup fun y hy => by rw [List.mem_singleton.mp hy]; exact .int _
  · exact .bl _
  · exact .non
  · exact .int _
  · exact .int _
theorem dokT {st : Sto} {xs : List D} (h : ∀ x ∈ xs, Dok st x) : Dok st (.tup xs) := .tup h
theorem bent_W {p : Nat} : ∀ (d fuel c : Nat) (v : D) (st : Sto), d < fuel → d ≤ 10 → PV d v → Pot p c st → c + 10 * (d + 1) ≤ 1000000 → ∀ {Q : D → Sto → Prop}, (∀ r st', Dok st' r → Pot p (c + 10 * (d + 1)) st' → Kx [p] st st' → Q r st') → W (g__law_bent fuel [.ref p, v] st) Q := by
  intro d
  induction d with
  | zero =>
    intro fuel c v st hf hd pv hp hc Q q
    obtain ⟨fuel, rfl⟩ : ∃ n, fuel = n + 1 := ⟨fuel - 1, by omega⟩
    cases pv with
    | int m hm => exact tail_int hm hp (by omega) fun r st' a b k => q r st' a (b.mono (by omega)) k
  | succ d ih =>
    intro fuel c v st hf hd pv hp hc Q q
    obtain ⟨fuel, rfl⟩ : ∃ n, fuel = n + 1 := ⟨fuel - 1, by omega⟩
    have rq := pv.rq
    cases pv with
    | int m hm => exact tail_int hm hp (by omega) fun r st' a b k => q r st' a (b.mono (by omega)) k
    | @tup _ xs hl hx =>
      have hpl := hp.lt
      have dx : ∀ {st' : Sto}, ∀ x ∈ xs, Dok st' x := fun x hh => (hx x hh).dok
      unfold g__law_bent m__law_bent
      with_reducible refine v_fnD rfl ?_
      have tail : ∀ (st1 : Sto) (c1 : Nat), Pot p c1 st1 → c1 ≤ c + 1 → Kx [p] st st1 → W ((mSeq (mIfS (mB (m1 (opIsi "tuple") (mVar 1)))
            (mSeq (mAsg (mN g__law_take (mCons (mVar 0) (mCons (m2 opAdd (mN opLen (mCons (mVar 1) mNil)) (mC (.int 1))) mNil))) (gN 2))
            (mSeq (mAsg (mN newL (mCons (mN opList (mCons (mVar 1) mNil)) (mCons (m2 opAdd (mSl (mVar 1) none (some (mVar 2))) (mSl (mVar 1) (some (m2 opAdd (mVar 2) (mC (.int 1)))) none)) (mCons (m2 opAdd (mVar 1) (mSl (mVar 1) (some (mVar 2)) (some (m2 opAdd (mVar 2) (mC (.int 1)))))) (mCons (mSlS (mVar 1) none none (m1 opNeg (mC (.int 1)))) (mCons (m2 opAdd (m2 opAdd (mSl (mVar 1) none (some (mVar 2))) (mN newT (mCons (mN g__law_odd (mCons (mVar 0) mNil)) mNil))) (mSl (mVar 1) (some (mVar 2)) none)) mNil)))))) (gN 3))
            (mRet (mN g__law_of (mCons (mVar 0) (mCons (mVar 3) mNil))))))
            mNext)
           (mSeq (mIfS (mOr (mB (m1 (opIsi "bool") (mVar 1))) (mNot (mB (m1 (opIsi "int") (mVar 1)))))
            (mRet (mN g__law_odd (mCons (mVar 0) mNil)))
            mNext)
           (mRet (mN g__law_of (mCons (mVar 0) (mCons (mN newL (mCons (m2 opAdd (mVar 1) (mC (.int 1))) (mCons (m2 opSub (mVar 1) (mC (.int 1))) (mCons (m2 opAdd (mVar 1) (mC (.int 2))) (mCons (m1 opNeg (mVar 1)) (mCons (mN opStr (mCons (mVar 1) mNil)) (mCons (mN newT (mCons (mVar 1) mNil)) (mCons (m2 opEq (mVar 1) (mC (.int 1))) (mCons (mC .non) (mCons (mC (.int 29)) (mCons (mC (.int 30)) mNil))))))))))) mNil)))))) (startD 4 [.ref p, .tup xs]) st1) fun o st1 => W (endD o st1) Q := by
        intro st1 c1 p1 hc1 k1
        have hpl1 := p1.lt
        walk_at "fd"
        refine w_ist (dokT dx) ?_
        walk_at "fd"
        refine v_ite_t rfl ?_
        walk_at "fd"
        refine take_W p1 (by omega) (by omega) (by omega) fun at_ st2 h0 h1 p2 k2 => ?_
        walk_at "fd"
        with_reducible refine W.of (s_list (xs := xs) rfl) ?_
        walk_at "fd"
        with_reducible refine W.of s_slT ?_
        walk_at "fd"
        with_reducible refine W.of s_slT ?_
        with_reducible refine W.of (s_addT (by have := @cutD_le xs none (some at_); have := @cutD_le xs (some (at_ + 1)) none; omega)) ?_
        walk_at "fd"
        with_reducible refine W.of s_slT ?_
        with_reducible refine W.of (s_addT (by have := @cutD_le xs (some at_) (some (at_ + 1)); omega)) ?_
        walk_at "fd"
        with_reducible refine W.of (s_rev (by omega)) ?_
        walk_at "fd"
        with_reducible refine W.of s_slT ?_
        walk_at "fd"
        have hpl2 := p2.lt
        refine oddv_W (p2.push _) (by omega) fun o st3 do_ p3 k3 => ?_
        walk_at "fd"
        with_reducible refine W.of (s_addT (by have := @cutD_le xs none (some at_); simp; omega)) ?_
        walk_at "fd"
        with_reducible refine W.of s_slT ?_
        with_reducible refine W.of (s_addT (by have := @cutD_le xs none (some at_); have := @cutD_le xs (some at_) none; simp; omega)) ?_
        walk_at "fd"
        have hpl3 := p3.lt
        refine of_W (p3.push _) (by omega) (.inr (.inr ⟨_, rfl, v_pot (S := []) Kx.refl (Nat.le_refl _) hpl3, get_new⟩)) (by simp) (by simp) fun k x st4 hxk p4 k4 => ?_
        have hmem := List.mem_of_getElem? hxk
        walk_at "fd"
        have l2 : st2.length + 1 ≤ st3.length := by have := k3.1; simp at this; omega
        have l4 : st3.length + 1 ≤ st4.length := by have := k4.1; simp at this; omega
        refine q x st4 ?_ (p4.mono (by omega)) (((k1.trans k2).trans ((Kx.app _).trans k3)).trans ((Kx.app _).trans k4))
        simp only [List.mem_cons, List.not_mem_nil, or_false] at hmem
        rcases hmem with rfl | rfl | rfl | rfl | rfl
        · exact .ref (by omega)
        · exact dokT fun y hy => (List.mem_append.mp hy).elim (fun z => dx y (cutD_mem z)) fun z => dx y (cutD_mem z)
        · exact dokT fun y hy => (List.mem_append.mp hy).elim (fun z => dx y z) fun z => dx y (cutD_mem z)
        · exact dokT fun y hy => dx y (pick_mem hy)
        · exact dokT fun y hy => (List.mem_append.mp hy).elim (fun z => (List.mem_append.mp z).elim (fun z => dx y (cutD_mem z)) fun z => by rw [List.mem_singleton.mp z]; exact do_.keep (by omega)) fun z => dx y (cutD_mem z)
      with_reducible refine v_mSeq ?_
      walk_at "fd"
      refine w_ist (dokT dx) ?_
      walk_at "fd"
      refine v_ite_t rfl ?_
      walk_at "fd"
      with_reducible refine W.of (s_neT0 rq (by omega)) ?_
      walk_at "fd"
      refine v_ite (fun e => ?_) (fun e => ?_)
      · have hne : 0 < xs.length := by
          cases xs with
          | nil => cases e
          | cons a r => exact Nat.succ_pos _
        walk_at "fd"
        refine take_W hp (by omega) (by decide) (by decide) fun k st1 h0 h1 p1 k1 => ?_
        walk_at "fd"
        refine v_ite (fun e1 => ?_) (fun e1 => ?_)
        · walk_at "fd"
          refine take_W p1 (by omega) (by omega) (by omega) fun at_ st2 h20 h21 p2 k2 => ?_
          walk_at "fd"
          with_reducible refine W.of s_slT ?_
          walk_at "fd"
          have hat : at_.toNat < xs.length := by omega
          with_reducible refine W.of (s_ixt ((atI_nn h20 h21).trans (List.getElem?_eq_getElem hat))) ?_
          walk_at "fd"
          refine ih fuel (c + 2) _ st2 (by omega) (by omega) (hx _ (List.getElem_mem hat)) p2 (by omega) fun r st3 dr p3 k3 => ?_
          walk_at "fd"
          with_reducible refine W.of (s_addT (by have := @cutD_le xs none (some at_); simp; omega)) ?_
          walk_at "fd"
          with_reducible refine W.of s_slT ?_
          with_reducible refine W.of (s_addT (by have := @cutD_le xs none (some at_); have := @cutD_le xs (some (at_ + 1)) none; simp; omega)) ?_
          walk_at "fd"
          refine q _ st3 ?_ (p3.mono (by omega)) ((k1.trans k2).trans k3)
          exact dokT fun y hy => (List.mem_append.mp hy).elim (fun z => (List.mem_append.mp z).elim (fun z => dx y (cutD_mem z)) fun z => by rw [List.mem_singleton.mp z]; exact dr) fun z => dx y (cutD_mem z)
        · with_reducible refine v_mNext ?_
          with_reducible refine v_nx ?_
          exact tail st1 (c + 1) p1 (Nat.le_refl _) k1
      · refine v_iff ?_
        with_reducible refine v_mNext ?_
        with_reducible refine v_nx ?_
        exact tail st c hp (Nat.le_succ _) Kx.refl
end Lk10
end
section
set_option Elab.async false
set_option linter.all false
set_option maxRecDepth 100000
set_option maxHeartbeats 4000000
namespace Lk10
open PySem Fd L2
local macro_rules | `(tactic| walk_at "fd1") => `(tactic| with_reducible first
  | refine v_mSeq ?_ | refine v_m2 ?_ | refine v_mVar rfl ?_ | refine v_mC ?_ | refine v_mN ?_ | refine v_mCons ?_ | refine v_mNil ?_ | refine v_m1 ?_ | refine v_mB ?_ | refine v_mIfS ?_ | refine v_mAsg ?_ | refine v_mRet ?_ | refine v_gN ?_ | refine v_gS ?_
  | refine v_mNext ?_ | refine v_mAndV ?_ | refine v_mOrV ?_ | refine v_mNotV ?_ | refine v_mAnd ?_ | refine v_mOr ?_ | refine v_mNot ?_ | refine v_mIf ?_ | refine v_mChn ?_ | refine v_lkLast ?_ | refine v_lkCons ?_ | refine v_mSl ?_ | refine v_mPartN ?_ | refine v_mPartS ?_ | refine v_mSlS ?_ | refine v_mM ?_
  | refine v_mDnew ?_ | refine v_mPnil ?_ | refine v_mPair ?_ | refine v_mDrop ?_ | refine v_mRetN ?_ | refine v_mPar2 ?_ | refine v_mPar3 ?_ | refine v_mFor ?_ | refine v_mLc ?_ | refine v_mIt ?_ | refine v_mEnum ?_ | refine v_mRng ?_ | refine v_gsNil ?_ | refine v_gsCons ?_ | refine v_yes ?_
  | refine v_endN ?_ | refine v_endR ?_ | refine v_nx ?_ | refine v_rt ?_ | refine v_bl ?_ | refine v_kin ?_ | refine v_itt ?_ | refine v_iff ?_
  | refine W.of s_add ?_ | refine W.of s_sub ?_ | refine W.of (s_i2 _) ?_ | refine W.of s_int ?_ | refine W.of s_intb ?_ | refine W.of s_abs ?_ | refine W.of s_neg ?_ | refine W.of s_eqi ?_ | refine W.of s_nei ?_ | refine W.of s_eqb ?_ | refine W.of s_neb ?_ | refine W.of s_lent ?_ | refine W.of s_lenr ?_ | refine W.of s_max2 ?_ | refine W.of s_min2 ?_ | refine W.of s_nT0 ?_ | refine W.of s_nL0 ?_ | refine W.of s_nT1 ?_ | refine W.of s_nL1 ?_ | refine W.of s_nT2 ?_ | refine W.of s_nL2 ?_ | refine W.of s_nT3 ?_ | refine W.of s_nL3 ?_ | refine W.of s_nT4 ?_ | refine W.of s_nL4 ?_ | refine W.of s_nT5 ?_ | refine W.of s_nL5 ?_)
local macro_rules | `(tactic| walk_at "fd") => `(tactic| repeat walk_at "fd1")
theorem pv_ints {d : Nat} {l : List Nat} (hl : l.length ≤ 40) (h : ∀ k ∈ l, k < 1000000000) : PV (d + 1) (.tup (l.map iD)) := .tup (by rw [List.length_map]; exact hl) fun x hx => by
  obtain ⟨k, hk, rfl⟩ := List.mem_map.mp hx
  exact .int k (h k hk)
theorem PV.up {d : Nat} {v : D} (h : PV d v) : PV (d + 1) v := by
  induction h with
  | int m h => exact .int m h
  | tup l h ih => exact .tup l ih
theorem pv_pair {d : Nat} {x y : D} (hx : PV d x) (hy : PV d y) : PV (d + 1) (.tup [x, y]) := .tup (by simp) fun z hz => by
  simp only [List.mem_cons, List.not_mem_nil, or_false] at hz
  rcases hz with rfl | rfl
  · exact hx
  · exact hy
theorem pv_three {d : Nat} {x y z : D} (hx : PV d x) (hy : PV d y) (hz : PV d z) : PV (d + 1) (.tup [x, y, z]) := .tup (by simp) fun w hw => by
  simp only [List.mem_cons, List.not_mem_nil, or_false] at hw
  rcases hw with rfl | rfl | rfl
  · exact hx
  · exact hy
  · exact hz
theorem pv_repr {v : D} (h : PV 3 v) : ∃ s : Str, ∀ st, opRepr [v] st = .ok (.str s) st := s_repr h.rq (by decide) (by decide)
theorem pv_town {n : Nat} {ss : List St3} (t : Town n ss) : PV 3 (townD n ss) := by
  have h1 := t.hi
  refine pv_pair (.int n (by omega)) (.tup (by rw [List.length_map]; exact t.few) fun x hx => ?_)
  obtain ⟨s, hs, rfl⟩ := List.mem_map.mp hx
  obtain ⟨a, b, c, d⟩ := t.ok s hs
  exact pv_three (.int _ (by omega)) (.int _ (by omega)) (.int _ (by omega))
theorem deg_le (ss : List St3) (c : Nat) : deg ss c ≤ ss.length := List.countP_le_length
theorem pv_degs {n : Nat} {ss : List St3} (t : Town n ss) {d : Nat} : PV (d + 1) (.tup ((degs n ss).map iD)) := by
  have h1 := t.hi
  have h2 := t.few
  refine pv_ints (by rw [degs_len]; omega) fun k hk => ?_
  unfold degs at hk
  obtain ⟨c, _, rfl⟩ := List.mem_map.mp hk
  have := deg_le ss c
  omega
theorem pv_odds {n : Nat} {ss : List St3} (h1 : n ≤ 12) {d : Nat} : PV (d + 1) (.tup ((odds n ss).map iD)) := by
  refine pv_ints ?_ fun k hk => ?_
  · unfold odds
    have := List.length_filter_le (fun c => deg ss c % 2 == 1) (List.range n)
    rw [List.length_range] at this
    omega
  · unfold odds at hk
    have := List.mem_range.mp (List.mem_filter.mp hk).1
    omega
theorem pv_comp {n a : Nat} {ss : List St3} (t : Town n ss) (ha : a < n) {L : List Nat} (h : IsComp ss a L) {d : Nat} : PV (d + 1) (compD L) := by
  have h1 := t.hi
  have lt : ∀ k ∈ L, k < n := fun k hk => Conn.lt t ((h.2 k).mp hk) ha
  have := nodup_len n L (h.1.imp fun {a b} z => Nat.ne_of_lt z) lt
  exact pv_ints (by omega) fun k hk => by have := lt k hk; omega
theorem comps_lt {n : Nat} {ss : List St3} {R : List Nat} {P : List (List Nat)} (r : IsReps n ss R) (h : Comps ss R P) : ∀ L ∈ P, ∃ a, a < n ∧ IsComp ss a L := fun L hL => by
  obtain ⟨a, ha, c⟩ := h.mem L hL
  exact ⟨a, ((r.2 a).mp ha).1, c⟩
theorem comps_len {n : Nat} {ss : List St3} {R : List Nat} {P : List (List Nat)} (r : IsReps n ss R) (h : Comps ss R P) : P.length ≤ n := by
  rw [← h.len]
  exact nodup_len n R (r.1.imp fun {a b} z => Nat.ne_of_lt z) fun k hk => ((r.2 k).mp hk).1
theorem pv_pieces {n : Nat} {ss : List St3} (t : Town n ss) {R : List Nat} {P : List (List Nat)} (r : IsReps n ss R) (h : Comps ss R P) : PV 2 (.tup (P.map compD)) := by
  have h1 := t.hi
  have h2 := comps_len r h
  refine .tup (by rw [List.length_map]; omega) fun x hx => ?_
  obtain ⟨L, hL, rfl⟩ := List.mem_map.mp hx
  obtain ⟨a, ha, c⟩ := comps_lt r h L hL
  exact pv_comp t ha c
theorem pv_places {ss : List St3} (h : ss.length ≤ 40) {p : St3 → Bool} {d : Nat} : PV (d + 1) (.tup ((places ss p).map iD)) :=
  pv_ints (Nat.le_trans places_len h) fun k hk => by have := places_lt k hk; omega
theorem toPy_tupints {st : Sto} (l : List Nat) : toPy deepN st (.tup (l.map iD)) = some (.tuple (l.map fun k : Nat => PyData.int (k : Int))) := by
  show (optAll ((l.map iD).map (toPy 15 st))).map PyData.tuple = _
  rw [toPy_ints]
  rfl
theorem eqvAll_same : ∀ l : List Nat, PyData.eqvAll (l.map fun k : Nat => PyData.int (k : Int)) (l.map fun k : Nat => PyData.int (k : Int)) = true
  | [] => rfl
  | k :: r => by
    show ((k : Int) == k && PyData.eqvAll _ _) = true
    rw [eqvAll_same r]
    simp
theorem s_neSame {l : List Nat} {st : Sto} : opNe (.tup (l.map iD)) (.tup (l.map iD)) st = .ok (.bl false) st := by
  have sh : SeqAt.shaped (.tuple (l.map fun k : Nat => PyData.int (k : Int))) = true := shaped_ints l
  show opEqW not _ _ st = _
  unfold opEqW
  simp only [toPy_tupints]
  rw [if_pos ⟨sh, sh⟩]
  show R.ok (D.bl (!PyData.eqvAll _ _)) st = _
  rw [eqvAll_same]
  rfl
theorem degs_ints (n : Nat) (ss : List St3) : (degs n ss).map iD = ((degs n ss).map fun k : Nat => (k : Int)).map D.int := by rw [List.map_map]; rfl
theorem sel_from : ∀ (ss pre : List St3), (List.range' pre.length ss.length).filterMap (fun k => (pre ++ ss)[k]?) = ss
  | [], _ => rfl
  | s :: r, pre => by
    have ih := sel_from r (pre ++ [s])
    rw [List.length_append, List.length_singleton, List.append_assoc] at ih
    rw [List.length_cons, List.range'_succ, List.filterMap_cons]
    have h : (pre ++ s :: r)[pre.length]? = some s := by simp
    rw [h]
    exact congrArg (s :: ·) ih
theorem sel_all (ss : List St3) : sel ss (List.range ss.length) = ss := by
  have := sel_from ss []
  rw [List.length_nil, List.nil_append, ← List.range_eq_range'] at this
  exact this
/-- the odd ones of a list of corners, by the degrees at r -/
theorem odd_ones_W {n : Nat} {ss : List St3} {L : List Nat} {μ : Mu} {r : Nat} {st0 : Sto} {Q : D → Sto → Prop} (hl : L.length ≤ 1000) (hL : ∀ k ∈ L, k < n) (he : st0[r]? = some (.lst ((degs n ss).map iD))) (h12 : getS μ 12 = some (.ref r)) (h18 : 18 < μ.length)
    (q : ∀ a st', Kx [] st0 st' → st'[a]? = some (.lst ((oddL ss L).map iD)) → Q (.ref a) st') :
    W (lcGo [] (gN 18) (mB (m2 opEq (m2 opMod (mN opInt (mCons (m2 opIx (mVar 12) (mVar 18)) mNil)) (mC (.int 2))) (mC (.int 1)))) (mVar 18) μ st0.length (L.map iD) (st0 ++ [.lst []])) Q := by
  refine lcGo_mp (S := []) (st0 := st0) L iD (fun c => if (deg ss c % 2 == 1) = true then some (iD c) else none) rfl (Nat.le_trans hl (by decide)) (Nat.le_refl _) (by simp) (fun _ _ => rfl) (fun c hc st1 kx hn => ?_) (fun st1 kx he1 => ?_) (Kx.app _) get_new
  · have g12 : getS (μ.set 18 (some (iD c))) 12 = some (.ref r) := by
      unfold getS at h12 ⊢
      rw [List.getElem?_set_ne (by decide)]
      exact h12
    have g18 : getS (μ.set 18 (some (iD c))) 18 = some (iD c) := by
      unfold getS
      rw [List.getElem?_set_self h18]
      rfl
    walk_at "fd"
    refine v_mVar g12 ?_
    refine v_mVar g18 ?_
    have gd : ((degs n ss).map iD)[c]? = some (iD (deg ss c)) := by rw [List.getElem?_map, degs_get (hL c hc)]; rfl
    with_reducible refine W.of (s_ixl (kx.at he (by simp)) (atI_nat gd)) ?_
    walk_at "fd"
    with_reducible refine W.of (s_mod (by decide)) ?_
    walk_at "fd"
    rw [odd_eq]
    refine v_ite (fun e => ?_) (fun e => ?_)
    · refine v_mVar g18 ?_
      exact ⟨Kx.refl, if_pos e⟩
    · exact ⟨Kx.refl, if_neg (by rw [e]; decide)⟩
  · rw [filterMap_if] at he1
    exact q _ st1 kx he1
end Lk10
end
section
set_option Elab.async false
set_option linter.all false
set_option maxRecDepth 100000
set_option maxHeartbeats 4000000
namespace Lk10
open PySem Fd L2
local macro_rules | `(tactic| walk_at "fd1") => `(tactic| with_reducible first
  | refine v_mSeq ?_ | refine v_m2 ?_ | refine v_mVar rfl ?_ | refine v_mC ?_ | refine v_mN ?_ | refine v_mCons ?_ | refine v_mNil ?_ | refine v_m1 ?_ | refine v_mB ?_ | refine v_mIfS ?_ | refine v_mAsg ?_ | refine v_mRet ?_ | refine v_gN ?_ | refine v_gS ?_
  | refine v_mNext ?_ | refine v_mAndV ?_ | refine v_mOrV ?_ | refine v_mNotV ?_ | refine v_mAnd ?_ | refine v_mOr ?_ | refine v_mNot ?_ | refine v_mIf ?_ | refine v_mChn ?_ | refine v_lkLast ?_ | refine v_lkCons ?_ | refine v_mSl ?_ | refine v_mPartN ?_ | refine v_mPartS ?_ | refine v_mSlS ?_ | refine v_mM ?_
  | refine v_mDnew ?_ | refine v_mPnil ?_ | refine v_mPair ?_ | refine v_mDrop ?_ | refine v_mRetN ?_ | refine v_mPar2 ?_ | refine v_mPar3 ?_ | refine v_mFor ?_ | refine v_mLc ?_ | refine v_mIt ?_ | refine v_mEnum ?_ | refine v_mRng ?_ | refine v_gsNil ?_ | refine v_gsCons ?_ | refine v_yes ?_
  | refine v_endN ?_ | refine v_endR ?_ | refine v_nx ?_ | refine v_rt ?_ | refine v_bl ?_ | refine v_kin ?_ | refine v_itt ?_ | refine v_iff ?_
  | refine W.of s_add ?_ | refine W.of s_sub ?_ | refine W.of (s_i2 _) ?_ | refine W.of s_int ?_ | refine W.of s_intb ?_ | refine W.of s_abs ?_ | refine W.of s_neg ?_ | refine W.of s_eqi ?_ | refine W.of s_nei ?_ | refine W.of s_eqb ?_ | refine W.of s_neb ?_ | refine W.of s_lent ?_ | refine W.of s_lenr ?_ | refine W.of s_max2 ?_ | refine W.of s_min2 ?_ | refine W.of s_nT0 ?_ | refine W.of s_nL0 ?_ | refine W.of s_nT1 ?_ | refine W.of s_nL1 ?_ | refine W.of s_nT2 ?_ | refine W.of s_nL2 ?_ | refine W.of s_nT3 ?_ | refine W.of s_nL3 ?_ | refine W.of s_nT4 ?_ | refine W.of s_nL4 ?_ | refine W.of s_nT5 ?_ | refine W.of s_nL5 ?_)
local macro_rules | `(tactic| walk_at "fd") => `(tactic| repeat walk_at "fd1")
theorem s_mulT {xs : List D} {k : Nat} {st : Sto} (h : xs ≠ []) (h1 : 2 ≤ k) (h2 : k ≤ 1000) (h3 : xs.length ≤ 1000) : opMul (.tup xs) (.int (k : Int)) st = .ok (.tup (reps k xs)) st := if_pos ⟨h, by omega, by omega, h3⟩
theorem s_addL {a b : Nat} {xs ys : List D} {st : Sto} (e : st[a]? = some (.lst xs)) (e' : st[b]? = some (.lst ys)) (h : (xs ++ ys).length ≤ sizeLine) : opAdd (.ref a) (.ref b) st = .ok (.ref st.length) (st ++ [.lst (xs ++ ys)]) := by
  unfold opAdd
  simp only [e, e']
  exact s_newL h
theorem reps_dok {st : Sto} {xs : List D} {k : Int} (h : ∀ x ∈ xs, Dok st x) : ∀ x ∈ reps k xs, Dok st x := fun x hx => by
  unfold reps at hx
  obtain ⟨l, hl, hxl⟩ := List.mem_flatten.mp hx
  rw [(List.mem_replicate.mp hl).2] at hxl
  exact h x hxl
theorem bl_repr (b : Bool) : ∃ s : Str, ∀ st, opRepr [.bl b] st = .ok (.str s) st := s_repr ⟨_, rp_bl b⟩ (by decide) (by decide)
/-- every value is judged alike -/
theorem judge_W {p c : Nat} {rl : Nat} {vals : List D} {a0 a1 a2 a3 a4 a5 a6 a7 a8 a9 a10 a11 a12 a13 a14 a15 a16 a17 a18 : Option D} {st : Sto} {Q : Out → Sto → Prop} (hp : Pot p c st) (e : st[rl]? = some (.lst vals)) (hd : ∀ v ∈ vals, Dok st v)
    (q : ∀ μ st', Pot p c st' → Kx [] st st' → Q (.nx μ) st') : W (forGo [(rl, vals)] (gN 11) (mIfS (mB (m2 opNe (mN opRepr (mCons (mN g_is_town (mCons (mVar 11) mNil)) mNil)) (mN opRepr (mCons (mN g__law_is_town (mCons (mVar 11) mNil)) mNil)))) (mRet (mC (.bl false))) mNext) vals [a0, a1, a2, a3, a4, a5, a6, a7, a8, a9, a10, a11, a12, a13, a14, a15, a16, a17, a18] st) Q := by
  refine (forGo_W (gs := [(rl, vals)]) (items := vals) (Q := fun o st' => ∃ μ, o = .nx μ ∧ Pot p c st' ∧ Kx [] st st') (fun i μ st' => Kx [] st st' ∧ ∃ x : Option D, μ = [a0, a1, a2, a3, a4, a5, a6, a7, a8, a9, a10, x, a12, a13, a14, a15, a16, a17, a18]) ?_ ?_ 0 _ st (Nat.zero_le _) ⟨Kx.refl, a11, rfl⟩).mono ?_
  · rintro i v μ st1 hv ⟨k1, x, rfl⟩
    refine ⟨gok_one (k1.at e (by simp)), ?_⟩
    have dv := (hd v (List.mem_of_getElem? hv)).keep k1.1
    obtain ⟨txt, htxt⟩ := bl_repr (townB v)
    walk_at "fd"
    with_reducible refine is_town_W dv fun st2 k2 => ?_
    walk_at "fd"
    with_reducible refine W.of (htxt _) ?_
    walk_at "fd"
    have dv2 := dv.keep k2.1
    with_reducible refine law_is_town_W dv2 fun st3 k3 => ?_
    walk_at "fd"
    with_reducible refine W.of (htxt _) ?_
    refine W.of (a := D.bl false) (st := st3) (by show R.ok (D.bl (!decide (txt = txt))) st3 = _; rw [decide_eq_true rfl]; rfl) ?_
    walk_at "fd"
    exact ⟨(k1.trans k2).trans k3, _, rfl⟩
  · rintro μ st1 ⟨k1, x, rfl⟩
    exact ⟨gok_one (k1.at e (by simp)), _, rfl, hp.keep k1, k1⟩
  · rintro o st1 ⟨μ, rfl, p1, k1⟩
    exact q μ st1 p1 k1
theorem src_lst {n : Nat} {xs : List D} {st : Sto} (e : st[n]? = some (.lst xs)) : srcD (.ref n) st = some (xs, [(n, xs)]) := by
  unfold srcD
  simp only [e]
theorem dok_nil {st : Sto} : ∀ x ∈ ([] : List D), Dok st x := fun _ h => nomatch h
theorem dok_cons {st : Sto} {a : D} {as : List D} (h : Dok st a) (t : ∀ x ∈ as, Dok st x) : ∀ x ∈ a :: as, Dok st x := fun x hx => by
  rcases List.mem_cons.mp hx with e | e
  · rw [e]; exact h
  · exact t x e
theorem vals_dok {n k : Nat} {ss : List St3} {st : Sto} (h1 : k < st.length) (h2 : k + 1 < st.length) : ∀ x ∈ [townD n ss, D.ref k, D.tup [iD n, D.ref (k + 1)], D.tup [D.int 0, D.tup []], D.tup [D.int 13, D.tup []], D.tup [D.int 12, D.tup []], D.tup [D.int 2, D.tup (reps ((40 : Nat) : Int) [D.tup [D.int 0, D.int 1, D.int 1]])], D.tup [D.int 2, D.tup (reps ((41 : Nat) : Int) [D.tup [D.int 0, D.int 1, D.int 1]])], D.non], Dok st x := by
  repeat' first
    | exact dok_nil
    | exact .non
    | exact .int _
    | exact .ref h1
    | exact .ref h2
    | exact dok_town _ _
    | refine dok_cons ?_ ?_
    | refine dokT ?_
    | refine reps_dok ?_
theorem vals_dok2 {a b : Int} {d : D} {st : Sto} (h : Dok st d) : ∀ x ∈ [D.tup [D.int 3, D.tup [D.tup [D.int 1, D.int 0, D.int 1]]], D.tup [D.int 3, D.tup [D.tup [D.int 1, D.int 1, D.int 1]]], D.tup [D.int 3, D.tup [D.tup [D.int 0, D.int 3, D.int 1]]], D.tup [D.int 3, D.tup [D.tup [D.int 0, D.int 1, D.int 0]]], D.tup [D.int 3, D.tup [D.tup [D.int 0, D.int 1, D.int a]]], D.tup [D.int 3, D.tup [D.tup [D.int 0, D.int 1, D.int b]]], d], Dok st x := by
  repeat' first
    | exact dok_nil
    | exact .int _
    | exact h
    | refine dok_cons ?_ ?_
    | refine dokT ?_
/-- the values that are no towns, and the bent ones -/
theorem tail_W {p c n : Nat} {ss : List St3} {a1 a2 a4 a5 a6 a7 a8 a9 a10 a11 a12 a13 a14 a15 a16 a17 a18 : Option D} {st : Sto} {Q : Out → Sto → Prop} (t : Town n ss) (hp : Pot p c st) (hc : c + 250 ≤ 1000000)
    (q : ∀ st', Pot p (c + 244) st' → Kx [p] st st' → Q (.rt (.bl true)) st') :
    W ((mSeq (mAsg (mN newL (mCons (mVar 3) (mCons (mN opList (mCons (mVar 3) mNil)) (mCons (mN newT (mCons (m2 opIx (mVar 3) (mC (.int 0))) (mCons (mN opList (mCons (m2 opIx (mVar 3) (mC (.int 1))) mNil)) mNil))) (mCons (mN newT (mCons (mC (.int 0)) (mCons (mN newT mNil) mNil))) (mCons (mN newT (mCons (mC (.int 13)) (mCons (mN newT mNil) mNil))) (mCons (mN newT (mCons (mC (.int 12)) (mCons (mN newT mNil) mNil))) (mCons (mN newT (mCons (mC (.int 2)) (mCons (m2 opMul (mN newT (mCons (mN newT (mCons (mC (.int 0)) (mCons (mC (.int 1)) (mCons (mC (.int 1)) mNil)))) mNil)) (mC (.int 40))) mNil))) (mCons (mN newT (mCons (mC (.int 2)) (mCons (m2 opMul (mN newT (mCons (mN newT (mCons (mC (.int 0)) (mCons (mC (.int 1)) (mCons (mC (.int 1)) mNil)))) mNil)) (mC (.int 41))) mNil))) (mCons (mC .non) mNil)))))))))) (gN 10)) (mSeq (mDrop (mM "list" mfExtend (mVar 10) (mCons (mN newL (mCons (mN newT (mCons (mC (.int 3)) (mCons (mN newT (mCons (mN newT (mCons (mC (.int 1)) (mCons (mC (.int 0)) (mCons (mC (.int 1)) mNil)))) mNil)) mNil))) (mCons (mN newT (mCons (mC (.int 3)) (mCons (mN newT (mCons (mN newT (mCons (mC (.int 1)) (mCons (mC (.int 1)) (mCons (mC (.int 1)) mNil)))) mNil)) mNil))) (mCons (mN newT (mCons (mC (.int 3)) (mCons (mN newT (mCons (mN newT (mCons (mC (.int 0)) (mCons (mC (.int 3)) (mCons (mC (.int 1)) mNil)))) mNil)) mNil))) (mCons (mN newT (mCons (mC (.int 3)) (mCons (mN newT (mCons (mN newT (mCons (mC (.int 0)) (mCons (mC (.int 1)) (mCons (mC (.int 0)) mNil)))) mNil)) mNil))) (mCons (mN newT (mCons (mC (.int 3)) (mCons (mN newT (mCons (mN newT (mCons (mC (.int 0)) (mCons (mC (.int 1)) (mCons (m2 opPow (mC (.int 10)) (mC (.int 6))) mNil)))) mNil)) mNil))) (mCons (mN newT (mCons (mC (.int 3)) (mCons (mN newT (mCons (mN newT (mCons (mC (.int 0)) (mCons (mC (.int 1)) (mCons (m2 opAdd (m2 opPow (mC (.int 10)) (mC (.int 6))) (mC (.int 1))) mNil)))) mNil)) mNil))) (mCons (mN g__law_odd (mCons (mVar 0) mNil)) mNil)))))))) mNil))) (mSeq (mFor (mIt (m2 opAdd (mVar 10) (mLc (mRng (mCons (mC (.int 6)) mNil)) (gN 14) tYesM (mN (g__law_bent 8) (mCons (mVar 0) (mCons (mVar 3) mNil))) [14]))) (gN 11) (mIfS (mB (m2 opNe (mN opRepr (mCons (mN g_is_town (mCons (mVar 11) mNil)) mNil)) (mN opRepr (mCons (mN g__law_is_town (mCons (mVar 11) mNil)) mNil)))) (mRet (mC (.bl false))) mNext)) (mRet (mC (.bl true)))))) [some (.ref p), a1, a2, some (townD n ss), a4, a5, a6, a7, a8, a9, a10, a11, a12, a13, a14, a15, a16, a17, a18] st) Q := by
  walk_at "fd"
  with_reducible refine W.of (s_list (xs := [iD n, .tup (ss.map stD)]) rfl) ?_
  walk_at "fd"
  with_reducible refine W.of town_ix0 ?_
  walk_at "fd"
  with_reducible refine W.of town_ix1 ?_
  walk_at "fd"
  with_reducible refine W.of (s_list (xs := ss.map stD) rfl) ?_
  walk_at "fd"
  with_reducible refine W.of (s_mulT (by simp) (by decide) (by decide) (by simp)) ?_
  walk_at "fd"
  with_reducible refine W.of (s_mulT (by simp) (by decide) (by decide) (by simp)) ?_
  walk_at "fd"
  obtain ⟨k1, hk1⟩ : ∃ k, k = st.length := ⟨_, rfl⟩
  rw [show (st ++ [O.lst [iD n, D.tup (List.map stD ss)]]).length = k1 + 1 by rw [List.length_append, hk1]; rfl, ← hk1]
  have kx1 : Kx [p] st (st ++ [O.lst [iD n, D.tup (List.map stD ss)]] ++ [O.lst (List.map stD ss)]) := (Kx.app _).push _
  have p1 : Pot p c (st ++ [O.lst [iD n, D.tup (List.map stD ss)]] ++ [O.lst (List.map stD ss)]) := (hp.push _).push _
  have d1 := vals_dok (n := n) (k := k1) (ss := ss) (st := st ++ [O.lst [iD n, D.tup (List.map stD ss)]] ++ [O.lst (List.map stD ss)]) (by simp; omega) (by simp; omega)
  generalize st ++ [O.lst [iD n, D.tup (List.map stD ss)]] ++ [O.lst (List.map stD ss)] = st1 at kx1 p1 d1 ⊢
  obtain ⟨v0, ev0⟩ : ∃ v0, v0 = [townD n ss, D.ref k1, D.tup [iD n, D.ref (k1 + 1)], D.tup [D.int 0, D.tup []], D.tup [D.int 13, D.tup []], D.tup [D.int 12, D.tup []], D.tup [D.int 2, D.tup (reps ((40 : Nat) : Int) [D.tup [D.int 0, D.int 1, D.int 1]])], D.tup [D.int 2, D.tup (reps ((41 : Nat) : Int) [D.tup [D.int 0, D.int 1, D.int 1]])], D.non] := ⟨_, rfl⟩
  rw [← ev0] at d1 ⊢
  have l1 : v0.length = 9 := by rw [ev0]; rfl
  clear ev0 hk1
  with_reducible refine W.of (s_newL (by rw [l1]; decide)) ?_
  have p2 := p1.push [O.lst v0]
  have kx2 := kx1.push [O.lst v0]
  have d2 : ∀ x ∈ v0, Dok (st1 ++ [O.lst v0]) x := fun x hx => (d1 x hx).keep (by simp)
  have e2 : (st1 ++ [O.lst v0])[st1.length]? = some (.lst v0) := get_new
  have rp2 : st1.length ≠ p := by have := p1.lt; omega
  have fr2 : st.length ≤ st1.length := kx1.1
  generalize st1.length = rv at e2 rp2 fr2 ⊢
  generalize st1 ++ [O.lst v0] = st2 at p2 kx2 d2 e2 ⊢
  clear p1 kx1 d1
  walk_at "fd"
  refine ⟨v_tyL e2, ?_⟩
  walk_at "fd"
  with_reducible refine W.of (s_pow (i := 10) (j := 6) (by decide)) ?_
  walk_at "fd"
  with_reducible refine W.of (s_pow (i := 10) (j := 6) (by decide)) ?_
  walk_at "fd"
  with_reducible refine oddv_W p2 (by omega) fun od st3 dod p3 kx3 => ?_
  walk_at "fd"
  have e3 := kx3.at e2 (by simpa using rp2)
  have d3 : ∀ x ∈ v0, Dok st3 x := fun x hx => (d2 x hx).keep kx3.1
  obtain ⟨w0, ew0⟩ : ∃ w0, w0 = [D.tup [D.int 3, D.tup [D.tup [D.int 1, D.int 0, D.int 1]]], D.tup [D.int 3, D.tup [D.tup [D.int 1, D.int 1, D.int 1]]], D.tup [D.int 3, D.tup [D.tup [D.int 0, D.int 3, D.int 1]]], D.tup [D.int 3, D.tup [D.tup [D.int 0, D.int 1, D.int 0]]], D.tup [D.int 3, D.tup [D.tup [D.int 0, D.int 1, D.int (10 ^ (6 : Int).toNat)]]], D.tup [D.int 3, D.tup [D.tup [D.int 0, D.int 1, D.int (10 ^ (6 : Int).toNat + 1)]]], od] := ⟨_, rfl⟩
  have dw : ∀ x ∈ w0, Dok st3 x := by rw [ew0]; exact vals_dok2 dod
  have lw : w0.length = 7 := by rw [ew0]; rfl
  rw [← ew0]
  clear ew0
  have ext := (Kx.app (S := []) (st := st3) [O.lst w0]).at e3 (by simp)
  have p4 : Pot p (c + 4) ((st3 ++ [O.lst w0]).set rv (.lst (v0 ++ w0))) := (p3.push _).set rp2
  have kx4 : Kx [p] st ((st3 ++ [O.lst w0]).set rv (.lst (v0 ++ w0))) := ((kx2.trans kx3).push [O.lst w0]).set (.inr fr2)
  have d4 : ∀ x ∈ v0 ++ w0, Dok ((st3 ++ [O.lst w0]).set rv (.lst (v0 ++ w0))) x := fun x hx => by
    rcases List.mem_append.mp hx with h | h
    · exact (d3 x h).keep (by simp)
    · exact (dw x h).keep (by simp)
  have e4 : ((st3 ++ [O.lst w0]).set rv (.lst (v0 ++ w0)))[rv]? = some (.lst (v0 ++ w0)) := List.getElem?_set_self (lt_of ext)
  have l4 : (v0 ++ w0).length = 16 := by rw [List.length_append, l1, lw]
  with_reducible refine W.of (s_newL (by rw [lw]; decide)) ?_
  walk_at "fd"
  with_reducible refine W.of (s_extend ext get_new (by rw [l1, lw]; decide)) ?_
  generalize (st3 ++ [O.lst w0]).set rv (.lst (v0 ++ w0)) = st4 at p4 kx4 d4 e4 ⊢
  generalize v0 ++ w0 = u0 at d4 e4 l4 ⊢
  clear ext e3 d3 dw lw l1 p3 kx3 dod d2 e2 p2 kx2
  walk_at "fd"
  with_reducible refine W.of (s_rng1 (i := 6) (by decide) (by decide)) ?_
  have plt := p4.lt
  have six : (rangeD 0 (6 : Int).toNat).length = 6 := by rw [rangeD_len]; rfl
  refine lcGo_W (items := rangeD 0 (6 : Int).toNat) (fun i acc st' => Kx [p] st4 st' ∧ Pot p (c + 4 + 40 * i) st' ∧ acc.length = i ∧ i ≤ 6 ∧ ∀ x ∈ acc, Dok st' x) ?_ ?_ 0 [] _ (Nat.zero_le _) ⟨Kx.app _, p4.push _, rfl, by omega, fun _ h => nomatch h⟩ get_new
  · rintro i x acc st5 hx ⟨kx5, p5, la, hi, da⟩ ha
    have hi6 : i < 6 := by have := (List.getElem?_eq_some_iff.mp hx).1; omega
    refine ⟨rfl, ?_⟩
    walk_at "fd"
    refine bent_W 3 8 (c + 4 + 40 * i) (townD n ss) st5 (by omega) (by omega) (pv_town t) p5 (by omega) fun r st6 dr p6 kx6 => ?_
    have ha6 := kx6.at ha (by simp; omega)
    refine ⟨ha6, by rw [la]; exact Nat.lt_of_lt_of_le hi6 (by decide), (kx5.trans kx6).set (.inr (Nat.le_refl _)), (p6.mono (by omega)).set (by omega), by rw [List.length_append, la]; rfl, by omega, fun y hy => ?_⟩
    rcases List.mem_append.mp hy with h | h
    · exact ((da y h).keep kx6.1).keep (by simp)
    · rw [List.mem_singleton.mp h]; exact dr.keep (by simp)
  · rintro acc st5 ⟨kx5, p5, la, hi, da⟩ ha
    rw [six] at la p5
    refine ⟨rfl, ?_⟩
    have e5 := kx5.at e4 (by simpa using rp2)
    have l5 : (u0 ++ acc).length = 22 := by rw [List.length_append, l4, la]
    walk_at "fd"
    with_reducible refine W.of (s_addL e5 ha (by rw [l5]; decide)) ?_
    refine ⟨_, src_lst get_new, ?_⟩
    refine judge_W (p5.push _) get_new (fun v hv => ?_) fun μ st6 p6 kx6 => ?_
    · rcases List.mem_append.mp hv with h | h
      · exact ((d4 v h).keep kx5.1).keep (by simp)
      · exact (da v h).keep (by simp)
    · walk_at "fd"
      exact q _ p6 ((((kx4.trans kx5).push _).trans kx6.nil))
end Lk10
end
section
set_option Elab.async false
set_option linter.all false
set_option maxRecDepth 100000
set_option maxHeartbeats 8000000
namespace Lk10
open PySem Fd L2
local macro_rules | `(tactic| walk_at "fd1") => `(tactic| with_reducible first
  | refine v_mSeq ?_ | refine v_m2 ?_ | refine v_mVar rfl ?_ | refine v_mC ?_ | refine v_mN ?_ | refine v_mCons ?_ | refine v_mNil ?_ | refine v_m1 ?_ | refine v_mB ?_ | refine v_mIfS ?_ | refine v_mAsg ?_ | refine v_mRet ?_ | refine v_gN ?_ | refine v_gS ?_
  | refine v_mNext ?_ | refine v_mAndV ?_ | refine v_mOrV ?_ | refine v_mNotV ?_ | refine v_mAnd ?_ | refine v_mOr ?_ | refine v_mNot ?_ | refine v_mIf ?_ | refine v_mChn ?_ | refine v_lkLast ?_ | refine v_lkCons ?_ | refine v_mSl ?_ | refine v_mPartN ?_ | refine v_mPartS ?_ | refine v_mSlS ?_ | refine v_mM ?_
  | refine v_mDnew ?_ | refine v_mPnil ?_ | refine v_mPair ?_ | refine v_mDrop ?_ | refine v_mRetN ?_ | refine v_mPar2 ?_ | refine v_mPar3 ?_ | refine v_mFor ?_ | refine v_mLc ?_ | refine v_mIt ?_ | refine v_mEnum ?_ | refine v_mRng ?_ | refine v_gsNil ?_ | refine v_gsCons ?_ | refine v_yes ?_
  | refine v_endN ?_ | refine v_endR ?_ | refine v_nx ?_ | refine v_rt ?_ | refine v_bl ?_ | refine v_kin ?_ | refine v_itt ?_ | refine v_iff ?_
  | refine W.of s_add ?_ | refine W.of s_sub ?_ | refine W.of (s_i2 _) ?_ | refine W.of s_int ?_ | refine W.of s_intb ?_ | refine W.of s_abs ?_ | refine W.of s_neg ?_ | refine W.of s_eqi ?_ | refine W.of s_nei ?_ | refine W.of s_eqb ?_ | refine W.of s_neb ?_ | refine W.of s_lent ?_ | refine W.of s_lenr ?_ | refine W.of s_max2 ?_ | refine W.of s_min2 ?_ | refine W.of s_nT0 ?_ | refine W.of s_nL0 ?_ | refine W.of s_nT1 ?_ | refine W.of s_nL1 ?_ | refine W.of s_nT2 ?_ | refine W.of s_nL2 ?_ | refine W.of s_nT3 ?_ | refine W.of s_nL3 ?_ | refine W.of s_nT4 ?_ | refine W.of s_nL4 ?_ | refine W.of s_nT5 ?_ | refine W.of s_nL5 ?_)
local macro_rules | `(tactic| walk_at "fd") => `(tactic| repeat walk_at "fd1")
theorem s_neStr {s : Str} {st : Sto} : opNe (.str s) (.str s) st = .ok (.bl false) st := by
  show R.ok (D.bl (!decide (s = s))) st = _
  rw [decide_eq_true rfl]
  rfl
theorem s_neInt {i j : Int} (h : i = j) {st : Sto} : opNe (.int i) (.int j) st = .ok (.bl false) st := by
  show R.ok (D.bl (!decide (i = j))) st = _
  rw [decide_eq_true h]
  rfl
/-- drawn and sorted: a lot -/
theorem lot_W {p c n k : Nat} {d : D} {st : Sto} (hp : Pot p c st) (hc : c + k ≤ 1000000) (hs : seqOf d st = some (rangeD 0 n)) (hk : k ≤ n) (hn : n ≤ 1000) {Q : D → Sto → Prop}
    (q : ∀ (L : List Nat) st', L.Pairwise (· < ·) → (∀ x ∈ L, x < n) → Pot p (c + k) st' → Kx [p] st st' → Q (.tup (L.map iD)) st') :
    W (g__law_some [.ref p, d, .int k] st) fun x st1 => W (opSorted [x] st1) fun y st2 => W (opTuple [y] st2) Q := by
  with_reducible refine some_W hp hc hs (by rw [rangeD_len]; exact hk) (by rw [rangeD_len]; omega) fun ys zs st1 b pm l2 p1 k1 hb eb => ?_
  rw [rangeD_iD] at pm
  obtain ⟨js, rfl, nd, mem⟩ := drawn List.nodup_range pm
  have eb' : st1[b]? = some (.lst ((js.map fun k : Nat => (k : Int)).map D.int)) := by rw [eb, List.map_map]; rfl
  refine W.of (s_sorted (lst_lst eb')) ?_
  obtain ⟨L, eL, pw, ml⟩ := sortN nd
  refine W.of (s_tuple (seq_lst get_new)) ?_
  rw [eL, List.map_map]
  exact q L _ pw (fun x hx => List.mem_range.mp (mem x ((ml x).mp hx))) (p1.push _) (k1.push _)
theorem inner2_W {l : List Nat} {s : St3} {μ : Mu} {st0 : Sto} {Q : D → Sto → Prop} (h5 : getS μ 5 = some (.tup (l.map iD))) (h18 : 18 < μ.length)
    (q : ∀ a xs st', Kx [] st0 st' → st'[a]? = some (.lst xs) → xs.length = ins l s → Q (.ref a) st') :
    W (lcGo [] (gN 18) (mB (m2 (opIn id) (mVar 18) (mVar 5))) (mVar 18) μ st0.length [iD s.1, iD s.2.1] (st0 ++ [.lst []])) Q := by
  refine lcGo_mp (S := []) (st0 := st0) [s.1, s.2.1] iD (fun c => if decide (c ∈ l) = true then some (iD c) else none) rfl (show 2 ≤ sizeLine by decide) (Nat.le_refl _) (by simp) (fun _ _ => rfl) (fun c hc st1 kx hn => ?_) (fun st1 kx he1 => ?_) (Kx.app _) get_new
  · have g5 : getS (μ.set 18 (some (iD c))) 5 = some (.tup (l.map iD)) := by
      unfold getS at h5 ⊢
      rw [List.getElem?_set_ne (by decide)]
      exact h5
    have g18 : getS (μ.set 18 (some (iD c))) 18 = some (iD c) := by
      unfold getS
      rw [List.getElem?_set_self h18]
      rfl
    walk_at "fd"
    refine v_mVar g18 ?_
    refine v_mVar g5 ?_
    with_reducible refine W.of s_inT ?_
    walk_at "fd"
    refine v_ite (fun e => ?_) (fun e => ?_)
    · refine v_mVar g18 ?_
      exact ⟨Kx.refl, if_pos e⟩
    · exact ⟨Kx.refl, if_neg (by rw [show decide (c ∈ l) = false from e]; decide)⟩
  · rw [filterMap_if] at he1
    refine q _ _ st1 kx he1 ?_
    rw [List.length_map]
    unfold ins b01
    by_cases z1 : s.1 ∈ l <;> by_cases z2 : s.2.1 ∈ l <;> simp [z1, z2]
theorem ins_one (l : List Nat) (s : St3) : decide (((ins l s : Nat) : Int) = 1) = crossB l s := by
  unfold ins crossB b01
  by_cases z1 : s.1 ∈ l <;> by_cases z2 : s.2.1 ∈ l <;> simp [z1, z2]
theorem ins_two (l : List Nat) (s : St3) : decide (((ins l s : Nat) : Int) = 2) = insideB l s := by
  unfold ins insideB b01
  by_cases z1 : s.1 ∈ l <;> by_cases z2 : s.2.1 ∈ l <;> simp [z1, z2]
theorem Comps.has {ss : List St3} {R : List Nat} {P : List (List Nat)} (h : Comps ss R P) : ∀ a ∈ R, ∃ L ∈ P, IsComp ss a L := by
  induction h with
  | nil => exact fun _ h => nomatch h
  | cons a b ih =>
    intro x hx
    rcases List.mem_cons.mp hx with e | e
    · subst e; exact ⟨_, List.mem_cons_self, a⟩
    · obtain ⟨L, hL, c⟩ := ih x e; exact ⟨L, List.mem_cons_of_mem _ hL, c⟩
theorem first_piece {n kc : Nat} {ss : List St3} (t : Town n ss) {R : List Nat} {P : List (List Nat)} (hR : IsReps n ss R) (hP : Comps ss R P) (hk : kc < n) {Lc : List Nat} (hL : IsComp ss kc Lc) : ((P.filter fun L => decide (kc ∈ L)).map compD)[0]? = some (compD Lc) := by
  have me : kc ∈ Lc := (hL.2 kc).mpr .refl
  obtain ⟨a, r, rfl⟩ : ∃ a r, Lc = a :: r := by
    cases Lc with
    | nil => cases me
    | cons a r => exact ⟨a, r, rfl⟩
  have ca : Conn ss kc a := (hL.2 a).mp List.mem_cons_self
  have rep : a ∈ R := (hR.2 a).mpr ⟨Conn.lt t ca hk, fun d k => by
    have hd := (hL.2 d).mpr (ca.trans k)
    rcases List.mem_cons.mp hd with e | e
    · omega
    · exact Nat.le_of_lt ((List.pairwise_cons.mp hL.1).1 d e)⟩
  obtain ⟨L, hLP, hLa⟩ := hP.has a rep
  have hin : L ∈ P.filter fun L => decide (kc ∈ L) := List.mem_filter.mpr ⟨hLP, decide_eq_true ((hLa.2 kc).mpr ca.symm)⟩
  cases hf : P.filter fun L => decide (kc ∈ L) with
  | nil => rw [hf] at hin; cases hin
  | cons L0 rest =>
    have h0 : L0 ∈ P.filter fun L => decide (kc ∈ L) := by rw [hf]; exact List.mem_cons_self
    obtain ⟨h1, h2⟩ := List.mem_filter.mp h0
    obtain ⟨b, hb, cb⟩ := hP.mem L0 h1
    have := cb.eq hL ((cb.2 kc).mp (of_decide_eq_true h2))
    rw [this]
    rfl
theorem par_sub {a b : Nat} (h : a % 2 = b % 2) : ((a : Int) - (b : Int)) % 2 = 0 := by omega
theorem law_right_W {p c m s : Nat} {st : Sto} (hp : Pot p c st) (hm : 2 ≤ m) (hm2 : m ≤ 12) (hs : s ≤ 40) (hc : c + 600 ≤ 1000000) {Q : D → Sto → Prop}
    (q : ∀ st', Pot p (c + 600) st' → Kx [p] st st' → Q (.bl true) st') : W (g__law_right [.ref p, .int m, .int s] st) Q := by
  have hpl := hp.lt
  unfold g__law_right m__law_right
  with_reducible refine v_fnD rfl ?_
  walk_at "fd"
  with_reducible refine town_W hp hm hm2 hs (by omega) fun n ss st1 t n2 p1 k1 => ?_
  have hn := t.hi
  have few := t.few
  walk_at "fd"
  with_reducible refine law_degrees_W t fun r st2 k2 hr he => ?_
  walk_at "fd"
  with_reducible refine v_lrg1 ?_
  walk_at "fd"
  with_reducible refine W.of town_ix0 ?_
  refine ⟨n, rfl, by omega, ?_⟩
  walk_at "fd"
  refine v_gT rfl rfl ?_
  walk_at "fd"
  have hcor : (st2 ++ [O.lst (rangeD 0 n)])[st2.length]? = some (.lst (rangeD 0 n)) := get_new
  have he3 : (st2 ++ [O.lst (rangeD 0 n)])[r]? = some (.lst ((degs n ss).map iD)) := (Kx.app (S := []) _).at he (by simp)
  have k3 : Kx [p] st (st2 ++ [O.lst (rangeD 0 n)]) := (k1.trans k2.nil).push _
  have p3 : Pot p (c + 2 + 4 * s) (st2 ++ [O.lst (rangeD 0 n)]) := (p1.keep k2).push _
  have rnp : r ≠ p := by have := p1.lt; omega
  have cnp : st2.length ≠ p := by have := (p1.keep k2).lt; omega
  generalize st2.length = rc at hcor cnp ⊢
  generalize st2 ++ [O.lst (rangeD 0 n)] = st3 at hcor he3 k3 p3 ⊢
  clear he k2 hr
  -- degrees, odd ones, pieces
  with_reducible refine degrees_W t fun st4 k4 => ?_
  walk_at "fd"
  with_reducible refine odd_W t fun st5 k5 => ?_
  walk_at "fd"
  with_reducible refine pieces_W t fun R P st6 hR hP k6 => ?_
  walk_at "fd"
  have k36 := (k4.trans k5).trans k6
  obtain ⟨txt, htxt⟩ := pv_repr (pv_three (pv_degs t) (pv_odds hn) (pv_pieces t hR hP))
  with_reducible refine W.of (htxt _) ?_
  walk_at "fd"
  with_reducible refine W.of (s_tuple (seq_lst (k36.at he3 (by simp)))) ?_
  walk_at "fd"
  with_reducible refine law_odd_ones_W t fun r2 st7 k7 hr2 he7 => ?_
  walk_at "fd"
  with_reducible refine W.of (s_tuple (seq_lst he7)) ?_
  walk_at "fd"
  with_reducible refine law_pieces_W t fun R' P' r3 st8 hR' hP' k8 hr3 he8 => ?_
  obtain rfl := hR.eq hR'
  obtain rfl := hP.eq hP'
  walk_at "fd"
  with_reducible refine W.of (s_tuple (seq_lst he8)) ?_
  walk_at "fd"
  with_reducible refine W.of (htxt _) ?_
  with_reducible refine W.of s_neStr ?_
  walk_at "fd"
  have k38 := (k36.trans k7).trans k8
  have he9 := k38.at he3 (by simp)
  have hcor9 := k38.at hcor (by simp)
  have p9 := p3.keep k38
  have k9 := k3.trans k38.nil
  clear k36 k38 he3 hcor p3 k3 k4 k5 k6 k7 k8 he7 he8 hr2 hr3 htxt
  -- the sum of the degrees
  rw [degs_ints] at he9
  with_reducible refine W.of (s_sum he9) ?_
  rw [← degs_ints] at he9
  walk_at "fd"
  with_reducible refine W.of town_ix1 ?_
  walk_at "fd"
  with_reducible refine W.of (s_mul (mulOk_l (by decide))) ?_
  with_reducible refine W.of (s_neInt (by rw [many_sum t, List.length_map])) ?_
  walk_at "fd"
  -- the pieces' odd corners
  with_reducible refine pieces_W t fun R2 P2 st10 hR2 hP2 k10 => ?_
  obtain rfl := hR.eq hR2
  obtain rfl := hP.eq hP2
  have plen := comps_len hR hP
  refine ⟨_, rfl, ?_⟩
  have he10 := k10.at he9 (by simp)
  refine lcGo_mp (S := []) (st0 := st10) P compD (fun L => some (D.bl false)) rfl (Nat.le_trans (Nat.le_trans plen hn) (by decide)) (Nat.le_refl _) (by simp) (fun _ _ => rfl) (fun L hL st11 k11 hn11 => ?_) (fun st11 k11 he11 => ?_) (Kx.app _) get_new
  · obtain ⟨a, ha, ca⟩ := comps_lt hR hP L hL
    have Llt : ∀ k ∈ L, k < n := fun k hk => Conn.lt t ((ca.2 k).mp hk) ha
    have Lle := nodup_len n L (ca.1.imp fun {a b} z => Nat.ne_of_lt z) Llt
    walk_at "fd"
    refine ⟨_, rfl, ?_⟩
    with_reducible refine odd_ones_W (n := n) (ss := ss) (r := r) (by omega) Llt (k11.at he10 (by simp)) ?h5 ?h18 fun b st12 k12 he12 => ?_
    (case h5 => rfl); (case h18 => show 18 < 19; decide)
    walk_at "fd"
    with_reducible refine W.of (s_lenq (seq_lst he12)) ?_
    walk_at "fd"
    with_reducible refine W.of (s_mod (by decide)) ?_
    walk_at "fd"
    refine ⟨k12, ?_⟩
    have ev := piece_even t ca
    rw [List.length_map, decide_eq_false (by omega)]
  walk_at "fd"
  have hb : P.filterMap (fun L => some (D.bl false)) = (P.map fun _ => false).map D.bl := by rw [List.map_map, ← List.filterMap_eq_map]; rfl
  rw [hb] at he11
  with_reducible refine W.of (s_any he11) ?_
  walk_at "fd"
  have hany : (P.map fun _ => false).any id = false := by rw [List.any_map]; simp
  rw [hany]
  refine v_iff ?_
  walk_at "fd"
  have p11 := (p9.keep k10).keep k11
  have hcor11 := k11.at (k10.at hcor9 (by simp)) (by simp)
  have he12 := k11.at he10 (by simp)
  have k12 := (k9.trans k10.nil).trans k11.nil
  clear he9 hcor9 p9 k9 k10 k11 he10 he11 hb hany
  -- a corner
  have sq11 : SeqK [p] (.ref rc) st11 (rangeD 0 n) := .inr (.inr ⟨rc, rfl, by simpa using cnp, hcor11⟩)
  with_reducible refine of_W p11 (by omega) sq11 (by rw [← List.length_pos_iff, rangeD_len]; omega) (by rw [rangeD_len]; omega) fun kc xc st13 hxc p13 k13 => ?_
  have hkc : kc < n := by have := (List.getElem?_eq_some_iff.mp hxc).1; rw [rangeD_len] at this; exact this
  rw [rangeD_get hkc, Int.zero_add] at hxc
  obtain rfl : iD kc = xc := Option.some.inj hxc
  have hcor13 := k13.at hcor11 (by simpa using cnp)
  have he13 := k13.at he12 (by simpa using rnp)
  have k14 := k12.trans k13
  clear hcor11 he12 k12 k13 hxc p11
  walk_at "fd"
  with_reducible refine piece_of_W t hkc fun Lc st15 hLc k15 => ?_
  walk_at "fd"
  obtain ⟨txt2, htxt2⟩ := pv_repr (v := compD Lc) (pv_comp t hkc hLc)
  with_reducible refine W.of (htxt2 _) ?_
  walk_at "fd"
  with_reducible refine law_pieces_W t fun R3 P3 r3 st16 hR3 hP3 k16 hr3 he16 => ?_
  obtain rfl := hR.eq hR3
  obtain rfl := hP.eq hP3
  have sk16 : SeqK [] (.ref r3) st16 (P.map compD) := .inr (.inr ⟨r3, rfl, by simp, he16⟩)
  obtain ⟨gs, eg, og⟩ := sk16.src
  refine ⟨_, eg, ?_⟩
  refine lcGo_mp (S := []) (st0 := st16) P compD (fun L => if decide (kc ∈ L) = true then some (compD L) else none) rfl (Nat.le_trans (Nat.le_trans plen hn) (by decide)) (Nat.le_refl _) (by simp) og (fun L hL st17 k17 hn17 => ?_) (fun st17 k17 he17 => ?_) (Kx.app _) get_new
  · walk_at "fd"
    with_reducible refine W.of (s_inT (l := L)) ?_
    walk_at "fd"
    refine v_ite (fun e => ?_) (fun e => ?_)
    · walk_at "fd"
      exact ⟨Kx.refl, if_pos e⟩
    · exact ⟨Kx.refl, if_neg (by rw [show decide (kc ∈ L) = false from e]; decide)⟩
  rw [filterMap_if] at he17
  have first := first_piece t hR hP hkc hLc
  walk_at "fd"
  with_reducible refine W.of (s_ixl he17 (atI_nat (c := 0) first)) ?_
  walk_at "fd"
  with_reducible refine W.of (htxt2 _) ?_
  with_reducible refine W.of s_neStr ?_
  walk_at "fd"
  have k1417 := (k15.trans k16).trans k17
  have p17 := p13.keep k1417
  have hcor17 := k1417.at hcor13 (by simp)
  have he18 := k1417.at he13 (by simp)
  have k18 := k14.trans k1417.nil
  clear hcor13 he13 p13 k14 k15 k16 k17 k1417 he17 he16 sk16 eg og first htxt2
  -- the streets at it
  with_reducible refine streets_at_W t hkc fun st19 k19 => ?_
  walk_at "fd"
  obtain ⟨txt3, htxt3⟩ := pv_repr (v := .tup ((places ss (at_ kc)).map iD)) (pv_places few)
  with_reducible refine W.of (htxt3 _) ?_
  walk_at "fd"
  with_reducible refine W.of town_ix1 ?_
  refine ⟨_, rfl, ?_⟩
  with_reducible refine enum_W t (at_ kc) (fun i s hs st20 k20 => ?_) (fun r4 st20 k20 hr4 he20 => ?_)
  · refine v_gT (ds := [iD i, stD s]) rfl rfl ?_
    walk_at "fd"
    with_reducible refine W.of st_sl ?_
    with_reducible refine W.of s_in2 ?_
    walk_at "fd"
    rw [show id (decide ((s.1 : Int) = kc) || decide ((s.2.1 : Int) = kc)) = at_ kc s from at_eq kc s]
    refine v_ite (fun e => ?_) (fun e => ?_)
    · refine ⟨e, ?_⟩
      walk_at "fd"
      exact ⟨Kx.refl, rfl⟩
    · exact ⟨Kx.refl, e⟩
  walk_at "fd"
  with_reducible refine W.of (s_tuple (seq_lst he20)) ?_
  walk_at "fd"
  with_reducible refine W.of (htxt3 _) ?_
  with_reducible refine W.of s_neStr ?_
  walk_at "fd"
  have k1720 := k19.trans k20
  have p20 := p17.keep k1720
  have hcor20 := k1720.at hcor17 (by simp)
  have he21 := k1720.at he18 (by simp)
  have k21 := k18.trans k1720.nil
  clear hcor17 he18 p17 k18 k19 k20 k1720 he20 htxt3 hr4
  -- a lot
  have sqc : ∀ {st' : Sto}, st'[rc]? = some (.lst (rangeD 0 n)) → seqOf (.ref rc) st' = some (rangeD 0 n) := fun h => seq_lst h
  with_reducible refine W.of (s_lenq (sqc hcor20)) ?_
  walk_at "fd"
  rw [rangeD_len]
  with_reducible refine take_W p20 (by omega) (by omega) (by omega) fun kl st22 hl0 hl1 p22 k22 => ?_
  walk_at "fd"
  obtain ⟨w, rfl⟩ : ∃ w : Nat, kl = (w : Int) := ⟨kl.toNat, by omega⟩
  have hcor22 := k22.at hcor20 (by simpa using cnp)
  have he22 := k22.at he21 (by simpa using rnp)
  have k23 := k21.trans k22
  clear hcor20 he21 p20 k21 k22
  with_reducible refine some_W (w := w) p22 (by omega) (sqc hcor22) (by rw [rangeD_len]; omega) (by rw [rangeD_len]; omega) fun ys zs st24 b pm l2 p24 k24 hb eb => ?_
  rw [rangeD_iD] at pm
  obtain ⟨js, rfl, nd, mem⟩ := drawn List.nodup_range pm
  have eb' : st24[b]? = some (.lst ((js.map fun k : Nat => (k : Int)).map D.int)) := by rw [eb, List.map_map]; rfl
  obtain ⟨lot, eL, pw, ml⟩ := sortN nd
  walk_at "fd"
  with_reducible refine W.of (s_sorted (lst_lst eb')) ?_
  walk_at "fd"
  with_reducible refine W.of (s_tuple (seq_lst get_new)) ?_
  rw [eL, List.map_map]
  walk_at "fd"
  have hlt : ∀ x ∈ lot, x < n := fun x hx => List.mem_range.mp (mem x ((ml x).mp hx))
  have hll : lot.length ≤ 1000 := by have := nodup_len n lot (pw.imp fun {a b} z => Nat.ne_of_lt z) hlt; omega
  have hcor25 := (k24.at hcor22 (by simpa using cnp))
  have he25 := (k24.at he22 (by simpa using rnp))
  have k25 : Kx [p] st (st24 ++ [O.lst (lot.map (D.int ∘ fun k : Nat => (k : Int)))]) := (k23.trans k24).push _
  have p25 : Pot p (c + 2 + 4 * s + 1 + 1 + w) (st24 ++ [O.lst (lot.map (D.int ∘ fun k : Nat => (k : Int)))]) := p24.push _
  have hcor26 := (Kx.app (S := []) [O.lst (lot.map (D.int ∘ fun k : Nat => (k : Int)))]).at hcor25 (by simp)
  have he26 := (Kx.app (S := []) [O.lst (lot.map (D.int ∘ fun k : Nat => (k : Int)))]).at he25 (by simp)
  generalize st24 ++ [O.lst (lot.map (D.int ∘ fun k : Nat => (k : Int)))] = st26 at k25 p25 hcor26 he26 ⊢
  clear hcor22 he22 p22 k23 k24 p24 hb eb eb' hcor25 he25 pm nd mem eL ml
  have eLot : List.map (D.int ∘ fun k : Nat => (k : Int)) lot = lot.map iD := rfl
  rw [eLot]
  -- over and within
  with_reducible refine W.of town_ix1 ?_
  refine ⟨_, rfl, ?_⟩
  with_reducible refine enum_W t (crossB lot) (fun i s' hs' st27 k27 => ?_) (fun r5 st27 k27 hr5 he27 => ?_)
  · refine v_gT (ds := [iD i, stD s']) rfl rfl ?_
    walk_at "fd"
    with_reducible refine W.of st_sl ?_
    refine ⟨_, rfl, ?_⟩
    with_reducible refine inner2_W (l := lot) (s := s') ?h5 ?h18 fun a xs st28 k28 hx hl => ?_
    (case h5 => rfl); (case h18 => show 18 < 19; decide)
    walk_at "fd"
    with_reducible refine W.of (s_lenq (seq_lst hx)) ?_
    walk_at "fd"
    rw [hl, ins_one]
    refine v_ite (fun e => ?_) (fun e => ?_)
    · refine ⟨e, ?_⟩
      walk_at "fd"
      exact ⟨k28, rfl⟩
    · exact ⟨k28, e⟩
  walk_at "fd"
  with_reducible refine W.of (s_tuple (seq_lst he27)) ?_
  walk_at "fd"
  with_reducible refine W.of town_ix1 ?_
  refine ⟨_, rfl, ?_⟩
  with_reducible refine enum_W t (insideB lot) (fun i s' hs' st28 k28 => ?_) (fun r6 st28 k28 hr6 he28 => ?_)
  · refine v_gT (ds := [iD i, stD s']) rfl rfl ?_
    walk_at "fd"
    with_reducible refine W.of st_sl ?_
    refine ⟨_, rfl, ?_⟩
    with_reducible refine inner2_W (l := lot) (s := s') ?h5 ?h18 fun a xs st29 k29 hx hl => ?_
    (case h5 => rfl); (case h18 => show 18 < 19; decide)
    walk_at "fd"
    with_reducible refine W.of (s_lenq (seq_lst hx)) ?_
    walk_at "fd"
    rw [hl, ins_two]
    refine v_ite (fun e => ?_) (fun e => ?_)
    · refine ⟨e, ?_⟩
      walk_at "fd"
      exact ⟨k29, rfl⟩
    · exact ⟨k29, e⟩
  walk_at "fd"
  with_reducible refine W.of (s_tuple (seq_lst he28)) ?_
  walk_at "fd"
  with_reducible refine across_W t hll pw hlt fun st29 k29 => ?_
  walk_at "fd"
  with_reducible refine inside_W t hll pw hlt fun st30 k30 => ?_
  walk_at "fd"
  obtain ⟨txt4, htxt4⟩ := pv_repr (pv_pair (d := 2) (pv_places few (p := crossB lot)) (pv_places few (p := insideB lot)))
  with_reducible refine W.of (htxt4 _) ?_
  walk_at "fd"
  with_reducible refine W.of (htxt4 _) ?_
  with_reducible refine W.of s_neStr ?_
  walk_at "fd"
  have k2630 := ((k27.trans k28).trans k29).trans k30
  have he31 := k2630.at he26 (by simp)
  refine ⟨_, rfl, ?_⟩
  with_reducible refine odd_ones_W (n := n) (ss := ss) (r := r) hll hlt he31 ?h5 ?h18 fun b2 st31 k31 he32 => ?_
  (case h5 => rfl); (case h18 => show 18 < 19; decide)
  walk_at "fd"
  with_reducible refine W.of (s_lenq (seq_lst he32)) ?_
  walk_at "fd"
  with_reducible refine W.of (s_mod (by decide)) ?_
  walk_at "fd"
  have evl := lot_even t (L := lot) (pw.imp fun {a b} z => Nat.ne_of_lt z)
  have hz : ((((places ss (crossB lot)).map iD).length : Int) - (((oddL ss lot).map iD).length : Int)) % 2 = 0 := by rw [List.length_map, List.length_map]; exact par_sub evl
  rw [decide_eq_true hz]
  refine v_iff ?_
  walk_at "fd"
  have k2631 := k2630.trans k31
  have p31 := p25.keep k2631
  have k32 := k25.trans k2631.nil
  clear he26 hcor26 p25 k25 k27 k28 k29 k30 k31 k2630 k2631 he27 he28 he31 he32 htxt4 hr5 hr6 evl
  -- a bunch
  with_reducible refine v_lrg1 ?_
  walk_at "fd"
  with_reducible refine W.of town_ix1 ?_
  walk_at "fd"
  refine ⟨ss.length, by rw [List.length_map], by omega, ?_⟩
  walk_at "fd"
  have hpp : (st31 ++ [O.lst (rangeD 0 ss.length)])[st31.length]? = some (.lst (rangeD 0 ss.length)) := get_new
  have ppnp : st31.length ≠ p := by have := p31.lt; omega
  have p33 := p31.push [O.lst (rangeD 0 ss.length)]
  have k33 : Kx [p] st (st31 ++ [O.lst (rangeD 0 ss.length)]) := k32.push _
  generalize st31.length = rp at hpp ppnp ⊢
  generalize st31 ++ [O.lst (rangeD 0 ss.length)] = st33 at hpp p33 k33 ⊢
  clear k32 p31
  with_reducible refine W.of (s_lenq (seq_lst hpp)) ?_
  walk_at "fd"
  rw [rangeD_len]
  with_reducible refine take_W p33 (by omega) (by omega) (by omega) fun kb st34 hb0 hb1 p34 k34 => ?_
  walk_at "fd"
  obtain ⟨w2, rfl⟩ : ∃ w : Nat, kb = (w : Int) := ⟨kb.toNat, by omega⟩
  have hpp34 := k34.at hpp (by simpa using ppnp)
  with_reducible refine some_W (w := w2) p34 (by omega) (seq_lst hpp34) (by rw [rangeD_len]; omega) (by rw [rangeD_len]; omega) fun ys zs st35 b pm l2 p35 k35 hb eb => ?_
  rw [rangeD_iD] at pm
  obtain ⟨js, rfl, nd, mem⟩ := drawn List.nodup_range pm
  have eb' : st35[b]? = some (.lst ((js.map fun k : Nat => (k : Int)).map D.int)) := by rw [eb, List.map_map]; rfl
  obtain ⟨bun, eL, pwb, ml⟩ := sortN nd
  walk_at "fd"
  with_reducible refine W.of (s_sorted (lst_lst eb')) ?_
  walk_at "fd"
  with_reducible refine W.of (s_tuple (seq_lst get_new)) ?_
  rw [eL, List.map_map]
  walk_at "fd"
  have hbt : ∀ x ∈ bun, x < ss.length := fun x hx => List.mem_range.mp (mem x ((ml x).mp hx))
  have hbl : bun.length ≤ 1000 := by have := nodup_len ss.length bun (pwb.imp fun {a b} z => Nat.ne_of_lt z) hbt; omega
  have hpp35 := (Kx.app (S := []) [O.lst (bun.map (D.int ∘ fun k : Nat => (k : Int)))]).at (k35.at hpp34 (by simpa using ppnp)) (by simp)
  have p36 := p35.push [O.lst (bun.map (D.int ∘ fun k : Nat => (k : Int)))]
  have k36 : Kx [p] st (st35 ++ [O.lst (bun.map (D.int ∘ fun k : Nat => (k : Int)))]) := ((k33.trans k34).trans k35).push _
  have eBun : List.map (D.int ∘ fun k : Nat => (k : Int)) bun = bun.map iD := rfl
  rw [eBun] at hpp35 p36 k36 ⊢
  generalize st35 ++ [O.lst (bun.map iD)] = st36 at hpp35 p36 k36 ⊢
  clear hpp hpp34 p33 p34 p35 k33 k34 k35 hb eb eb' pm nd mem eL ml
  with_reducible refine part_W t hbl pwb hbt fun st37 k37 => ?_
  walk_at "fd"
  have ts := t.sel pwb hbt
  obtain ⟨txt5, htxt5⟩ := pv_repr (pv_town ts)
  have htxt5' : ∀ st, opRepr [.tup [iD n, .tup ((sel ss bun).map stD)]] st = .ok (.str txt5) st := htxt5
  with_reducible refine W.of (htxt5 _) ?_
  walk_at "fd"
  with_reducible refine W.of town_ix0 ?_
  walk_at "fd"
  refine ⟨_, rfl, ?_⟩
  refine lcGo_mp (S := []) (st0 := st37) bun iD (fun k => (ss[k]?).map stD) rfl (Nat.le_trans hbl (by decide)) (Nat.le_refl _) (by simp) (fun _ _ => rfl) (fun k hk st38 kx hn => ?_) (fun st38 k38 he38 => ?_) (Kx.app _) get_new
  · walk_at "fd"
    with_reducible refine W.of town_ix1 ?_
    walk_at "fd"
    with_reducible refine W.of (s_ixt (atI_nat (getSS (hbt k hk)))) ?_
    refine ⟨Kx.refl, ?_⟩
    rw [List.getElem?_eq_getElem (hbt k hk)]
    rfl
  walk_at "fd"
  rw [sel_fm] at he38
  with_reducible refine W.of (s_tuple (seq_lst he38)) ?_
  walk_at "fd"
  with_reducible refine W.of (htxt5' _) ?_
  with_reducible refine W.of s_neStr ?_
  walk_at "fd"
  with_reducible refine odd_by_W t hbl pwb hbt fun st39 k39 => ?_
  walk_at "fd"
  obtain ⟨txt6, htxt6⟩ := pv_repr (v := .tup ((odds n (sel ss bun)).map iD)) (pv_odds hn)
  with_reducible refine W.of (htxt6 _) ?_
  walk_at "fd"
  with_reducible refine law_odd_by_W t hbl hbt fun st40 k40 => ?_
  walk_at "fd"
  with_reducible refine W.of (htxt6 _) ?_
  with_reducible refine W.of s_neStr ?_
  walk_at "fd"
  have k3640 := ((k37.trans k38).trans k39).trans k40
  have hpp40 := k3640.at hpp35 (by simp)
  with_reducible refine W.of (s_tuple (seq_lst hpp40)) ?_
  walk_at "fd"
  rw [rangeD_iD]
  with_reducible refine odd_by_W t (by rw [List.length_range]; omega) List.pairwise_lt_range (fun k hk => List.mem_range.mp hk) fun st41 k41 => ?_
  walk_at "fd"
  rw [sel_all]
  with_reducible refine odd_W t fun st42 k42 => ?_
  with_reducible refine W.of s_neSame ?_
  walk_at "fd"
  have p42 := ((p36.keep k3640).keep k41).keep k42
  have k43 := ((k36.trans k3640.nil).trans k41.nil).trans k42.nil
  clear hpp35 hpp40 p36 k36 k37 k38 k39 k40 k41 k42 k3640 he38 htxt5 htxt5' htxt6
  refine tail_W t p42 (by omega) fun st43 p43 k44 => ?_
  walk_at "fd"
  exact q st43 (p43.mono (by omega)) (k43.trans k44)
end Lk10
end
section
set_option Elab.async false
set_option linter.all false
set_option maxRecDepth 100000
set_option maxHeartbeats 4000000
namespace Lk10
open PySem Fd L2
local macro_rules | `(tactic| walk_at "fd1") => `(tactic| with_reducible first
  | refine v_mSeq ?_ | refine v_m2 ?_ | refine v_mVar rfl ?_ | refine v_mC ?_ | refine v_mN ?_ | refine v_mCons ?_ | refine v_mNil ?_ | refine v_m1 ?_ | refine v_mB ?_ | refine v_mIfS ?_ | refine v_mAsg ?_ | refine v_mRet ?_ | refine v_gN ?_ | refine v_gS ?_
  | refine v_mNext ?_ | refine v_mAndV ?_ | refine v_mOrV ?_ | refine v_mNotV ?_ | refine v_mAnd ?_ | refine v_mOr ?_ | refine v_mNot ?_ | refine v_mIf ?_ | refine v_mChn ?_ | refine v_lkLast ?_ | refine v_lkCons ?_ | refine v_mSl ?_ | refine v_mPartN ?_ | refine v_mPartS ?_ | refine v_mSlS ?_ | refine v_mM ?_
  | refine v_mDnew ?_ | refine v_mPnil ?_ | refine v_mPair ?_ | refine v_mDrop ?_ | refine v_mRetN ?_ | refine v_mPar2 ?_ | refine v_mPar3 ?_ | refine v_mFor ?_ | refine v_mLc ?_ | refine v_mIt ?_ | refine v_mEnum ?_ | refine v_mRng ?_ | refine v_gsNil ?_ | refine v_gsCons ?_ | refine v_yes ?_
  | refine v_endN ?_ | refine v_endR ?_ | refine v_nx ?_ | refine v_rt ?_ | refine v_bl ?_ | refine v_kin ?_ | refine v_itt ?_ | refine v_iff ?_
  | refine W.of s_add ?_ | refine W.of s_sub ?_ | refine W.of (s_i2 _) ?_ | refine W.of s_int ?_ | refine W.of s_intb ?_ | refine W.of s_abs ?_ | refine W.of s_neg ?_ | refine W.of s_eqi ?_ | refine W.of s_nei ?_ | refine W.of s_eqb ?_ | refine W.of s_neb ?_ | refine W.of s_lent ?_ | refine W.of s_lenr ?_ | refine W.of s_max2 ?_ | refine W.of s_min2 ?_ | refine W.of s_nT0 ?_ | refine W.of s_nL0 ?_ | refine W.of s_nT1 ?_ | refine W.of s_nL1 ?_ | refine W.of s_nT2 ?_ | refine W.of s_nL2 ?_ | refine W.of s_nT3 ?_ | refine W.of s_nL3 ?_ | refine W.of s_nT4 ?_ | refine W.of s_nL4 ?_ | refine W.of s_nT5 ?_ | refine W.of s_nL5 ?_)
local macro_rules | `(tactic| walk_at "fd") => `(tactic| repeat walk_at "fd1")
theorem ite01 (b : Bool) : (if b = true then (1 : Int) else 0).natAbs < 18446744073709551616 := by cases b <;> decide
theorem cells_W {ls : List Int} {st : Sto} {Q : D → Sto → Prop} (q : ∀ n : Nat, n ≤ 3 → Q (.ref st.length) (st ++ [.lst (rangeD 0 n)])) : W (g__law_cells [.rol (ls.map D.int), .int 3] st) Q := by
  unfold g__law_cells m__law_cells
  with_reducible refine v_fnD rfl ?_
  walk_at "fd"
  with_reducible refine v_lrg1 ?_
  walk_at "fd"
  refine ⟨max 1 (min ls.length 3), ?_, ?_, ?_⟩
  · rw [List.length_map]
    congr 1
    split <;> split <;> omega
  · omega
  · exact q _ (by omega)
theorem pot_W {ls : List Int} {i : Nat} {st : Sto} (hi : i < 3) {Q : D → Sto → Prop} (q : ∀ st', Pot st.length 0 st' → Kx [] st st' → Q (.ref st.length) st') : W (g__law_pot [.rol (ls.map D.int), .int i] st) Q := by
  unfold g__law_pot m__law_pot
  with_reducible refine v_fnD rfl ?_
  walk_at "fd"
  refine v_ite (fun e => ?_) (fun e => ?_)
  · have e' : i < ls.length := by have := of_decide_eq_true e; rw [List.length_map] at this; omega
    walk_at "fd"
    refine W.of (s_ixr (d := .int ls[i]) (atI_nat (by rw [List.getElem?_map, List.getElem?_eq_getElem e']; rfl))) ?_
    generalize ls[i] = v
    walk_at "fd"
    with_reducible refine W.of (s_pow (i := 10) (j := 60) (by decide)) ?_
    walk_at "fd"
    with_reducible refine W.of (s_pow (by decide +kernel)) ?_
    with_reducible refine W.of (s_mod (by decide +kernel)) ?_
    walk_at "fd"
    with_reducible refine W.of (s_pow (i := 10) (j := 18) (by decide)) ?_
    walk_at "fd"
    with_reducible refine W.of (s_mul (mulOk_r (ite01 _))) ?_
    walk_at "fd"
    with_reducible refine W.of (s_mod (by decide)) ?_
    walk_at "fd"
    with_reducible refine W.of (s_mul (mulOk_r (by decide))) ?_
    walk_at "fd"
    with_reducible refine W.of (s_mul (mulOk_l (by decide))) ?_
    walk_at "fd"
    with_reducible refine W.of (s_mul (mulOk_r (by omega))) ?_
    walk_at "fd"
    with_reducible refine W.of (s_mod (by decide)) ?_
    walk_at "fd"
    exact q _ ⟨_, _, _, get_new, Int.emod_nonneg _ (by decide), Int.lt_of_lt_of_le (Int.emod_lt_of_pos _ (by decide)) (by decide), Int.le_refl _, Int.le_refl _⟩ (Kx.app _)
  · walk_at "fd"
    with_reducible refine W.of (s_mul (mulOk_l (by decide))) ?_
    walk_at "fd"
    generalize 701 * (i : Int) + 563 = v
    walk_at "fd"
    with_reducible refine W.of (s_pow (i := 10) (j := 60) (by decide)) ?_
    walk_at "fd"
    with_reducible refine W.of (s_pow (by decide +kernel)) ?_
    with_reducible refine W.of (s_mod (by decide +kernel)) ?_
    walk_at "fd"
    with_reducible refine W.of (s_pow (i := 10) (j := 18) (by decide)) ?_
    walk_at "fd"
    with_reducible refine W.of (s_mul (mulOk_r (ite01 _))) ?_
    walk_at "fd"
    with_reducible refine W.of (s_mod (by decide)) ?_
    walk_at "fd"
    with_reducible refine W.of (s_mul (mulOk_r (by decide))) ?_
    walk_at "fd"
    with_reducible refine W.of (s_mul (mulOk_l (by decide))) ?_
    walk_at "fd"
    with_reducible refine W.of (s_mul (mulOk_r (by omega))) ?_
    walk_at "fd"
    with_reducible refine W.of (s_mod (by decide)) ?_
    walk_at "fd"
    exact q _ ⟨_, _, _, get_new, Int.emod_nonneg _ (by decide), Int.lt_of_lt_of_le (Int.emod_lt_of_pos _ (by decide)) (by decide), Int.le_refl _, Int.le_refl _⟩ (Kx.app _)
theorem Kx.inner {p : Nat} {st st1 st2 : Sto} (a : Kx [] st st1) (b : Kx [p] st1 st2) (h : st.length ≤ p) : Kx [] st st2 := ⟨Nat.le_trans a.1 b.1, fun n h1 h2 => (b.2 n (Nat.lt_of_lt_of_le h1 a.1) (by simp; omega)).trans (a.2 n h1 h2)⟩
theorem law_W {ls : List Int} {st : Sto} {Q : D → Sto → Prop} (q : ∀ st', Q (.bl true) st') : W (g_law [.rol (ls.map D.int)] st) Q := by
  unfold g_law m_law
  with_reducible refine v_fnD rfl ?_
  walk_at "fd"
  with_reducible refine cells_W fun n hn => ?_
  refine ⟨_, src_lst get_new, ?_⟩
  have ep : (st ++ [O.lst (rangeD 0 n)])[st.length]? = some (.lst (rangeD 0 n)) := get_new
  generalize st ++ [O.lst (rangeD 0 n)] = st1 at ep ⊢
  generalize st.length = rp at ep ⊢
  refine (forGo_W (gs := [(rp, rangeD 0 n)]) (items := rangeD 0 n) (Q := fun o st' => ∃ μ, o = .nx μ) (fun i μ st' => Kx [] st1 st' ∧ ∃ x y : Option D, μ = [some (.rol (ls.map D.int)), x, y, none]) ?_ ?_ 0 _ st1 (Nat.zero_le _) ⟨Kx.refl, none, none, rfl⟩).mono ?_
  · rintro i v μ st2 hv ⟨k2, x, y, rfl⟩
    have hi : i < n := by have := (List.getElem?_eq_some_iff.mp hv).1; rw [rangeD_len] at this; exact this
    rw [rangeD_get hi, Int.zero_add] at hv
    obtain rfl : iD i = v := Option.some.inj hv
    refine ⟨gok_one (k2.at ep (by simp)), ?_⟩
    walk_at "fd"
    with_reducible refine pot_W (by omega) fun st3 p3 k3 => ?_
    walk_at "fd"
    have kp := k2.1
    generalize st2.length = p at p3 kp ⊢
    have plt := p3.lt
    with_reducible refine W.of (s_rng1 (i := 3) (by decide) (by decide)) ?_
    refine lcGo_W (items := rangeD 0 (3 : Int).toNat) (fun j acc st' => Kx [p] st3 st' ∧ Pot p (600 * j) st' ∧ acc = (List.replicate j true).map D.bl ∧ j ≤ 3) ?_ ?_ 0 [] _ (Nat.zero_le _) ⟨Kx.app _, p3.push _, rfl, by omega⟩ get_new
    · rintro j z acc st5 hz ⟨k5, p5, ea, hj⟩ ha
      have hj3 : j < 3 := by have := (List.getElem?_eq_some_iff.mp hz).1; rw [rangeD_len] at this; exact this
      refine ⟨rfl, ?_⟩
      walk_at "fd"
      refine law_right_W (m := 8) (s := 14) p5 (by omega) (by omega) (by omega) (by omega) fun st6 p6 k6 => ?_
      have ha6 := k6.at ha (by simp; omega)
      refine ⟨ha6, by rw [ea, List.length_map, List.length_replicate]; exact Nat.lt_of_lt_of_le hj3 (by decide), (k5.trans k6).set (.inr (Nat.le_refl _)), (p6.mono (by omega)).set (by omega), ?_, by omega⟩
      rw [ea, List.replicate_succ', List.map_append]
      rfl
    · rintro acc st5 ⟨k5, p5, ea, hj⟩ ha
      rw [show (rangeD 0 (3 : Int).toNat).length = 3 by rw [rangeD_len]; rfl] at ea p5
      refine ⟨rfl, ?_⟩
      rw [ea] at ha
      walk_at "fd"
      with_reducible refine W.of (s_all ha) ?_
      walk_at "fd"
      rw [show (List.replicate 3 true).all id = true from rfl]
      refine v_iff ?_
      walk_at "fd"
      refine law_right_W (m := 12) (s := 40) p5 (by omega) (by omega) (by omega) (by omega) fun st6 p6 k6 => ?_
      walk_at "fd"
      exact ⟨Kx.inner (k2.trans k3) (k5.trans k6) kp, _, _, rfl⟩
  · rintro μ st2 ⟨k2, x, y, rfl⟩
    exact ⟨gok_one (k2.at ep (by simp)), _, rfl⟩
  · rintro o st2 ⟨μ, rfl⟩
    walk_at "fd"
    exact q _
theorem law_holds (ls : List Int) (h : ls.length ≤ 63) : ∃ st, Lk10.g_law [.rol (ls.map D.int)] [] = .ok (.bl true) st := by
  have := law_W (ls := ls) (st := []) (Q := fun d st => d = .bl true) fun _ => rfl
  cases e : g_law [.rol (ls.map D.int)] [] with
  | ok a st =>
    rw [e] at this
    exact ⟨st, by rw [show a = D.bl true from this]⟩
  | _ =>
    rw [e] at this
    exact this.elim
end Lk10
end
open PySem PySem.W PyProof.Rows
set_option maxRecDepth 100000 in
set_option maxHeartbeats 0 in
theorem PySem.Challenge.cw_eachstreet_k10_whole_towns_and_their_pie_holds : PySem.Challenge.rw_eachstreet_k10_whole_towns_and_their_pie.Holds := by
  w_on; o_law; k_head; (case hw => w_witness2)
  k_fill
  refine Fd.walk_fd (l := PySem.Challenge.rw_eachstreet_k10_whole_towns_and_their_pie) (n := 63) (k := 14) (x := "script") (G := fun _ => Lk10.g_law) rfl (by decide) rfl (Fd.room0 (by decide)) (fun w h Y => PySem.W.kIn_of Y) ?F (fun _ ls hl => Lk10.law_holds ls hl)
  case F =>
    intro w mg fa h KX G HX hmg
    refine Lk10.top_end ?T hmg
    refine' Lk10.top_mk KX G ?a0 ?l0 ?c0 ?k0 ?a1 ?l1 ?c1 ?k1 ?a2 ?l2 ?c2 ?k2 ?a3 ?l3 ?c3 ?k3 ?a4 ?l4 ?c4 ?k4 ?a5 ?l5 ?c5 ?k5 ?a6 ?l6 ?c6 ?k6 ?a7 ?l7 ?c7 ?k7 ?a8 ?l8 ?c8 ?k8 ?a9 ?l9 ?c9 ?k9 ?a10 ?l10 ?c10 ?k10 ?a11 ?l11 ?c11 ?k11 ?a12 ?l12 ?c12 ?k12 ?a13 ?l13 ?c13 ?k13 ?a14 ?l14 ?c14 ?k14 ?a15 ?l15 ?c15 ?k15 ?a16 ?l16 ?c16 ?k16 ?a17 ?l17 ?c17 ?k17 ?a18 ?l18 ?c18 ?k18 ?a19 ?l19 ?c19 ?k19 ?a20 ?l20 ?c20 ?k20 ?a21 ?l21 ?c21 ?k21 ?a22 ?l22 ?c22 ?k22 ?a23 ?l23 ?c23 ?k23 ?a24 ?l24 ?c24 ?k24 ?a25 ?l25 ?c25 ?k25 ?a26 ?l26 ?c26 ?k26 ?a27 ?l27 ?c27 ?k27 ?a28 ?l28 ?c28 ?k28 ?a29 ?l29 ?c29 ?k29 ?a30 ?l30 ?c30 ?k30 ?a31 ?l31 ?c31 ?k31 ?a32 ?l32 ?c32 ?k32 ?a33 ?l33 ?c33 ?k33 ?a34 ?l34 ?c34 ?k34 ?a35 ?l35 ?c35 ?k35 ?a36 ?l36 ?c36 ?k36 ?a37 ?l37 ?c37 ?k37 ?a38 ?l38 ?c38 ?k38 ?a39 ?l39 ?c39 ?k39 ?a40 ?l40 ?c40 ?k40 ?a41 ?l41 ?c41 ?k41 ?a42 ?l42 ?c42 ?k42 ?z_abs ?z_all ?z_any ?z_bool ?z_enumerate ?z_int ?z_isinstance ?z_len ?z_list ?z_max ?z_min ?z_range ?z_repr ?z_set ?z_sorted ?z_str ?z_sum ?z_tuple ?z_zip ?n_MOST_CORNERS ?n_MOST_STREETS ?n_THREE ?lo_MOST_LENGTH
    (case a0 => k_is); (case l0 => k_is); (case c0 => k_is); (case k0 => k_is); (case a1 => k_is); (case l1 => k_is); (case c1 => k_is); (case k1 => k_is); (case a2 => k_is); (case l2 => k_is); (case c2 => k_is); (case k2 => k_is); (case a3 => k_is); (case l3 => k_is); (case c3 => k_is); (case k3 => k_is); (case a4 => k_is); (case l4 => k_is); (case c4 => k_is); (case k4 => k_is); (case a5 => k_is); (case l5 => k_is); (case c5 => k_is); (case k5 => k_is); (case a6 => k_is); (case l6 => k_is); (case c6 => k_is); (case k6 => k_is); (case a7 => k_is); (case l7 => k_is); (case c7 => k_is); (case k7 => k_is); (case a8 => k_is); (case l8 => k_is); (case c8 => k_is); (case k8 => k_is); (case a9 => k_is); (case l9 => k_is); (case c9 => k_is); (case k9 => k_is); (case a10 => k_is); (case l10 => k_is); (case c10 => k_is); (case k10 => k_is); (case a11 => k_is); (case l11 => k_is); (case c11 => k_is); (case k11 => k_is); (case a12 => k_is); (case l12 => k_is); (case c12 => k_is); (case k12 => k_is); (case a13 => k_is); (case l13 => k_is); (case c13 => k_is); (case k13 => k_is); (case a14 => k_is); (case l14 => k_is); (case c14 => k_is); (case k14 => k_is); (case a15 => k_is); (case l15 => k_is); (case c15 => k_is); (case k15 => k_is); (case a16 => k_is); (case l16 => k_is); (case c16 => k_is); (case k16 => k_is); (case a17 => k_is); (case l17 => k_is); (case c17 => k_is); (case k17 => k_is); (case a18 => k_is); (case l18 => k_is); (case c18 => k_is); (case k18 => k_is); (case a19 => k_is); (case l19 => k_is); (case c19 => k_is); (case k19 => k_is); (case a20 => k_is); (case l20 => k_is); (case c20 => k_is); (case k20 => k_is); (case a21 => k_is); (case l21 => k_is); (case c21 => k_is); (case k21 => k_is); (case a22 => k_is); (case l22 => k_is); (case c22 => k_is); (case k22 => k_is); (case a23 => k_is); (case l23 => k_is); (case c23 => k_is); (case k23 => k_is); (case a24 => k_is); (case l24 => k_is); (case c24 => k_is); (case k24 => k_is); (case a25 => k_is); (case l25 => k_is); (case c25 => k_is); (case k25 => k_is); (case a26 => k_is); (case l26 => k_is); (case c26 => k_is); (case k26 => k_is); (case a27 => k_is); (case l27 => k_is); (case c27 => k_is); (case k27 => k_is); (case a28 => k_is); (case l28 => k_is); (case c28 => k_is); (case k28 => k_is); (case a29 => k_is); (case l29 => k_is); (case c29 => k_is); (case k29 => k_is); (case a30 => k_is); (case l30 => k_is); (case c30 => k_is); (case k30 => k_is); (case a31 => k_is); (case l31 => k_is); (case c31 => k_is); (case k31 => k_is); (case a32 => k_is); (case l32 => k_is); (case c32 => k_is); (case k32 => k_is); (case a33 => k_is); (case l33 => k_is); (case c33 => k_is); (case k33 => k_is); (case a34 => k_is); (case l34 => k_is); (case c34 => k_is); (case k34 => k_is); (case a35 => k_is); (case l35 => k_is); (case c35 => k_is); (case k35 => k_is); (case a36 => k_is); (case l36 => k_is); (case c36 => k_is); (case k36 => k_is); (case a37 => k_is); (case l37 => k_is); (case c37 => k_is); (case k37 => k_is); (case a38 => k_is); (case l38 => k_is); (case c38 => k_is); (case k38 => k_is); (case a39 => k_is); (case l39 => k_is); (case c39 => k_is); (case k39 => k_is); (case a40 => k_is); (case l40 => k_is); (case c40 => k_is); (case k40 => k_is); (case a41 => k_is); (case l41 => k_is); (case c41 => k_is); (case k41 => k_is); (case a42 => k_is); (case l42 => k_is); (case c42 => k_is); (case k42 => k_is); (case z_abs => k_is); (case z_all => k_is); (case z_any => k_is); (case z_bool => k_is); (case z_enumerate => k_is); (case z_int => k_is); (case z_isinstance => k_is); (case z_len => k_is); (case z_list => k_is); (case z_max => k_is); (case z_min => k_is); (case z_range => k_is); (case z_repr => k_is); (case z_set => k_is); (case z_sorted => k_is); (case z_str => k_is); (case z_sum => k_is); (case z_tuple => k_is); (case z_zip => k_is); (case n_MOST_CORNERS => k_is); (case n_MOST_STREETS => k_is); (case n_THREE => k_is)
    (case lo_MOST_LENGTH => exact Fd.loose_int HX (by first | exact List.mem_cons_self | simp))
