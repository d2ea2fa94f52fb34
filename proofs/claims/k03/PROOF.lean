import PyProof.Rows.All
import Wide.All
import OpenK.AllK
import Wide.FinOn
import HandS.ForMost
import HandS.ForExc
import HandS.TupAny
import HandS.Deep
import HandS.IsInst
import HandS.TupSets
import HandS.Walk
import HandS.Zip
import KE.GoesMore
import KE.SortData
import KE.DataMinMax
import PySem.Challenge.RW_leastcross_k03_pairs
set_option Elab.async false
set_option linter.all false
set_option maxRecDepth 100000
set_option maxHeartbeats 4000000
namespace Rf
open PySem PySem.Spec PyProof.Rows L2

/-! ### data, stores -/
inductive D where
  | non | bl (b : Bool) | int (i : Int) | str (x : Str) | ty (n : String)
  | tup (ds : List D) | lst (ds : List D) | fz (ds : List D) | cell (n : Nat)
inductive Ob where
  | lst (ds : List D)
  | dK (kvs : List (Key × D))
abbrev Store := List Ob
abbrev En := List (Option D)

mutual
def pureD : D → Bool
  | .tup ds => pureL ds
  | .lst ds => pureL ds
  | .fz ds => pureL ds
  | .cell _ => false
  | .non | .bl _ | .int _ | .str _ | .ty _ => true
def pureL : List D → Bool
  | [] => true
  | d :: ds => pureD d && pureL ds
end
mutual
def below (n : Nat) : D → Prop
  | .tup ds => belowL n ds
  | .lst ds => belowL n ds
  | .fz ds => belowL n ds
  | .cell k => k < n
  | .non | .bl _ | .int _ | .str _ | .ty _ => True
def belowL (n : Nat) : List D → Prop
  | [] => True
  | d :: ds => below n d ∧ belowL n ds
end
def Ob.pure : Ob → Bool
  | .lst ds => pureL ds
  | .dK kvs => kvs.all fun p => pureD p.2

inductive Res (α : Type) where
  | ok (a : α) (S : Store)
  | err (c : Nat) (S : Store)
  | bad
inductive RS where
  | next (e : En) (S : Store)
  | ret (d : D) (S : Store)
  | brk (e : En) (S : Store)
  | cont (e : En) (S : Store)
  | err (c : Nat) (e : En) (S : Store)
  | bad
abbrev M (α : Type) := En → Store → Res α
abbrev MS := En → Store → RS

/-! ### representation -/
def WrL (K : PySem.W.Frag) (a : Addr) (xs : List V) : Prop :=
  ∃ (o : Obj) (its : Array Value) (n : Nat), K.lookup a = some o ∧ o.cls = .type "list" ∧ o.dict = none ∧ o.data = .seq its n ∧ its.size ≤ sizeLine ∧ Vals xs its.toList
def FrL (G : Addr → Prop) (ρ : List Addr) (H : Hp) (a : Addr) (vs : List V) : Prop := a ∉ ρ ∧ ¬ G a ∧ H a = some (.lst vs)
def FzL (K : PySem.W.Frag) (H : Hp) (a : Addr) (vs : List V) : Prop := (∃ o, H a = some (.frz o (.lst vs))) ∨ WrL K a vs
theorem FrL.sq {K : PySem.W.Frag} {G : Addr → Prop} {ρ : List Addr} {H : Hp} {a : Addr} {vs : List V} (h : FrL G ρ H a vs) : SqL K H a vs := .inl (.inl h.2.2)
theorem FzL.sq {K : PySem.W.Frag} {H : Hp} {a : Addr} {vs : List V} (h : FzL K H a vs) : SqL K H a vs := by
  rcases h with h | h
  · exact .inl (.inr h)
  · exact .inr h
mutual
def Rep (K : PySem.W.Frag) (G : Addr → Prop) (ρ : List Addr) (H : Hp) : D → V → Prop
  | .non, v => v = .non
  | .bl b, v => v = .bl b
  | .int i, v => v = .int i
  | .str x, v => v = .str x
  | .ty n, v => v = .ty n
  | .tup ds, v => ∃ a vs, v = .ref a ∧ SqT K H a vs ∧ RepL K G ρ H ds vs
  | .lst ds, v => ∃ a vs, v = .ref a ∧ FrL G ρ H a vs ∧ RepL K G ρ H ds vs
  | .fz ds, v => ∃ a vs, v = .ref a ∧ FzL K H a vs ∧ RepL K G ρ H ds vs
  | .cell n, v => ∃ a, v = .ref a ∧ ρ[n]? = some a
def RepL (K : PySem.W.Frag) (G : Addr → Prop) (ρ : List Addr) (H : Hp) : List D → List V → Prop
  | [], vs => vs = []
  | d :: ds, vs => ∃ v vs', vs = v :: vs' ∧ Rep K G ρ H d v ∧ RepL K G ρ H ds vs'
end

/-- what stays of the heap: tuples, the lists that are no cells, what is guarded -/
structure Keep (G : Addr → Prop) (ρ : List Addr) (H : Hp) (ρ' : List Addr) (H' : Hp) : Prop where
  pre : ∃ t, ρ' = ρ ++ t
  tup : ∀ a xs, Rd H a (.tup xs) → Rd H' a (.tup xs)
  lst : ∀ a xs, a ∉ ρ → ¬ G a → H a = some (.lst xs) → a ∉ ρ' ∧ H' a = some (.lst xs)
  frz : ∀ a o u, H a = some (.frz o u) → H' a = some (.frz o u)
  grd : ∀ a, G a → H' a = H a
section
variable {K : PySem.W.Frag} {G : Addr → Prop} {ρ ρ' ρ'' : List Addr} {H H' H'' : Hp}
theorem Keep.refl : Keep G ρ H ρ H := ⟨⟨[], by simp⟩, fun _ _ h => h, fun _ _ h _ r => ⟨h, r⟩, fun _ _ _ h => h, fun _ _ => rfl⟩
theorem Keep.trans (a : Keep G ρ H ρ' H') (b : Keep G ρ' H' ρ'' H'') : Keep G ρ H ρ'' H'' := by
  obtain ⟨t, e⟩ := a.pre
  obtain ⟨u, e'⟩ := b.pre
  refine ⟨⟨t ++ u, by rw [e', e, List.append_assoc]⟩, fun x xs h => b.tup x xs (a.tup x xs h), fun x xs h g r => ?_, fun x o u h => b.frz x o u (a.frz x o u h), fun x h => (b.grd x h).trans (a.grd x h)⟩
  obtain ⟨h1, r1⟩ := a.lst x xs h g r
  exact b.lst x xs h1 g r1
theorem Keep.sqT (k : Keep G ρ H ρ' H') {a : Addr} {xs : List V} (h : SqT K H a xs) : SqT K H' a xs := by
  rcases h with h | h
  · exact .inl (k.tup a xs h)
  · exact .inr h
theorem Keep.frL (k : Keep G ρ H ρ' H') {a : Addr} {xs : List V} (h : FrL G ρ H a xs) : FrL G ρ' H' a xs :=
  let ⟨q1, q2⟩ := k.lst a xs h.1 h.2.1 h.2.2
  ⟨q1, h.2.1, q2⟩
theorem Keep.fzL (k : Keep G ρ H ρ' H') {a : Addr} {xs : List V} (h : FzL K H a xs) : FzL K H' a xs := by
  rcases h with ⟨o, h⟩ | h
  · exact .inl ⟨o, k.frz a o _ h⟩
  · exact .inr h
theorem Keep.get (k : Keep G ρ H ρ' H') {n : Nat} {a : Addr} (h : ρ[n]? = some a) : ρ'[n]? = some a := by
  obtain ⟨t, rfl⟩ := k.pre
  have hn : n < ρ.length := (List.getElem?_eq_some_iff.mp h).1
  rw [List.getElem?_append_left hn]
  exact h
mutual
theorem Rep.keep (k : Keep G ρ H ρ' H') : ∀ (d : D) (v : V), Rep K G ρ H d v → Rep K G ρ' H' d v
  | .non, _, h => h
  | .bl _, _, h => h
  | .int _, _, h => h
  | .str _, _, h => h
  | .ty _, _, h => h
  | .tup ds, v, h => by
    obtain ⟨a, vs, e, h1, h2⟩ := h
    exact ⟨a, vs, e, k.sqT h1, RepL.keep k ds vs h2⟩
  | .lst ds, v, h => by
    obtain ⟨a, vs, e, h1, h2⟩ := h
    exact ⟨a, vs, e, k.frL h1, RepL.keep k ds vs h2⟩
  | .fz ds, v, h => by
    obtain ⟨a, vs, e, h1, h2⟩ := h
    exact ⟨a, vs, e, k.fzL h1, RepL.keep k ds vs h2⟩
  | .cell n, v, h => by
    obtain ⟨a, e, h1⟩ := h
    exact ⟨a, e, k.get h1⟩
theorem RepL.keep (k : Keep G ρ H ρ' H') : ∀ (ds : List D) (vs : List V), RepL K G ρ H ds vs → RepL K G ρ' H' ds vs
  | [], _, h => h
  | d :: ds, vs, h => by
    obtain ⟨v, vs', e, h1, h2⟩ := h
    exact ⟨v, vs', e, Rep.keep k d v h1, RepL.keep k ds vs' h2⟩
end
theorem RepL.length : ∀ {ds : List D} {vs : List V}, RepL K G ρ H ds vs → vs.length = ds.length
  | [], _, h => by rw [show _ = [] from h]; rfl
  | d :: ds, vs, h => by
    obtain ⟨v, vs', rfl, h1, h2⟩ := h
    show vs'.length + 1 = ds.length + 1
    rw [RepL.length h2]
theorem RepL.get : ∀ {ds : List D} {vs : List V} {i : Nat} {d : D}, RepL K G ρ H ds vs → ds[i]? = some d → ∃ v, vs[i]? = some v ∧ Rep K G ρ H d v
  | [], _, i, d, _, e => by simp at e
  | d0 :: ds, vs, 0, d, h, e => by
    obtain ⟨v, vs', rfl, h1, h2⟩ := h
    simp at e
    subst e
    exact ⟨v, rfl, h1⟩
  | d0 :: ds, vs, i + 1, d, h, e => by
    obtain ⟨v, vs', rfl, h1, h2⟩ := h
    obtain ⟨w, h3, h4⟩ := RepL.get (i := i) (d := d) h2 (by simpa using e)
    exact ⟨w, by simpa using h3, h4⟩
theorem RepL.app : ∀ {ds es : List D} {vs ws : List V}, RepL K G ρ H ds vs → RepL K G ρ H es ws → RepL K G ρ H (ds ++ es) (vs ++ ws)
  | [], es, vs, ws, h, h' => by rw [show vs = [] from h]; exact h'
  | d :: ds, es, vs, ws, h, h' => by
    obtain ⟨v, vs', rfl, h1, h2⟩ := h
    exact ⟨v, vs' ++ ws, rfl, h1, RepL.app h2 h'⟩
theorem RepL.snoc {ds : List D} {vs : List V} {d : D} {v : V} (h : RepL K G ρ H ds vs) (h1 : Rep K G ρ H d v) : RepL K G ρ H (ds ++ [d]) (vs ++ [v]) :=
  RepL.app h ⟨v, [], rfl, h1, rfl⟩
theorem RepL.take : ∀ (n : Nat) {ds : List D} {vs : List V}, RepL K G ρ H ds vs → RepL K G ρ H (ds.take n) (vs.take n)
  | 0, ds, vs, h => by simp [RepL]
  | n + 1, [], vs, h => by rw [show vs = [] from h]; simp [RepL]
  | n + 1, d :: ds, vs, h => by
    obtain ⟨v, vs', rfl, h1, h2⟩ := h
    exact ⟨v, vs'.take n, rfl, h1, RepL.take n h2⟩
theorem RepL.drop : ∀ (n : Nat) {ds : List D} {vs : List V}, RepL K G ρ H ds vs → RepL K G ρ H (ds.drop n) (vs.drop n)
  | 0, ds, vs, h => h
  | n + 1, [], vs, h => by rw [show vs = [] from h]; simp [RepL]
  | n + 1, d :: ds, vs, h => by
    obtain ⟨v, vs', rfl, h1, h2⟩ := h
    exact RepL.drop n h2
theorem RepL.set : ∀ (n : Nat) {ds : List D} {vs : List V} {d : D} {v : V}, RepL K G ρ H ds vs → Rep K G ρ H d v → RepL K G ρ H (ds.set n d) (vs.set n v)
  | _, [], vs, _, _, h, _ => by rw [show vs = [] from h]; simp [RepL]
  | 0, d0 :: ds, vs, d, v, h, h0 => by
    obtain ⟨w, vs', rfl, h1, h2⟩ := h
    exact ⟨v, vs', rfl, h0, h2⟩
  | n + 1, d0 :: ds, vs, d, v, h, h0 => by
    obtain ⟨w, vs', rfl, h1, h2⟩ := h
    exact ⟨w, vs'.set n v, rfl, h1, RepL.set n h2 h0⟩
theorem RepL.reverse {ds : List D} {vs : List V} (h : RepL K G ρ H ds vs) : RepL K G ρ H ds.reverse vs.reverse := by
  induction ds generalizing vs with
  | nil => rw [show vs = [] from h]; simp [RepL]
  | cons d ds ih =>
    obtain ⟨v, vs', rfl, h1, h2⟩ := h
    rw [List.reverse_cons, List.reverse_cons]
    exact (ih h2).snoc h1
theorem RepL.eraseIdx : ∀ (n : Nat) {ds : List D} {vs : List V}, RepL K G ρ H ds vs → RepL K G ρ H (ds.eraseIdx n) (vs.eraseIdx n)
  | _, [], vs, h => by rw [show vs = [] from h]; simp [RepL]
  | 0, d :: ds, vs, h => by
    obtain ⟨v, vs', rfl, h1, h2⟩ := h
    exact h2
  | n + 1, d :: ds, vs, h => by
    obtain ⟨v, vs', rfl, h1, h2⟩ := h
    exact ⟨v, vs'.eraseIdx n, rfl, h1, RepL.eraseIdx n h2⟩

/-! ### the store -/
def RepKV (K : PySem.W.Frag) (G : Addr → Prop) (ρ : List Addr) (H : Hp) : List (Key × D) → List (Key × V) → Prop
  | [], vs => vs = []
  | (k, d) :: r, vs => ∃ v vs', vs = (k, v) :: vs' ∧ Rep K G ρ H d v ∧ RepKV K G ρ H r vs'
def ObRep (K : PySem.W.Frag) (G : Addr → Prop) (ρ : List Addr) (H : Hp) : Ob → Addr → Prop
  | .lst ds, a => ∃ vs, H a = some (.lst vs) ∧ RepL K G ρ H ds vs
  | .dK kvs, a => ∃ vs, H a = some (.dK vs) ∧ RepKV K G ρ H kvs vs
theorem RepKV.keep (k : Keep G ρ H ρ' H') : ∀ (ds : List (Key × D)) (vs : List (Key × V)), RepKV K G ρ H ds vs → RepKV K G ρ' H' ds vs
  | [], _, h => h
  | (x, d) :: ds, vs, h => by
    obtain ⟨v, vs', e, h1, h2⟩ := h
    exact ⟨v, vs', e, Rep.keep k d v h1, RepKV.keep k ds vs' h2⟩
structure RelS (K : PySem.W.Frag) (G : Addr → Prop) (ρ : List Addr) (S : Store) (H : Hp) : Prop where
  len : ρ.length = S.length
  nd : ρ.Nodup
  ng : ∀ a ∈ ρ, ¬ G a
  gt : ∀ a, G a → ∃ u, H a = some u
  ob : ∀ (i : Nat) (o : Ob) (a : Addr), S[i]? = some o → ρ[i]? = some a → ObRep K G ρ H o a
theorem RelS.at (r : RelS K G ρ S H) {i : Nat} {o : Ob} (h : S[i]? = some o) : ∃ a, ρ[i]? = some a ∧ ObRep K G ρ H o a := by
  have hi : i < ρ.length := by rw [r.len]; exact (List.getElem?_eq_some_iff.mp h).1
  exact ⟨ρ[i], by rw [List.getElem?_eq_getElem hi], r.ob i o _ h (by rw [List.getElem?_eq_getElem hi])⟩
/-- what is laid at a free place -/
theorem Keep.new {p : Addr} {o : HO} (hn : H p = none) (hg : ∀ a, G a → ∃ u, H a = some u) : Keep G ρ H ρ (upd H p o) := by
  refine ⟨⟨[], by simp⟩, fun a xs h => ?_, fun a xs h1 h2 h => ⟨h1, by rw [upd_ne (ne_of_none h hn)]; exact h⟩, fun a o u h => by rw [upd_ne (ne_of_none h hn)]; exact h, fun a h => ?_⟩
  · rcases h with h | ⟨ob, h⟩
    · exact .inl (by rw [upd_ne (ne_of_none h hn)]; exact h)
    · exact .inr ⟨ob, by rw [upd_ne (ne_of_none h hn)]; exact h⟩
  · obtain ⟨u, e⟩ := hg a h
    rw [upd_ne (ne_of_none e hn)]
theorem RelS.keep_at (r : RelS K G ρ S H) (k : Keep G ρ H ρ H') (same : ∀ a ∈ ρ, H' a = H a) : RelS K G ρ S H' := by
  refine ⟨r.len, r.nd, r.ng, fun a h => by rw [k.grd a h]; exact r.gt a h, fun i o a h1 h2 => ?_⟩
  have := r.ob i o a h1 h2
  cases o with
  | lst ds =>
    obtain ⟨vs, e, h⟩ := this
    exact ⟨vs, by rw [same a (List.mem_of_getElem? h2)]; exact e, RepL.keep k ds vs h⟩
  | dK kvs =>
    obtain ⟨vs, e, h⟩ := this
    exact ⟨vs, by rw [same a (List.mem_of_getElem? h2)]; exact e, RepKV.keep k kvs vs h⟩
theorem ObRep.there {o : Ob} {a : Addr} (h : ObRep K G ρ H o a) : ∃ u, H a = some u := by
  cases o with
  | lst ds => obtain ⟨vs, e, _⟩ := h; exact ⟨_, e⟩
  | dK kvs => obtain ⟨vs, e, _⟩ := h; exact ⟨_, e⟩
theorem RelS.there (r : RelS K G ρ S H) {a : Addr} (h : a ∈ ρ) : ∃ u, H a = some u := by
  obtain ⟨i, hi, e⟩ := List.getElem_of_mem h
  have hS : i < S.length := by rw [← r.len]; exact hi
  exact (r.ob i S[i] a (by rw [List.getElem?_eq_getElem hS]) (by rw [List.getElem?_eq_getElem hi, e])).there
theorem RelS.fresh (r : RelS K G ρ S H) {p : Addr} (hn : H p = none) : p ∉ ρ := fun h => by
  obtain ⟨u, e⟩ := r.there h
  rw [hn] at e
  cases e
theorem RelS.new (r : RelS K G ρ S H) {p : Addr} {o : HO} (hn : H p = none) : RelS K G ρ S (upd H p o) :=
  r.keep_at (Keep.new hn r.gt) fun a ha => upd_ne fun e => r.fresh hn (e ▸ ha)
theorem RelS.ngn (r : RelS K G ρ S H) {p : Addr} (hn : H p = none) : ¬ G p := fun h => by
  obtain ⟨u, e⟩ := r.gt p h
  rw [hn] at e
  cases e
/-- a new cell -/
theorem Keep.cell {p : Addr} {o : HO} (hn : H p = none) (hg : ∀ a, G a → ∃ u, H a = some u) : Keep G ρ H (ρ ++ [p]) (upd H p o) := by
  have k : Keep G ρ H ρ (upd H p o) := Keep.new hn hg
  refine ⟨⟨[p], rfl⟩, k.tup, fun a xs h1 h2 h => ⟨?_, (k.lst a xs h1 h2 h).2⟩, k.frz, k.grd⟩
  simp [h1, ne_of_none h hn]
theorem RelS.alloc (r : RelS K G ρ S H) {p : Addr} {o : Ob} {u : HO} (hn : H p = none) (ho : ObRep K G (ρ ++ [p]) (upd H p u) o p) : RelS K G (ρ ++ [p]) (S ++ [o]) (upd H p u) := by
  have k : Keep G ρ H (ρ ++ [p]) (upd H p u) := Keep.cell hn r.gt
  have np := r.fresh hn
  refine ⟨by simp [r.len], ?_, fun a ha => ?_, fun a h => by rw [k.grd a h]; exact r.gt a h, fun i o' a h1 h2 => ?_⟩
  · rw [List.nodup_append]
    refine ⟨r.nd, by simp, fun a ha b hb => ?_⟩
    rintro rfl
    simp at hb
    exact np (hb ▸ ha)
  · rcases List.mem_append.mp ha with h | h
    · exact r.ng a h
    · simp at h; rw [h]; exact r.ngn hn
  · by_cases hi : i < S.length
    · rw [List.getElem?_append_left hi] at h1
      rw [List.getElem?_append_left (by rw [r.len]; exact hi)] at h2
      have hne : a ≠ p := fun e => np (e ▸ List.mem_of_getElem? h2)
      have := r.ob i o' a h1 h2
      cases o' with
      | lst ds =>
        obtain ⟨vs, e, h⟩ := this
        exact ⟨vs, by rw [upd_ne hne]; exact e, RepL.keep k ds vs h⟩
      | dK kvs =>
        obtain ⟨vs, e, h⟩ := this
        exact ⟨vs, by rw [upd_ne hne]; exact e, RepKV.keep k kvs vs h⟩
    · have hi' : i = S.length := by
        have := (List.getElem?_eq_some_iff.mp h1).1
        simp at this
        omega
      subst hi'
      rw [List.getElem?_append_right (Nat.le_refl _)] at h1
      simp at h1
      subst h1
      rw [← r.len, List.getElem?_append_right (Nat.le_refl _)] at h2
      simp at h2
      subst h2
      exact ho
/-- a cell written -/
theorem Keep.write {p : Addr} {u : HO} (hp : p ∈ ρ) (hg : ¬ G p) (ht : (∃ vs, H p = some (.lst vs)) ∨ ∃ kvs, H p = some (.dK kvs)) : Keep G ρ H ρ (upd H p u) := by
  have nt : ∀ a o, H a = some o → (∀ vs, o ≠ .lst vs) → (∀ kvs, o ≠ .dK kvs) → a ≠ p := fun a o h n1 n2 e => by
    subst e
    rcases ht with ⟨vs, q⟩ | ⟨kvs, q⟩
    · rw [h] at q; cases q; exact n1 _ rfl
    · rw [h] at q; cases q; exact n2 _ rfl
  refine ⟨⟨[], by simp⟩, fun a xs h => ?_, fun a xs h1 h2 h => ⟨h1, ?_⟩, fun a o v h => ?_, fun a h => ?_⟩
  · rcases h with h | ⟨ob, h⟩
    · exact .inl (by rw [upd_ne (nt a _ h (fun _ q => nomatch q) (fun _ q => nomatch q))]; exact h)
    · exact .inr ⟨ob, by rw [upd_ne (nt a _ h (fun _ q => nomatch q) (fun _ q => nomatch q))]; exact h⟩
  · have hne : a ≠ p := fun e => h1 (e ▸ hp)
    rw [upd_ne hne]
    exact h
  · rw [upd_ne (nt a _ h (fun _ q => nomatch q) (fun _ q => nomatch q))]
    exact h
  · rw [upd_ne]
    rintro rfl
    exact hg h
theorem RelS.write (r : RelS K G ρ S H) {i : Nat} {p : Addr} {o : Ob} {u : HO} (hi : ρ[i]? = some p) (ht : (∃ vs, H p = some (.lst vs)) ∨ ∃ kvs, H p = some (.dK kvs)) (ho : ObRep K G ρ (upd H p u) o p) : RelS K G ρ (S.set i o) (upd H p u) ∧ Keep G ρ H ρ (upd H p u) := by
  have hm : p ∈ ρ := List.mem_of_getElem? hi
  have k : Keep G ρ H ρ (upd H p u) := Keep.write hm (r.ng p hm) ht
  refine ⟨⟨by simp [r.len], r.nd, r.ng, fun a h => by rw [k.grd a h]; exact r.gt a h, fun j o' a h1 h2 => ?_⟩, k⟩
  by_cases hj : j = i
  · subst hj
    have : j < S.length := by rw [← r.len]; exact (List.getElem?_eq_some_iff.mp hi).1
    rw [List.getElem?_set_self this] at h1
    cases h1
    rw [hi] at h2
    cases h2
    exact ho
  · rw [List.getElem?_set_ne (Ne.symm hj)] at h1
    have hne : a ≠ p := fun e => hj (by
      have h3 := (List.getElem?_eq_some_iff.mp h2)
      have h4 := (List.getElem?_eq_some_iff.mp hi)
      obtain ⟨l3, e3⟩ := h3
      obtain ⟨l4, e4⟩ := h4
      exact (List.getElem_inj r.nd).mp (by rw [e3, e4, e]))
    have := r.ob j o' a h1 h2
    cases o' with
    | lst ds =>
      obtain ⟨vs, e, h⟩ := this
      exact ⟨vs, by rw [upd_ne hne]; exact e, RepL.keep k ds vs h⟩
    | dK kvs =>
      obtain ⟨vs, e, h⟩ := this
      exact ⟨vs, by rw [upd_ne hne]; exact e, RepKV.keep k kvs vs h⟩

/-! ### the slots -/
structure RelE (K : PySem.W.Frag) (G : Addr → Prop) (ρ : List Addr) (H : Hp) (env : En) (σ : L2.St) : Prop where
  len : σ.length = env.length
  get : ∀ (i : Nat) (d : D), env[i]? = some (some d) → ∃ v, σ[i]? = some (some v) ∧ Rep K G ρ H d v
theorem RelE.keep {env : En} {σ : L2.St} (k : Keep G ρ H ρ' H') (r : RelE K G ρ H env σ) : RelE K G ρ' H' env σ :=
  ⟨r.len, fun i d h => let ⟨v, h1, h2⟩ := r.get i d h; ⟨v, h1, Rep.keep k d v h2⟩⟩
theorem RelE.set {env : En} {σ : L2.St} (r : RelE K G ρ H env σ) {i : Nat} {d : D} {v : V} (h : Rep K G ρ H d v) : RelE K G ρ H (env.set i (some d)) (σ.set i (some v)) := by
  refine ⟨by simp [r.len], fun j d' e => ?_⟩
  by_cases hj : j = i
  · subst hj
    have hl : j < (env.set j (some d)).length := (List.getElem?_eq_some_iff.mp e).1
    rw [List.length_set] at hl
    rw [List.getElem?_set_self hl] at e
    cases e
    exact ⟨v, by rw [List.getElem?_set_self (by rw [r.len]; exact hl)], h⟩
  · rw [List.getElem?_set_ne (Ne.symm hj)] at e
    obtain ⟨w, h1, h2⟩ := r.get j d' e
    exact ⟨w, by rw [List.getElem?_set_ne (Ne.symm hj)]; exact h1, h2⟩
/-- some slots forgotten -/
def clr (env : En) : List Nat → En
  | [] => env
  | i :: r => (clr env r).set i none
theorem clr_length (env : En) : ∀ l : List Nat, (clr env l).length = env.length
  | [] => rfl
  | i :: r => by unfold clr; rw [List.length_set, clr_length env r]
theorem clr_get {env : En} {i : Nat} {d : D} : ∀ {l : List Nat}, (clr env l)[i]? = some (some d) → env[i]? = some (some d)
  | [], h => h
  | j :: r, h => by
    unfold clr at h
    by_cases e : i = j
    · subst e
      have hl : i < ((clr env r).set i none).length := (List.getElem?_eq_some_iff.mp h).1
      rw [List.length_set] at hl
      rw [List.getElem?_set_self hl] at h
      cases h
    · rw [List.getElem?_set_ne (Ne.symm e)] at h
      exact clr_get h
theorem RelE.clr {env : En} {σ : L2.St} (r : RelE K G ρ H env σ) (l : List Nat) : RelE K G ρ H (clr env l) σ :=
  ⟨by rw [clr_length]; exact r.len, fun i d h => r.get i d (clr_get h)⟩
end
end Rf

namespace Rf
open PySem PySem.Spec PyProof.Rows L2

def Res.bind {α β : Type} (r : Res α) (f : α → Store → Res β) : Res β :=
  match r with
  | .ok a S => f a S
  | .err c S => .err c S
  | .bad => .bad
@[simp] theorem bind_ok {α β : Type} (a : α) (S : Store) (f : α → Store → Res β) : (Res.ok a S).bind f = f a S := rfl
@[simp] theorem bind_err {α β : Type} (c : Nat) (S : Store) (f : α → Store → Res β) : (Res.err c S : Res α).bind f = .err c S := rfl
@[simp] theorem bind_bad {α β : Type} (f : α → Store → Res β) : (Res.bad : Res α).bind f = .bad := rfl

def Ok {α β : Type} (K : PySem.W.Frag) (G : Addr → Prop) (rel : List Addr → Hp → α → β → Prop) (ρ : List Addr) (H : Hp) (r : Res α) (E : Nat → Hp → Prop) (Q : β → Hp → Prop) : Prop :=
  match r with
  | .ok a S' => ∀ b ρ' H', RelS K G ρ' S' H' → rel ρ' H' a b → Keep G ρ H ρ' H' → Q b H'
  | .err c S' => ∀ ρ' H', RelS K G ρ' S' H' → Keep G ρ H ρ' H' → E c H'
  | .bad => False
/-- a new list -/
def OkF (K : PySem.W.Frag) (G : Addr → Prop) (ρ : List Addr) (H : Hp) (r : Res (List D)) (E : Nat → Hp → Prop) (Q : VK) : Prop :=
  match r with
  | .ok ds S' => ∀ a vs ρ' H', RelS K G ρ' S' H' → RepL K G ρ' H' ds vs → Keep G ρ H ρ' H' → H' a = none → Q (.ref a) (upd H' a (.lst vs))
  | .err c S' => ∀ ρ' H', RelS K G ρ' S' H' → Keep G ρ H ρ' H' → E c H'
  | .bad => False
def relB : List Addr → Hp → Bool → Bool → Prop := fun _ _ a b => b = a
section
variable {K : PySem.W.Frag} {G : Addr → Prop} {ρ ρ' : List Addr} {H H' : Hp} {E : Nat → Hp → Prop}
theorem Ok.keep {α β : Type} {rel : List Addr → Hp → α → β → Prop} {r : Res α} {Q : β → Hp → Prop} (k : Keep G ρ H ρ' H') (h : Ok K G rel ρ H r E Q) : Ok K G rel ρ' H' r E Q := by
  cases r with
  | ok a S => exact fun b ρ2 H2 r1 r2 k2 => h b ρ2 H2 r1 r2 (k.trans k2)
  | err c S => exact fun ρ2 H2 r1 k2 => h ρ2 H2 r1 (k.trans k2)
  | bad => exact h
theorem OkF.keep {r : Res (List D)} {Q : VK} (k : Keep G ρ H ρ' H') (h : OkF K G ρ H r E Q) : OkF K G ρ' H' r E Q := by
  cases r with
  | ok a S => exact fun b vs ρ2 H2 r1 r2 k2 => h b vs ρ2 H2 r1 r2 (k.trans k2)
  | err c S => exact fun ρ2 H2 r1 k2 => h ρ2 H2 r1 (k.trans k2)
  | bad => exact h
theorem Ok.bind {α β γ δ : Type} {rel : List Addr → Hp → α → β → Prop} {rel2 : List Addr → Hp → γ → δ → Prop} {r : Res α} {f : α → Store → Res γ} {Q : β → Hp → Prop} {Q2 : δ → Hp → Prop}
    (h : Ok K G rel2 ρ H (r.bind f) E Q2) (n : ∀ a S' b ρ' H', RelS K G ρ' S' H' → rel ρ' H' a b → Keep G ρ H ρ' H' → Ok K G rel2 ρ' H' (f a S') E Q2 → Q b H') : Ok K G rel ρ H r E Q := by
  cases r with
  | ok a S => exact fun b ρ2 H2 r1 r2 k2 => n a S b ρ2 H2 r1 r2 k2 (h.keep k2)
  | err c S => exact h
  | bad => exact h
theorem OkF.bind {α β : Type} {rel : List Addr → Hp → α → β → Prop} {r : Res α} {f : α → Store → Res (List D)} {Q : β → Hp → Prop} {Q2 : VK}
    (h : OkF K G ρ H (r.bind f) E Q2) (n : ∀ a S' b ρ' H', RelS K G ρ' S' H' → rel ρ' H' a b → Keep G ρ H ρ' H' → OkF K G ρ' H' (f a S') E Q2 → Q b H') : Ok K G rel ρ H r E Q := by
  cases r with
  | ok a S => exact fun b ρ2 H2 r1 r2 k2 => n a S b ρ2 H2 r1 r2 k2 (h.keep k2)
  | err c S => exact h
  | bad => exact h
/-- a value that is at hand -/
theorem Ok.now {α β : Type} {rel : List Addr → Hp → α → β → Prop} {Q : β → Hp → Prop} {a : α} {b : β} {S : Store} (h : Ok K G rel ρ H (.ok a S) E Q) (r : RelS K G ρ S H) (x : rel ρ H a b) : Q b H := h b ρ H r x Keep.refl
end

/-! ### transformers -/
abbrev WE' (cA : Nat → Addr) (W : WX) (σ : L2.St) : Nat → Hp → Prop := fun c H' => W (.ref (cA c)) none σ H'
def tE (K : PySem.W.Frag) (cA : Nat → Addr) (W : WX) (m : M D) : TE := fun σ H Q => ∃ G ρ env S, RelE K G ρ H env σ ∧ RelS K G ρ S H ∧ Ok K G (Rep K G) ρ H (m env S) (WE' cA W σ) Q
def tT (K : PySem.W.Frag) (cA : Nat → Addr) (W : WX) (m : M Bool) : TT := fun σ H Q => ∃ G ρ env S, RelE K G ρ H env σ ∧ RelS K G ρ S H ∧ Ok K G relB ρ H (m env S) (WE' cA W σ) Q
def tAr (K : PySem.W.Frag) (cA : Nat → Addr) (W : WX) (m : M (List D)) : TA := fun σ H Q => ∃ G ρ env S, RelE K G ρ H env σ ∧ RelS K G ρ S H ∧ Ok K G (RepL K G) ρ H (m env S) (WE' cA W σ) Q
def tFr (K : PySem.W.Frag) (cA : Nat → Addr) (W : WX) (m : M (List D)) : TE := fun σ H Q => ∃ G ρ env S, RelE K G ρ H env σ ∧ RelS K G ρ S H ∧ OkF K G ρ H (m env S) (WE' cA W σ) Q

section
variable {X : Cx} {e a b c : Expr} {pos : Pos}
theorem pe_imp {t t' : TE} (h : PE X e t) (i : ∀ σ H Q, t' σ H Q → t σ H Q) : PE X e t' := ⟨fun pins s σ H Q I hw => h.run pins s σ H Q I (i σ H Q hw)⟩
theorem pt_imp {t t' : TT} (h : PT X e t) (i : ∀ σ H Q, t' σ H Q → t σ H Q) : PT X e t' := ⟨fun pins s σ H Q I hw => h.run pins s σ H Q I (i σ H Q hw)⟩
theorem pw_imp {t t' : TT} (h : PW X e t) (i : ∀ σ H Q, t' σ H Q → t σ H Q) : PW X e t' := ⟨fun wh pins s σ H Q I hw => h.run wh pins s σ H Q I (i σ H Q hw)⟩
theorem pa_imp {es : List Expr} {t t' : TA} (h : PA X es t) (i : ∀ σ H Q, t' σ H Q → t σ H Q) : PA X es t' := ⟨fun pos pins s σ H Q I hw => h.run pos pins s σ H Q I (i σ H Q hw)⟩
theorem ps_imp {st : Stmt} {t t' : TS} (h : PS X st t) (i : ∀ D σ H, t' D σ H → t D σ H) : PS X st t' := ⟨fun pins s σ H D I hw => h.run pins s σ H D I (i D σ H hw)⟩
theorem pss_imp {st : List Stmt} {t t' : TS} (h : PSs X st t) (i : ∀ D σ H, t' D σ H → t D σ H) : PSs X st t' := ⟨fun pins s σ H D I hw => h.run pins s σ H D I (i D σ H hw)⟩
theorem pg_imp {tg : Expr} {t t' : TG} (h : PG X tg t) (i : ∀ v σ H Q, t' v σ H Q → t v σ H Q) : PG X tg t' := ⟨fun pins s σ H v u Q I r hw => h.run pins s σ H v u Q I r (i v σ H Q hw)⟩
theorem pi_imp {tg it : Expr} {t t' : TI} (h : PI X tg it t) (i : ∀ σ H Q, t' σ H Q → t σ H Q) : PI X tg it t' := ⟨fun pins s σ H Q I hw => h.run pins s σ H Q I (i σ H Q hw)⟩

variable {cA : Nat → Addr} {W : WX}
/-! ### names, constants -/
def eVar (i : Nat) : M D := fun env S => match env[i]? with
  | some (some d) => .ok d S
  | _ => .bad
def eC (d : D) : M D := fun _ S => .ok d S
theorem je_var (i : Nat) {x : Str} (hN : X.N[i]? = some x := by rfl) (hv : Vis X.env.scope x := by first | exact Or.inl rfl | exact Or.inr (Or.inl rfl) | exact Or.inr (Or.inr rfl)) (hd : (x == ("__debug__" : Str)) = false := by decide)
    (hcd : (x == ("__classdict__" : Str)) = false := by decide) : PE X (.Name x pos) (tE X.K cA W (eVar i)) := by
  refine pe_imp (pe_var hN hv hd hcd) ?_
  rintro σ H Q ⟨G, ρ, env, S, hE, hS, h⟩
  unfold eVar at h
  split at h
  · rename_i d e
    obtain ⟨v, h1, h2⟩ := hE.get i d e
    exact ⟨v, h1, h.now hS h2⟩
  · exact h.elim
theorem je_int {i : Int} {j} : PE X (.Constant (.int i) j pos) (tE X.K cA W (eC (.int i))) := pe_imp pe_int fun _ _ _ ⟨_, _, _, _, _, hS, h⟩ => h.now hS rfl
theorem je_bl {i : Bool} {j} : PE X (.Constant (.bool i) j pos) (tE X.K cA W (eC (.bl i))) := pe_imp pe_bl fun _ _ _ ⟨_, _, _, _, _, hS, h⟩ => h.now hS rfl
theorem je_non {j} : PE X (.Constant .none j pos) (tE X.K cA W (eC .non)) := pe_imp pe_non fun _ _ _ ⟨_, _, _, _, _, hS, h⟩ => h.now hS rfl
theorem je_str {x : Str} {j} : PE X (.Constant (.str x) j pos) (tE X.K cA W (eC (.str x))) := pe_imp pe_str fun _ _ _ ⟨_, _, _, _, _, hS, h⟩ => h.now hS rfl
/-- a module's constant that is an int -/
theorem je_gint {x : Str} {i : Int} {t : Tok} (hg : Gl X x) (hm : X.mg x = some (.int i t)) (hd : (x == ("__debug__" : Str)) = false := by decide) : PE X (.Name x pos) (tE X.K cA W (eC (.int i))) :=
  pe_imp (pe_glob (v := .int i) hg hm ⟨_, rfl⟩ hd) fun _ _ _ ⟨_, _, _, _, _, hS, h⟩ => h.now hS rfl
/-- a built-in class as a value -/
theorem je_ty {x : Str} {T : String} (hg : Gl X x) (hm : X.mg x = none) (hv : bootBuiltins x = some (.type T)) (hn : x ≠ "__name__" := by decide) (hd : (x == ("__debug__" : Str)) = false := by decide) : PE X (.Name x pos) (tE X.K cA W (eC (.ty T))) :=
  pe_imp (pe_bltn (v := .ty T) hg hm hv rfl hn hd) fun _ _ _ ⟨_, _, _, _, _, hS, h⟩ => h.now hS rfl

/-! ### two places -/
def OpD (K : PySem.W.Frag) (r : R2) (f : D → D → Store → Res D) : Prop :=
  ∀ G ρ H S d1 d2 v1 v2 E Q, RelS K G ρ S H → Rep K G ρ H d1 v1 → Rep K G ρ H d2 v2 → Ok K G (Rep K G) ρ H (f d1 d2 S) E Q → r v1 v2 H Q
def e2 (f : D → D → Store → Res D) (ma mb : M D) : M D := fun env S => (ma env S).bind fun x S1 => (mb env S1).bind fun y S2 => f x y S2
theorem op_read {r : R2} {f : D → D → Store → Res D} (hd : OpD X.K r f) {ma mb : M D} : ∀ σ H Q, tE X.K cA W (e2 f ma mb) σ H Q → tOp r (tE X.K cA W ma) (tE X.K cA W mb) σ H Q := by
  rintro σ H Q ⟨G, ρ, env, S, hE, hS, h⟩
  refine ⟨G, ρ, env, S, hE, hS, Ok.bind h fun x S1 v ρ1 H1 r1 x1 k1 h1 => ?_⟩
  refine ⟨G, ρ1, env, S1, hE.keep k1, r1, Ok.bind h1 fun y S2 u ρ2 H2 r2 x2 k2 h2 => ?_⟩
  exact hd G ρ2 H2 S2 x y v u _ Q r2 (Rep.keep k2 x v x1) x2 h2
theorem je_op {op : Operator} {r : R2} {f : D → D → Store → Res D} {ma mb : M D} (ho : OpR X (binaryOp op) r) (hd : OpD X.K r f) (ha : PE X a (tE X.K cA W ma)) (hb : PE X b (tE X.K cA W mb)) : PE X (.BinOp a op b pos) (tE X.K cA W (e2 f ma mb)) :=
  pe_imp (pe_op ho ha hb) (op_read hd)
theorem je_cmp {op : CmpOp} {r : R2} {f : D → D → Store → Res D} {ma mb : M D} (ho : OpR X (compareOp op) r) (hd : OpD X.K r f) (ha : PE X a (tE X.K cA W ma)) (hb : PE X b (tE X.K cA W mb)) (hm : behindInMarks op b = false) : PE X (.Compare a [op] [b] pos) (tE X.K cA W (e2 f ma mb)) :=
  pe_imp (pe_cmpR ho ha hb hm) (op_read hd)
/-! ### tests -/
/-- a bool's test -/
def tst (m : M D) : M Bool := fun env S => (m env S).bind fun d S1 => match d with
  | .bl b => .ok b S1
  | _ => .bad
theorem test_read {m : M D} : ∀ σ H Q, tT X.K cA W (tst m) σ H Q → (tTest (tE X.K cA W m)) σ H Q := by
  rintro σ H Q ⟨G, ρ, env, S, hE, hS, h⟩
  refine ⟨G, ρ, env, S, hE, hS, Ok.bind h fun x S1 v ρ1 H1 r1 x1 k1 h1 => ?_⟩
  cases x with
  | bl b =>
    rw [show v = .bl b from x1]
    exact ⟨b, rfl, h1.now r1 rfl⟩
  | _ => exact h1.elim
theorem jt_cmp {op : CmpOp} {r : R2} {f : D → D → Store → Res D} {ma mb : M D} (ho : OpR X (compareOp op) r) (hd : OpD X.K r f) (ha : PE X a (tE X.K cA W ma)) (hb : PE X b (tE X.K cA W mb)) (hm : behindInMarks op b = false) : PT X (.Compare a [op] [b] pos) (tT X.K cA W (tst (e2 f ma mb))) := by
  refine pt_imp (pt_cmpR ho ha hb hm) fun σ H Q h => ?_
  obtain ⟨G, ρ, env, S, hE, hS, h⟩ := h
  have := test_read (X := X) (cA := cA) (W := W) σ H Q ⟨G, ρ, env, S, hE, hS, h⟩
  exact op_read hd _ _ _ this
theorem jt_val {m : M D} (h : PE X e (tE X.K cA W m)) (he : ∀ whole, isTrue e X.env whole = (do let v ← whole; standAt e.pos; holding [v] (truthy v)) := by intro _; rfl) : PT X e (tT X.K cA W (tst m)) :=
  pt_imp (pt_val h he) test_read
def tAnd' (ma mb : M Bool) : M Bool := fun env S => (ma env S).bind fun x S1 => if x = true then mb env S1 else .ok false S1
def tOr' (ma mb : M Bool) : M Bool := fun env S => (ma env S).bind fun x S1 => if x = true then .ok true S1 else mb env S1
def tNot' (ma : M Bool) : M Bool := fun env S => (ma env S).bind fun x S1 => .ok (!x) S1
theorem jw_and1 {m : M Bool} (ha : PT X a (tT X.K cA W m)) : PW X (.BoolOp .And [a] pos) (tT X.K cA W m) := pw_and1 ha
theorem jw_or1 {m : M Bool} (ha : PT X a (tT X.K cA W m)) : PW X (.BoolOp .Or [a] pos) (tT X.K cA W m) := pw_or1 ha
theorem jw_and {m n : M Bool} {rest : List Expr} (ha : PT X a (tT X.K cA W m)) (hb : PW X (.BoolOp .And (b :: rest) pos) (tT X.K cA W n)) : PW X (.BoolOp .And (a :: b :: rest) pos) (tT X.K cA W (tAnd' m n)) := by
  refine pw_imp (pw_and ha hb) ?_
  rintro σ H Q ⟨G, ρ, env, S, hE, hS, h⟩
  refine ⟨G, ρ, env, S, hE, hS, Ok.bind h fun x S1 v ρ1 H1 r1 x1 k1 h1 => ?_⟩
  cases (show v = x from x1)
  cases x with
  | true => exact iteT ⟨G, ρ1, env, S1, hE.keep k1, r1, h1⟩
  | false => exact iteF (h1.now r1 rfl)
theorem jw_or {m n : M Bool} {rest : List Expr} (ha : PT X a (tT X.K cA W m)) (hb : PW X (.BoolOp .Or (b :: rest) pos) (tT X.K cA W n)) : PW X (.BoolOp .Or (a :: b :: rest) pos) (tT X.K cA W (tOr' m n)) := by
  refine pw_imp (pw_or ha hb) ?_
  rintro σ H Q ⟨G, ρ, env, S, hE, hS, h⟩
  refine ⟨G, ρ, env, S, hE, hS, Ok.bind h fun x S1 v ρ1 H1 r1 x1 k1 h1 => ?_⟩
  cases (show v = x from x1)
  cases x with
  | true => exact iteT (h1.now r1 rfl)
  | false => exact iteF ⟨G, ρ1, env, S1, hE.keep k1, r1, h1⟩
theorem jt_not {m : M Bool} (ha : PT X a (tT X.K cA W m)) : PT X (.UnaryOp .Not a pos) (tT X.K cA W (tNot' m)) := by
  refine pt_imp (pt_not ha) ?_
  rintro σ H Q ⟨G, ρ, env, S, hE, hS, h⟩
  refine ⟨G, ρ, env, S, hE, hS, Ok.bind h fun x S1 v ρ1 H1 r1 x1 k1 h1 => ?_⟩
  cases (show v = x from x1)
  exact h1.now r1 rfl
/-! ### and, or, not of bools as values -/
def eAnd (ma mb : M D) : M D := fun env S => (ma env S).bind fun x S1 => match x with
  | .bl true => mb env S1
  | .bl false => .ok (.bl false) S1
  | _ => .bad
def eOr (ma mb : M D) : M D := fun env S => (ma env S).bind fun x S1 => match x with
  | .bl true => .ok (.bl true) S1
  | .bl false => mb env S1
  | _ => .bad
def eNot (ma : M D) : M D := fun env S => (ma env S).bind fun x S1 => match x with
  | .bl b => .ok (.bl (!b)) S1
  | _ => .bad
theorem je_one {op} {m : M D} (h : PE X a (tE X.K cA W m)) : PE X (.BoolOp op [a] pos) (tE X.K cA W m) := pe_one h
theorem je_and {m n : M D} {rest : List Expr} (ha : PE X a (tE X.K cA W m)) (hb : PE X (.BoolOp .And (b :: rest) pos) (tE X.K cA W n)) : PE X (.BoolOp .And (a :: b :: rest) pos) (tE X.K cA W (eAnd m n)) := by
  refine pe_imp (pe_and ha hb) ?_
  rintro σ H Q ⟨G, ρ, env, S, hE, hS, h⟩
  refine ⟨G, ρ, env, S, hE, hS, Ok.bind h fun x S1 v ρ1 H1 r1 x1 k1 h1 => ?_⟩
  cases x with
  | bl k =>
    cases (show v = .bl k from x1)
    cases k with
    | true => exact ⟨true, rfl, iteT ⟨G, ρ1, env, S1, hE.keep k1, r1, h1⟩⟩
    | false => exact ⟨false, rfl, iteF (h1.now r1 rfl)⟩
  | _ => exact h1.elim
theorem je_or {m n : M D} {rest : List Expr} (ha : PE X a (tE X.K cA W m)) (hb : PE X (.BoolOp .Or (b :: rest) pos) (tE X.K cA W n)) : PE X (.BoolOp .Or (a :: b :: rest) pos) (tE X.K cA W (eOr m n)) := by
  refine pe_imp (pe_or ha hb) ?_
  rintro σ H Q ⟨G, ρ, env, S, hE, hS, h⟩
  refine ⟨G, ρ, env, S, hE, hS, Ok.bind h fun x S1 v ρ1 H1 r1 x1 k1 h1 => ?_⟩
  cases x with
  | bl k =>
    cases (show v = .bl k from x1)
    cases k with
    | true => exact ⟨true, rfl, iteT (h1.now r1 rfl)⟩
    | false => exact ⟨false, rfl, iteF ⟨G, ρ1, env, S1, hE.keep k1, r1, h1⟩⟩
  | _ => exact h1.elim
theorem je_not {m : M D} (ha : PE X a (tE X.K cA W m)) : PE X (.UnaryOp .Not a pos) (tE X.K cA W (eNot m)) := by
  refine pe_imp (pe_not ha) ?_
  rintro σ H Q ⟨G, ρ, env, S, hE, hS, h⟩
  refine ⟨G, ρ, env, S, hE, hS, Ok.bind h fun x S1 v ρ1 H1 r1 x1 k1 h1 => ?_⟩
  cases x with
  | bl k =>
    cases (show v = .bl k from x1)
    exact ⟨k, rfl, h1.now r1 rfl⟩
  | _ => exact h1.elim
/-- a if t else b -/
def eIf (mc : M Bool) (ma mb : M D) : M D := fun env S => (mc env S).bind fun x S1 => if x = true then ma env S1 else mb env S1
theorem je_if {mc : M Bool} {ma mb : M D} (hc : PT X c (tT X.K cA W mc)) (ha : PE X a (tE X.K cA W ma)) (hb : PE X b (tE X.K cA W mb)) : PE X (.IfExp c a b pos) (tE X.K cA W (eIf mc ma mb)) := by
  refine pe_imp (pe_ifExp hc ha hb) ?_
  rintro σ H Q ⟨G, ρ, env, S, hE, hS, h⟩
  refine ⟨G, ρ, env, S, hE, hS, Ok.bind h fun x S1 v ρ1 H1 r1 x1 k1 h1 => ?_⟩
  cases (show v = x from x1)
  cases x with
  | true => exact iteT ⟨G, ρ1, env, S1, hE.keep k1, r1, h1⟩
  | false => exact iteF ⟨G, ρ1, env, S1, hE.keep k1, r1, h1⟩
/-- one place -/
def UnD (K : PySem.W.Frag) (r : V → Hp → VK → Prop) (f : D → Store → Res D) : Prop :=
  ∀ G ρ H S d v E Q, RelS K G ρ S H → Rep K G ρ H d v → Ok K G (Rep K G) ρ H (f d S) E Q → r v H Q
def e1 (f : D → Store → Res D) (ma : M D) : M D := fun env S => (ma env S).bind fun x S1 => f x S1
theorem je_un {op : UnaryOp} {r : V → Hp → VK → Prop} {f : D → Store → Res D} {ma : M D} (ho : UnR X (unaryOp op) r) (hd : UnD X.K r f) (ha : PE X a (tE X.K cA W ma)) : PE X (.UnaryOp op a pos) (tE X.K cA W (e1 f ma)) := by
  refine pe_imp (pe_un ho ha) ?_
  rintro σ H Q ⟨G, ρ, env, S, hE, hS, h⟩
  refine ⟨G, ρ, env, S, hE, hS, Ok.bind h fun x S1 v ρ1 H1 r1 x1 k1 h1 => ?_⟩
  exact hd G ρ1 H1 S1 x v _ Q r1 x1 h1
/-! ### arguments, calls of built-ins -/
def aNil : M (List D) := fun _ S => .ok [] S
def aCons (m : M D) (r : M (List D)) : M (List D) := fun env S => (m env S).bind fun x S1 => (r env S1).bind fun xs S2 => .ok (x :: xs) S2
theorem ja_nil : PA X [] (tAr X.K cA W aNil) := pa_imp pa_nil fun _ _ _ ⟨_, _, _, _, _, hS, h⟩ => h.now hS (show RepL _ _ _ _ [] [] from rfl)
theorem ja_cons {es : List Expr} {m : M D} {r : M (List D)} (ha : PE X e (tE X.K cA W m)) (hr : PA X es (tAr X.K cA W r)) (hs : starEach (e :: es) X.env = (false, eval e X.env) :: starEach es X.env := by rfl) : PA X (e :: es) (tAr X.K cA W (aCons m r)) := by
  refine pa_imp (pa_cons ha hr hs) ?_
  rintro σ H Q ⟨G, ρ, env, S, hE, hS, h⟩
  refine ⟨G, ρ, env, S, hE, hS, Ok.bind h fun x S1 v ρ1 H1 r1 x1 k1 h1 => ?_⟩
  refine ⟨G, ρ1, env, S1, hE.keep k1, r1, Ok.bind h1 fun xs S2 vs ρ2 H2 r2 x2 k2 h2 => ?_⟩
  exact h2.now r2 ⟨v, vs, rfl, Rep.keep k2 x v x1, x2⟩
def CallD (K : PySem.W.Frag) (r : List V → Hp → VK → Prop) (f : List D → Store → Res D) : Prop :=
  ∀ G ρ H S ds vs E Q, RelS K G ρ S H → RepL K G ρ H ds vs → Ok K G (Rep K G) ρ H (f ds S) E Q → r vs H Q
def CallF (K : PySem.W.Frag) (r : List V → Hp → VK → Prop) (f : List D → Store → Res (List D)) : Prop :=
  ∀ G ρ H S ds vs E Q, RelS K G ρ S H → RepL K G ρ H ds vs → OkF K G ρ H (f ds S) E Q → r vs H Q
def eB {α : Type} (f : List D → Store → Res α) (ma : M (List D)) : M α := fun env S => (ma env S).bind fun xs S1 => f xs S1
variable {es : List Expr} {x : Str} {p : Pos} {r : List V → Hp → VK → Prop}
theorem call_read {f : List D → Store → Res D} {ma : M (List D)} (hd : CallD X.K r f) : ∀ σ H Q, tE X.K cA W (eB f ma) σ H Q → tCB r (tAr X.K cA W ma) σ H Q := by
  rintro σ H Q ⟨G, ρ, env, S, hE, hS, h⟩
  refine ⟨G, ρ, env, S, hE, hS, Ok.bind h fun x S1 v ρ1 H1 r1 x1 k1 h1 => ?_⟩
  exact hd G ρ1 H1 S1 x v _ Q r1 x1 h1
theorem callF_read {f : List D → Store → Res (List D)} {ma : M (List D)} (hd : CallF X.K r f) : ∀ σ H Q, tFr X.K cA W (eB f ma) σ H Q → tCB r (tAr X.K cA W ma) σ H Q := by
  rintro σ H Q ⟨G, ρ, env, S, hE, hS, h⟩
  refine ⟨G, ρ, env, S, hE, hS, OkF.bind h fun x S1 v ρ1 H1 r1 x1 k1 h1 => ?_⟩
  exact hd G ρ1 H1 S1 x v _ Q r1 x1 h1
theorem je_B {id : String} {f : List D → Store → Res D} {ma : M (List D)} (hc : CallR X (.builtin id) r) (hd : CallD X.K r f) (hg : Gl X x) (hm : X.mg x = none) (hv : bootBuiltins x = some (.builtin id)) (ha : PA X (e :: es) (tAr X.K cA W ma)) (hn : x ≠ "__name__" := by decide) (hdb : (x == ("__debug__" : Str)) = false := by decide)
    (he : starEach (e :: es) X.env = (false, eval e X.env) :: starEach es X.env := by rfl) (hpl : (backTo pos (starEach es X.env)).any (·.1) = false := by rfl) : PE X (.Call (.Name x p) (e :: es) [] pos) (tE X.K cA W (eB f ma)) :=
  pe_imp (pe_callB hc hg hm hv ha hn hdb he hpl) (call_read hd)
theorem je_Ty {T : String} {f : List D → Store → Res D} {ma : M (List D)} (hc : CallR X (.type T) r) (hd : CallD X.K r f) (hg : Gl X x) (hm : X.mg x = none) (hv : bootBuiltins x = some (.type T)) (ha : PA X (e :: es) (tAr X.K cA W ma)) (hn : x ≠ "__name__" := by decide) (hdb : (x == ("__debug__" : Str)) = false := by decide)
    (he : starEach (e :: es) X.env = (false, eval e X.env) :: starEach es X.env := by rfl) (hpl : (backTo pos (starEach es X.env)).any (·.1) = false := by rfl) : PE X (.Call (.Name x p) (e :: es) [] pos) (tE X.K cA W (eB f ma)) :=
  pe_imp (pe_callTy hc hg hm hv ha hn hdb he hpl) (call_read hd)
theorem jf_B {id : String} {f : List D → Store → Res (List D)} {ma : M (List D)} (hc : CallR X (.builtin id) r) (hd : CallF X.K r f) (hg : Gl X x) (hm : X.mg x = none) (hv : bootBuiltins x = some (.builtin id)) (ha : PA X (e :: es) (tAr X.K cA W ma)) (hn : x ≠ "__name__" := by decide) (hdb : (x == ("__debug__" : Str)) = false := by decide)
    (he : starEach (e :: es) X.env = (false, eval e X.env) :: starEach es X.env := by rfl) (hpl : (backTo pos (starEach es X.env)).any (·.1) = false := by rfl) : PE X (.Call (.Name x p) (e :: es) [] pos) (tFr X.K cA W (eB f ma)) :=
  pe_imp (pe_callB hc hg hm hv ha hn hdb he hpl) (callF_read hd)
theorem jf_Ty {T : String} {f : List D → Store → Res (List D)} {ma : M (List D)} (hc : CallR X (.type T) r) (hd : CallF X.K r f) (hg : Gl X x) (hm : X.mg x = none) (hv : bootBuiltins x = some (.type T)) (ha : PA X (e :: es) (tAr X.K cA W ma)) (hn : x ≠ "__name__" := by decide) (hdb : (x == ("__debug__" : Str)) = false := by decide)
    (he : starEach (e :: es) X.env = (false, eval e X.env) :: starEach es X.env := by rfl) (hpl : (backTo pos (starEach es X.env)).any (·.1) = false := by rfl) : PE X (.Call (.Name x p) (e :: es) [] pos) (tFr X.K cA W (eB f ma)) :=
  pe_imp (pe_callTy hc hg hm hv ha hn hdb he hpl) (callF_read hd)
/-! ### a new list, taken as it is, or as a cell -/
def fz (m : M (List D)) : M D := fun env S => (m env S).bind fun ds S1 => .ok (.lst ds) S1
def cel (m : M (List D)) : M D := fun env S => (m env S).bind fun ds S1 => .ok (.cell S1.length) (S1 ++ [.lst ds])
theorem fz_read {m : M (List D)} : ∀ σ H Q, tE X.K cA W (fz m) σ H Q → tFr X.K cA W m σ H Q := by
  rintro σ H Q ⟨G, ρ, env, S, hE, hS, h⟩
  refine ⟨G, ρ, env, S, hE, hS, ?_⟩
  unfold fz at h
  revert h
  cases m env S with
  | ok ds S1 =>
    intro h a vs ρ' H' r x k hn
    exact h _ ρ' _ (r.new hn) ⟨a, vs, rfl, ⟨r.fresh hn, r.ngn hn, upd_same⟩, RepL.keep (Keep.new hn r.gt) ds vs x⟩ (k.trans (Keep.new hn r.gt))
  | err c S1 => exact fun h => h
  | bad => exact fun h => h
theorem cel_read {m : M (List D)} : ∀ σ H Q, tE X.K cA W (cel m) σ H Q → tFr X.K cA W m σ H Q := by
  rintro σ H Q ⟨G, ρ, env, S, hE, hS, h⟩
  refine ⟨G, ρ, env, S, hE, hS, ?_⟩
  unfold cel at h
  revert h
  cases m env S with
  | ok ds S1 =>
    intro h a vs ρ' H' r x k hn
    have k2 : Keep G ρ' H' (ρ' ++ [a]) (upd H' a (.lst vs)) := Keep.cell hn r.gt
    refine h _ (ρ' ++ [a]) _ (r.alloc hn ⟨vs, upd_same, RepL.keep k2 ds vs x⟩) ⟨a, rfl, ?_⟩ (k.trans k2)
    rw [← r.len, List.getElem?_append_right (Nat.le_refl _)]
    simp
  | err c S1 => exact fun h => h
  | bad => exact fun h => h
theorem je_fz {m : M (List D)} (h : PE X e (tFr X.K cA W m)) : PE X e (tE X.K cA W (fz m)) := pe_imp h fz_read
theorem je_cel {m : M (List D)} (h : PE X e (tFr X.K cA W m)) : PE X e (tE X.K cA W (cel m)) := pe_imp h cel_read
/-! ### displays -/
def big : Nat := 1000000
theorem big_line {n : Nat} (h : n ≤ big) : n ≤ sizeLine := Nat.le_trans h (by decide)
theorem big_lt {n : Nat} (h : n < big) : n < sizeLine := Nat.lt_of_lt_of_le h (by decide)
def eTup (ma : M (List D)) : M D := fun env S => (ma env S).bind fun ds S1 => if ds.length ≤ big then .ok (.tup ds) S1 else .bad
def fLst (ma : M (List D)) : M (List D) := fun env S => (ma env S).bind fun ds S1 => if ds.length ≤ big then .ok ds S1 else .bad
theorem je_tup {x1} {ma : M (List D)} (ha : PA X es (tAr X.K cA W ma)) : PE X (.Tuple es x1 pos) (tE X.K cA W (eTup ma)) := by
  refine pe_imp (pe_tup ha) ?_
  rintro σ H Q ⟨G, ρ, env, S, hE, hS, h⟩
  refine ⟨G, ρ, env, S, hE, hS, Ok.bind h fun ds S1 vs ρ1 H1 r1 x1 k1 h1 => ?_⟩
  by_cases hl : ds.length ≤ big
  · rw [if_pos hl] at h1
    refine ⟨by rw [x1.length]; exact big_line hl, fun p hp => ?_⟩
    have k2 : Keep G ρ1 H1 ρ1 (upd H1 p (.tup vs)) := Keep.new hp r1.gt
    exact h1 _ ρ1 _ (r1.new hp) ⟨p, vs, rfl, .of upd_same, RepL.keep k2 ds vs x1⟩ k2
  · rw [if_neg hl] at h1
    exact h1.elim
theorem jf_lst {ma : M (List D)} (ha : PA X es (tAr X.K cA W ma)) : PE X (.List es pos) (tFr X.K cA W (fLst ma)) := by
  refine pe_imp (pe_lst ha) ?_
  rintro σ H Q ⟨G, ρ, env, S, hE, hS, h⟩
  refine ⟨G, ρ, env, S, hE, hS, OkF.bind h fun ds S1 vs ρ1 H1 r1 x1 k1 h1 => ?_⟩
  by_cases hl : ds.length ≤ big
  · rw [if_pos hl] at h1
    exact ⟨by rw [x1.length]; exact big_line hl, fun p hp => h1 p vs ρ1 H1 r1 x1 Keep.refl hp⟩
  · rw [if_neg hl] at h1
    exact h1.elim
end
end Rf

namespace Rf
open PySem PySem.Spec PyProof.Rows L2

def OkS (K : PySem.W.Frag) (cA : Nat → Addr) (W : WX) (G : Addr → Prop) (ρ : List Addr) (H : Hp) (D : Ends) : RS → Prop
  | .next e S' => ∀ σ' ρ' H', RelE K G ρ' H' e σ' → RelS K G ρ' S' H' → Keep G ρ H ρ' H' → D.nx σ' H'
  | .ret d S' => ∀ v ρ' H', RelS K G ρ' S' H' → Rep K G ρ' H' d v → Keep G ρ H ρ' H' → D.rt v H'
  | .brk e S' => ∀ σ' ρ' H', RelE K G ρ' H' e σ' → RelS K G ρ' S' H' → Keep G ρ H ρ' H' → D.bk σ' H'
  | .cont e S' => ∀ σ' ρ' H', RelE K G ρ' H' e σ' → RelS K G ρ' S' H' → Keep G ρ H ρ' H' → D.ct σ' H'
  | .err c e S' => ∀ σ' ρ' H', RelE K G ρ' H' e σ' → RelS K G ρ' S' H' → Keep G ρ H ρ' H' → W (.ref (cA c)) none σ' H'
  | .bad => False
def tS (K : PySem.W.Frag) (cA : Nat → Addr) (W : WX) (m : MS) : TS := fun D σ H => ∃ G ρ env S, RelE K G ρ H env σ ∧ RelS K G ρ S H ∧ OkS K cA W G ρ H D (m env S)
theorem OkS.keep {K : PySem.W.Frag} {cA : Nat → Addr} {W : WX} {G : Addr → Prop} {ρ ρ' : List Addr} {H H' : Hp} {D : Ends} {r : RS} (k : Keep G ρ H ρ' H') (h : OkS K cA W G ρ H D r) : OkS K cA W G ρ' H' D r := by
  cases r with
  | next e S => exact fun σ2 ρ2 H2 r1 r2 k2 => h σ2 ρ2 H2 r1 r2 (k.trans k2)
  | ret d S => exact fun v ρ2 H2 r1 r2 k2 => h v ρ2 H2 r1 r2 (k.trans k2)
  | brk e S => exact fun σ2 ρ2 H2 r1 r2 k2 => h σ2 ρ2 H2 r1 r2 (k.trans k2)
  | cont e S => exact fun σ2 ρ2 H2 r1 r2 k2 => h σ2 ρ2 H2 r1 r2 (k.trans k2)
  | err c e S => exact fun σ2 ρ2 H2 r1 r2 k2 => h σ2 ρ2 H2 r1 r2 (k.trans k2)
  | bad => exact h

/-- an expression's value goes on -/
def Res.then {α : Type} (r : Res α) (env : En) (f : α → Store → RS) : RS :=
  match r with
  | .ok a S => f a S
  | .err c S => .err c env S
  | .bad => .bad
@[simp] theorem then_ok {α : Type} (a : α) (S : Store) (env : En) (f : α → Store → RS) : (Res.ok a S).then env f = f a S := rfl
@[simp] theorem then_err {α : Type} (c : Nat) (S : Store) (env : En) (f : α → Store → RS) : (Res.err c S : Res α).then env f = .err c env S := rfl
@[simp] theorem then_bad {α : Type} (env : En) (f : α → Store → RS) : (Res.bad : Res α).then env f = .bad := rfl
section
variable {K : PySem.W.Frag} {G : Addr → Prop} {ρ ρ' : List Addr} {H H' : Hp} {cA : Nat → Addr} {W : WX}
theorem OkS.thn {α β : Type} {rel : List Addr → Hp → α → β → Prop} {r : Res α} {env : En} {σ : L2.St} {f : α → Store → RS} {D : Ends} {Q : β → Hp → Prop} (hE : RelE K G ρ H env σ)
    (h : OkS K cA W G ρ H D (r.then env f)) (n : ∀ a S' b ρ' H', RelS K G ρ' S' H' → rel ρ' H' a b → Keep G ρ H ρ' H' → OkS K cA W G ρ' H' D (f a S') → Q b H') : Ok K G rel ρ H r (WE' cA W σ) Q := by
  cases r with
  | ok a S => exact fun b ρ2 H2 r1 r2 k2 => n a S b ρ2 H2 r1 r2 k2 (h.keep k2)
  | err c S => exact fun ρ2 H2 r1 k2 => h σ ρ2 H2 (hE.keep k2) r1 k2
  | bad => exact h
end

section
variable {X : Cx} {st : Stmt} {rest : List Stmt} {e c : Expr} {pos : Pos} {cA : Nat → Addr} {W : WX}
/-! ### blocks -/
def sNil : MS := fun env S => .next env S
def sSeq (m n : MS) : MS := fun env S => match m env S with
  | .next e S' => n e S'
  | r => r
theorem js_nil : PSs X [] (tS X.K cA W sNil) := pss_imp pss_nil fun D σ H ⟨G, ρ, env, S, hE, hS, h⟩ => h σ ρ H hE hS Keep.refl
theorem js_cons {m n : MS} (h1 : PS X st (tS X.K cA W m)) (h2 : PSs X rest (tS X.K cA W n)) : PSs X (st :: rest) (tS X.K cA W (sSeq m n)) := by
  refine pss_imp (pss_cons h1 h2) ?_
  rintro D σ H ⟨G, ρ, env, S, hE, hS, h⟩
  refine ⟨G, ρ, env, S, hE, hS, ?_⟩
  unfold sSeq at h
  revert h
  cases m env S with
  | next e S1 => exact fun h σ1 ρ1 H1 r1 r2 k => ⟨G, ρ1, e, S1, r1, r2, h.keep k⟩
  | ret d S1 => exact fun h => h
  | brk e S1 => exact fun h => h
  | cont e S1 => exact fun h => h
  | err c e S1 => exact fun h => h
  | bad => exact fun h => h
theorem js_one {m : MS} (h1 : PS X st (tS X.K cA W m)) : PSs X [st] (tS X.K cA W m) := pss_one h1
/-- a statement that is not reached -/
def sBad : MS := fun _ _ => .bad
theorem js_bad : PS X st (tS X.K cA W sBad) := ps_imp ps_never fun D σ H ⟨G, ρ, env, S, hE, hS, h⟩ => h
theorem js_pass : PS X (.Pass pos) (tS X.K cA W sNil) := ps_imp ps_pass fun D σ H ⟨G, ρ, env, S, hE, hS, h⟩ => h σ ρ H hE hS Keep.refl
theorem js_break : PS X (.Break pos) (tS X.K cA W fun env S => .brk env S) := ps_imp ps_break fun D σ H ⟨G, ρ, env, S, hE, hS, h⟩ => h σ ρ H hE hS Keep.refl
theorem js_continue : PS X (.Continue pos) (tS X.K cA W fun env S => .cont env S) := ps_imp ps_continue fun D σ H ⟨G, ρ, env, S, hE, hS, h⟩ => h σ ρ H hE hS Keep.refl
/-- some slots forgotten behind a statement -/
def sCl (l : List Nat) (m : MS) : MS := fun env S => match m env S with
  | .next e S' => .next (clr e l) S'
  | r => r
theorem js_cl (l : List Nat) {m : MS} (h1 : PS X st (tS X.K cA W m)) : PS X st (tS X.K cA W (sCl l m)) := by
  refine ps_imp h1 ?_
  rintro D σ H ⟨G, ρ, env, S, hE, hS, h⟩
  refine ⟨G, ρ, env, S, hE, hS, ?_⟩
  unfold sCl at h
  revert h
  cases m env S with
  | next e S1 => exact fun h σ1 ρ1 H1 r1 r2 k => h σ1 ρ1 H1 (r1.clr l) r2 k
  | ret d S1 => exact fun h => h
  | brk e S1 => exact fun h => h
  | cont e S1 => exact fun h => h
  | err c e S1 => exact fun h => h
  | bad => exact fun h => h
/-! ### expressions as statements, return, if -/
def sExpr (m : M D) : MS := fun env S => (m env S).then env fun _ S1 => .next env S1
theorem js_expr {m : M D} (he : PE X e (tE X.K cA W m)) (hs : swapsWith e none pos.line X.env = pure false := by rfl) : PS X (.Expr e pos) (tS X.K cA W (sExpr m)) := by
  refine ps_imp (ps_expr he hs) ?_
  rintro D σ H ⟨G, ρ, env, S, hE, hS, h⟩
  exact ⟨G, ρ, env, S, hE, hS, OkS.thn hE h fun d S1 v ρ1 H1 r1 x1 k1 h1 => h1 σ ρ1 H1 (hE.keep k1) r1 Keep.refl⟩
def sRet (m : M D) : MS := fun env S => (m env S).then env fun d S1 => .ret d S1
theorem js_ret {m : M D} (he : PE X e (tE X.K cA W m)) : PS X (.Return (some e) pos) (tS X.K cA W (sRet m)) := by
  refine ps_imp (ps_ret he) ?_
  rintro D σ H ⟨G, ρ, env, S, hE, hS, h⟩
  exact ⟨G, ρ, env, S, hE, hS, OkS.thn hE h fun d S1 v ρ1 H1 r1 x1 k1 h1 => h1 v ρ1 H1 r1 x1 Keep.refl⟩
theorem js_retN : PS X (.Return none pos) (tS X.K cA W fun _ S => .ret .non S) := ps_imp ps_retN fun D σ H ⟨G, ρ, env, S, hE, hS, h⟩ => h .non ρ H hS rfl Keep.refl
def sIf (c : M Bool) (m n : MS) : MS := fun env S => (c env S).then env fun b S1 => if b = true then m env S1 else n env S1
theorem js_if {mc : M Bool} {m n : MS} {a b : List Stmt} (hc : PT X c (tT X.K cA W mc)) (ha : PSs X a (tS X.K cA W m)) (hb : PSs X b (tS X.K cA W n)) : PS X (.If c a b pos) (tS X.K cA W (sIf mc m n)) := by
  refine ps_imp (ps_if hc ha hb) ?_
  rintro D σ H ⟨G, ρ, env, S, hE, hS, h⟩
  refine ⟨G, ρ, env, S, hE, hS, OkS.thn hE h fun x S1 v ρ1 H1 r1 x1 k1 h1 => ?_⟩
  cases (show v = x from x1)
  cases x with
  | true => exact iteT ⟨G, ρ1, env, S1, hE.keep k1, r1, h1⟩
  | false => exact iteF ⟨G, ρ1, env, S1, hE.keep k1, r1, h1⟩
/-! ### targets -/
abbrev Pat := D → En → Option En
def tG (K : PySem.W.Frag) (p : Pat) : TG := fun v σ H Q => ∃ G ρ env d, RelE K G ρ H env σ ∧ Rep K G ρ H d v ∧ match p d env with
  | some env' => ∀ σ', RelE K G ρ H env' σ' → Q σ' H
  | none => False
abbrev Pats := List D → En → Option En
def tGs (K : PySem.W.Frag) (p : Pats) : TGs := fun vs σ H Q => ∃ G ρ env ds, RelE K G ρ H env σ ∧ RepL K G ρ H ds vs ∧ match p ds env with
  | some env' => ∀ σ', RelE K G ρ H env' σ' → Q σ' H
  | none => False
def pName (i : Nat) : Pat := fun d env => some (env.set i (some d))
def pNil : Pats := fun ds env => match ds with
  | [] => some env
  | _ => none
def pCons (p : Pat) (q : Pats) : Pats := fun ds env => match ds with
  | d :: r => (p d env).bind fun e => q r e
  | [] => none
def pTup (n : Nat) (q : Pats) : Pat := fun d env => match d with
  | .tup ds => if ds.length = n then q ds env else none
  | _ => none
theorem jg_name (i : Nat) {x : Str} (hN : X.N.Nodup) (hi : X.N[i]? = some x := by rfl) (hx : Loc X.env.scope x := by first | exact Or.inl rfl | exact Or.inr rfl) (hf : X.fn x = true ∨ X.env.scope.names.lookup x = some .local := by first | exact .inl rfl | exact .inr rfl | assumption) : PG X (.Name x pos) (tG X.K (pName i)) :=
  pg_imp (pg_name hN hi hx hf) fun v σ H Q ⟨G, ρ, env, d, hE, hd, h⟩ => h _ (hE.set hd)
theorem pgs_imp {es : List Expr} {t t' : TGs} (h : PGs X es t) (i : ∀ v σ H Q, t' v σ H Q → t v σ H Q) : PGs X es t' := ⟨fun pins s σ H v u Q I r hw => h.run pins s σ H v u Q I r (i v σ H Q hw)⟩
theorem jgs_nil : PGs X [] (tGs X.K pNil) := pgs_imp pgs_nil fun vs σ H Q ⟨G, ρ, env, ds, hE, hd, h⟩ => by
  cases ds with
  | nil => exact ⟨hd, h σ hE⟩
  | cons d r => exact h.elim
theorem jgs_cons {tg : Expr} {es : List Expr} {p : Pat} {q : Pats} (h1 : PG X tg (tG X.K p)) (h2 : PGs X es (tGs X.K q))
    (hs : (assignEach (tg :: es) X.env).map (·.2) = assign tg X.env :: (assignEach es X.env).map (·.2) := by rfl) : PGs X (tg :: es) (tGs X.K (pCons p q)) := by
  refine pgs_imp (pgs_cons h1 h2 hs) ?_
  rintro vs σ H Q ⟨G, ρ, env, ds, hE, hd, h⟩
  cases ds with
  | nil => exact h.elim
  | cons d r =>
    obtain ⟨v, vs', rfl, x1, x2⟩ := hd
    refine ⟨v, vs', rfl, G, ρ, env, d, hE, x1, ?_⟩
    revert h
    show (match (p d env).bind fun e => q r e with | some env' => ∀ σ', RelE X.K G ρ H env' σ' → Q σ' H | none => False) → _
    cases p d env with
    | none => exact fun h => h
    | some e1 => exact fun h σ1 hE1 => ⟨G, ρ, e1, r, hE1, x2, h⟩
theorem jg_tup {es : List Expr} {k : Nat} {n : Nat} {q : Pats} (hc : X.calm = true) (h : PGs X es (tGs X.K q)) (hn : (assignEach es X.env).length = n := by rfl) (hst : (assignEach es X.env).findIdx? (·.1) = none := by rfl) : PG X (.Tuple es k pos) (tG X.K (pTup n q)) := by
  refine pg_imp (pg_tup hc h hn hst) ?_
  rintro v σ H Q ⟨G, ρ, env, d, hE, hd, h⟩
  cases d with
  | tup ds =>
    obtain ⟨a, vs, rfl, x1, x2⟩ := hd
    have h : (match (if ds.length = n then q ds env else none) with | some env' => ∀ σ', RelE X.K G ρ H env' σ' → Q σ' H | none => False) := h
    by_cases hl : ds.length = n
    · rw [if_pos hl] at h
      exact ⟨a, vs, rfl, x1, by rw [x2.length]; exact hl, G, ρ, env, ds, hE, x2, h⟩
    · rw [if_neg hl] at h
      exact h.elim
  | _ => exact h.elim
/-! ### assignments -/
def sAsg (m : M D) (p : Pat) : MS := fun env S => (m env S).then env fun d S1 => match p d env with
  | some e' => .next e' S1
  | none => .bad
theorem asg_read {m : M D} {p : Pat} : ∀ D σ H, tS X.K cA W (sAsg m p) D σ H → tAsg (tE X.K cA W m) (tG X.K p) D σ H := by
  rintro D σ H ⟨G, ρ, env, S, hE, hS, h⟩
  refine ⟨G, ρ, env, S, hE, hS, OkS.thn hE h fun d S1 v ρ1 H1 r1 x1 k1 h1 => ⟨G, ρ1, env, d, hE.keep k1, x1, ?_⟩⟩
  revert h1
  cases p d env with
  | none => exact fun h => h
  | some e1 => exact fun h σ1 hE1 => h σ1 ρ1 H1 hE1 r1 Keep.refl
theorem js_asg {tg : Expr} {m : M D} {p : Pat} (he : PE X e (tE X.K cA W m)) (hg : PG X tg (tG X.K p)) (hs : swapsWithSole [tg] e pos.line X.env = pure false := by rfl) (hw : swappedStores [tg] e X.env = pure none := by rfl)
    (h1 : (assignEach [tg] X.env).map (·.2) = [assign tg X.env] := by rfl) : PS X (.Assign [tg] e pos) (tS X.K cA W (sAsg m p)) :=
  ps_imp (ps_asg he hg hs hw h1) asg_read
theorem js_set (i : Nat) {x : Str} {m : M D} {pos' : Pos} (hN : X.N.Nodup) (he : PE X e (tE X.K cA W m)) (hi : X.N[i]? = some x := by rfl) (hx : Loc X.env.scope x := by first | exact Or.inl rfl | exact Or.inr rfl) (hs : swapsWith e (some (.Name x pos')) pos.line X.env = pure false := by rfl)
    (hf : X.fn x = true ∨ X.env.scope.names.lookup x = some .local := by first | exact .inl rfl | exact .inr rfl | assumption) : PS X (.Assign [.Name x pos'] e pos) (tS X.K cA W (sAsg m (pName i))) := by
  refine ps_imp (ps_set hN hi hx he hs hf) ?_
  intro D σ H h
  obtain ⟨G, ρ, env, S, hE, hS, h⟩ := h
  refine ⟨G, ρ, env, S, hE, hS, OkS.thn hE h fun d S1 v ρ1 H1 r1 x1 k1 h1 => ?_⟩
  exact h1 _ ρ1 H1 ((hE.keep k1).set x1) r1 Keep.refl
/-- a, b = e1, e2 -/
def sPar (i j : Nat) (ma : M (List D)) : MS := fun env S => (ma env S).then env fun ds S1 => match ds with
  | [d, d'] => .next ((env.set i (some d)).set j (some d')) S1
  | _ => .bad
theorem js_par (i j : Nat) {x y : Str} {a b : Expr} {ma : M (List D)} {px py pt : Pos} {kt k2 pt2} (hc : X.calm = true) (hN : X.N.Nodup) (ha : PA X [a, b] (tAr X.K cA W ma)) (hi : X.N[i]? = some x := by rfl) (hj : X.N[j]? = some y := by rfl) (hij : i ≠ j := by decide)
    (hx : X.env.scope.names.lookup x = some .local := by rfl) (hy : X.env.scope.names.lookup y = some .local := by rfl) (hw : swappedStores [.Tuple [.Name x px, .Name y py] kt pt] (.Tuple [a, b] k2 pt2) X.env = pure (some [x, y]) := by rfl)
    (hs : swapsWithSole [.Tuple [.Name x px, .Name y py] kt pt] (.Tuple [a, b] k2 pt2) pos.line X.env = pure false := by rfl) : PS X (.Assign [.Tuple [.Name x px, .Name y py] kt pt] (.Tuple [a, b] k2 pt2) pos) (tS X.K cA W (sPar i j ma)) := by
  refine ps_imp (ps_par hc hN hi hj hij hx hy ha hw hs) ?_
  rintro D σ H ⟨G, ρ, env, S, hE, hS, h⟩
  refine ⟨G, ρ, env, S, hE, hS, OkS.thn hE h fun ds S1 vs ρ1 H1 r1 x1 k1 h1 => ?_⟩
  match ds, h1 with
  | [d, d'], h1 =>
    obtain ⟨v, _, rfl, q1, v', _, rfl, q2, rfl⟩ := x1
    exact ⟨v, v', rfl, h1 _ ρ1 H1 (((hE.keep k1).set q1).set q2) r1 Keep.refl⟩
  | [], h1 => exact h1.elim
  | [_], h1 => exact h1.elim
  | _ :: _ :: _ :: _, h1 => exact h1.elim
/-! ### o[i] = e -/
def sSet (mv mo mi : M D) (f : D → D → D → Store → Option Store) : MS := fun env S => (mv env S).then env fun v S1 => (mo env S1).then env fun o S2 => (mi env S2).then env fun i S3 => match f o i v S3 with
  | some S4 => .next env S4
  | none => .bad
def SetD (K : PySem.W.Frag) (r : TSet) (f : D → D → D → Store → Option Store) : Prop :=
  ∀ G ρ H S do_ di dv o i v S', RelS K G ρ S H → Rep K G ρ H do_ o → Rep K G ρ H di i → Rep K G ρ H dv v → f do_ di dv S = some S' → ∀ Q : Hp → Prop, (∀ H', RelS K G ρ S' H' → Keep G ρ H ρ H' → Q H') → r o i v H Q
theorem js_sub {o i : Expr} {mv mo mi : M D} {r : TSet} {f : D → D → D → Store → Option Store} {pos' : Pos} (hv : PE X e (tE X.K cA W mv)) (ho : PE X o (tE X.K cA W mo)) (hi : PE X i (tE X.K cA W mi)) (hs : PSet X r) (hd : SetD X.K r f)
    (ha : ∀ v, assign (.Subscript o i pos') X.env v = (do
      let ov ← holding [v] (eval o X.env)
      let iv ← holding [v, ov] (eval i X.env)
      standAt pos'
      holding [v, ov, iv] (setItem ov iv v)
      release [v, ov, iv] []) := by intro _; rfl) (hsw : swapsWithSole [.Subscript o i pos'] e pos.line X.env = pure false := by rfl) (hw : swappedStores [.Subscript o i pos'] e X.env = pure none := by rfl)
    (h1 : (assignEach [.Subscript o i pos'] X.env).map (·.2) = [assign (.Subscript o i pos') X.env] := by rfl) : PS X (.Assign [.Subscript o i pos'] e pos) (tS X.K cA W (sSet mv mo mi f)) := by
  refine ps_imp (ps_asg hv (pg_sub ho hi hs ha) hsw hw h1) ?_
  rintro D σ H ⟨G, ρ, env, S, hE, hS, h⟩
  refine ⟨G, ρ, env, S, hE, hS, OkS.thn hE h fun dv S1 v ρ1 H1 r1 x1 k1 h1 => ?_⟩
  refine ⟨G, ρ1, env, S1, hE.keep k1, r1, OkS.thn (hE.keep k1) h1 fun d0 S2 o ρ2 H2 r2 x2 k2 h2 => ?_⟩
  refine ⟨G, ρ2, env, S2, (hE.keep k1).keep k2, r2, OkS.thn ((hE.keep k1).keep k2) h2 fun di S3 i ρ3 H3 r3 x3 k3 h3 => ?_⟩
  revert h3
  cases e4 : f d0 di dv S3 with
  | none => exact fun h => h.elim
  | some S4 =>
    intro h3
    exact hd G ρ3 H3 S3 d0 di dv o i v S4 r3 (Rep.keep k3 _ _ x2) x3 (Rep.keep (k2.trans k3) _ _ x1) e4 _ fun H4 r4 k4 => h3 σ ρ3 H4 (((hE.keep k1).keep k2).keep (k3.trans k4)) r4 k4
/-! ### x op= e -/
def IpD (K : PySem.W.Frag) (r : TIp) (f : D → D → Store → Res D) : Prop :=
  ∀ G ρ H S d1 d2 v1 v2 E Q, RelS K G ρ S H → Rep K G ρ H d1 v1 → Rep K G ρ H d2 v2 → Ok K G (Rep K G) ρ H (f d1 d2 S) E Q → r v1 v2 H Q
def sAug (i : Nat) (m : M D) (f : D → D → Store → Res D) : MS := fun env S => match env[i]? with
  | some (some d) => (m env S).then env fun y S1 => (f d y S1).then env fun z S2 => .next (env.set i (some z)) S2
  | _ => .bad
theorem js_aug (i : Nat) {x : Str} {m : M D} {op : Operator} {r : TIp} {f : D → D → Store → Res D} {pos' : Pos} (hN : X.N.Nodup) (he : PE X e (tE X.K cA W m)) (ho : PIp X op r) (hd : IpD X.K r f) (hi : X.N[i]? = some x := by rfl) (hx : Loc X.env.scope x := by first | exact Or.inl rfl | exact Or.inr rfl)
    (hf : X.fn x = true ∨ X.env.scope.names.lookup x = some .local := by first | exact .inl rfl | exact .inr rfl | assumption) : PS X (.AugAssign (.Name x pos') op e pos) (tS X.K cA W (sAug i m f)) := by
  refine ps_imp (ps_aug hN hi hx he ho hf) ?_
  rintro D σ H ⟨G, ρ, env, S, hE, hS, h⟩
  unfold sAug at h
  split at h
  · rename_i d ed
    obtain ⟨v, h1, h2⟩ := hE.get i d ed
    refine ⟨v, h1, G, ρ, env, S, hE, hS, OkS.thn hE h fun y S1 u ρ1 H1 r1 x1 k1 h1 => ?_⟩
    refine hd G ρ1 H1 S1 d y v u (WE' cA W σ) _ r1 (Rep.keep k1 _ _ h2) x1 (OkS.thn (hE.keep k1) h1 fun z S2 w ρ2 H2 r2 x2 k2 h2 => ?_)
    exact h2 _ ρ2 H2 (((hE.keep k1).keep k2).set x2) r2 Keep.refl
  · exact h.elim
end
/-! ### loops -/
structure IT where
  ds : List D
  cells : List (Nat × List D)
def IT.chk (t : IT) (S : Store) : Prop := ∀ p ∈ t.cells, S[p.1]? = some (.lst p.2)
/-- as Keep, with more guarded -/
structure Keep2 (G : Addr → Prop) (ρ : List Addr) (H : Hp) (G' : Addr → Prop) (ρ' : List Addr) (H' : Hp) : Prop where
  pre : ∃ t, ρ' = ρ ++ t
  tup : ∀ a xs, Rd H a (.tup xs) → Rd H' a (.tup xs)
  lst : ∀ a xs, a ∉ ρ → ¬ G a → H a = some (.lst xs) → a ∉ ρ' ∧ ¬ G' a ∧ H' a = some (.lst xs)
  frz : ∀ a o u, H a = some (.frz o u) → H' a = some (.frz o u)
theorem Keep.two {G : Addr → Prop} {ρ ρ' : List Addr} {H H' : Hp} (k : Keep G ρ H ρ' H') : Keep2 G ρ H G ρ' H' := ⟨k.pre, k.tup, fun a xs h1 h2 h3 => let ⟨q1, q2⟩ := k.lst a xs h1 h2 h3; ⟨q1, h2, q2⟩, k.frz⟩
section
variable {K : PySem.W.Frag} {G G' : Addr → Prop} {ρ ρ' : List Addr} {H H' : Hp}
theorem Keep2.get (k : Keep2 G ρ H G' ρ' H') {n : Nat} {a : Addr} (h : ρ[n]? = some a) : ρ'[n]? = some a := by
  obtain ⟨t, rfl⟩ := k.pre
  have hn : n < ρ.length := (List.getElem?_eq_some_iff.mp h).1
  rw [List.getElem?_append_left hn]
  exact h
theorem Keep2.sqT (k : Keep2 G ρ H G' ρ' H') {a : Addr} {xs : List V} (h : SqT K H a xs) : SqT K H' a xs := by
  rcases h with h | h
  · exact .inl (k.tup a xs h)
  · exact .inr h
theorem Keep2.frL (k : Keep2 G ρ H G' ρ' H') {a : Addr} {xs : List V} (h : FrL G ρ H a xs) : FrL G' ρ' H' a xs :=
  k.lst a xs h.1 h.2.1 h.2.2
theorem Keep2.fzL (k : Keep2 G ρ H G' ρ' H') {a : Addr} {xs : List V} (h : FzL K H a xs) : FzL K H' a xs := by
  rcases h with ⟨o, h⟩ | h
  · exact .inl ⟨o, k.frz a o _ h⟩
  · exact .inr h
mutual
theorem Rep.keep2 (k : Keep2 G ρ H G' ρ' H') : ∀ (d : D) (v : V), Rep K G ρ H d v → Rep K G' ρ' H' d v
  | .non, _, h => h
  | .bl _, _, h => h
  | .int _, _, h => h
  | .str _, _, h => h
  | .ty _, _, h => h
  | .tup ds, v, h => by
    obtain ⟨a, vs, e, h1, h2⟩ := h
    exact ⟨a, vs, e, k.sqT h1, RepL.keep2 k ds vs h2⟩
  | .lst ds, v, h => by
    obtain ⟨a, vs, e, h1, h2⟩ := h
    exact ⟨a, vs, e, k.frL h1, RepL.keep2 k ds vs h2⟩
  | .fz ds, v, h => by
    obtain ⟨a, vs, e, h1, h2⟩ := h
    exact ⟨a, vs, e, k.fzL h1, RepL.keep2 k ds vs h2⟩
  | .cell n, v, h => by
    obtain ⟨a, e, h1⟩ := h
    exact ⟨a, e, k.get h1⟩
theorem RepL.keep2 (k : Keep2 G ρ H G' ρ' H') : ∀ (ds : List D) (vs : List V), RepL K G ρ H ds vs → RepL K G' ρ' H' ds vs
  | [], _, h => h
  | d :: ds, vs, h => by
    obtain ⟨v, vs', e, h1, h2⟩ := h
    exact ⟨v, vs', e, Rep.keep2 k d v h1, RepL.keep2 k ds vs' h2⟩
end
theorem RepKV.keep2 (k : Keep2 G ρ H G' ρ' H') : ∀ (ds : List (Key × D)) (vs : List (Key × V)), RepKV K G ρ H ds vs → RepKV K G' ρ' H' ds vs
  | [], _, h => h
  | (x, d) :: ds, vs, h => by
    obtain ⟨v, vs', e, h1, h2⟩ := h
    exact ⟨v, vs', e, Rep.keep2 k d v h1, RepKV.keep2 k ds vs' h2⟩
end
structure WD (K : PySem.W.Frag) (G : Addr → Prop) (ρ : List Addr) (H : Hp) (t : IT) (J : It) : Prop where
  go : ∀ G1 ρ1 S1 H1 i, Keep2 G ρ H G1 ρ1 H1 → RelS K G1 ρ1 S1 H1 → t.chk S1 → i < t.ds.length → J.go i H1
  stop : ∀ G1 ρ1 S1 H1, Keep2 G ρ H G1 ρ1 H1 → RelS K G1 ρ1 S1 H1 → t.chk S1 → J.stop t.ds.length H1
  yld : ∀ G1 ρ1 S1 H1 (i : Nat) d x H2, Keep2 G ρ H G1 ρ1 H1 → RelS K G1 ρ1 S1 H1 → t.chk S1 → t.ds[i]? = some d → J.yld i H1 x H2 → Rep K G1 ρ1 H2 d x ∧ Keep G1 ρ1 H1 ρ1 H2 ∧ RelS K G1 ρ1 S1 H2
def tI (K : PySem.W.Frag) (cA : Nat → Addr) (W : WX) (m : M IT) : TI := fun σ H R => ∃ G ρ env S, RelE K G ρ H env σ ∧ RelS K G ρ S H ∧ Ok K G (WD K G) ρ H (m env S) (WE' cA W σ) R
open Classical in
noncomputable def loopD (p : Pat) (body : MS) (dead : List Nat) (chk : Store → Prop) : List D → En → Store → RS
  | [], env, S => if chk S then .next env S else .bad
  | d :: ds, env, S => if chk S then (match p d env with
    | none => .bad
    | some e1 => match body e1 S with
      | .next e2 S2 => loopD p body dead chk ds (clr e2 dead) S2
      | .cont e2 S2 => loopD p body dead chk ds (clr e2 dead) S2
      | .brk e2 S2 => .next (clr e2 dead) S2
      | r => r) else .bad
noncomputable def sFor (m : M IT) (p : Pat) (body : MS) (dead : List Nat) : MS := fun env S => (m env S).then env fun t S1 => loopD p body dead t.chk t.ds (clr env dead) S1
section
variable {X : Cx} {e c tg : Expr} {pos : Pos} {cA : Nat → Addr} {W : WX}
theorem js_for {iter : Expr} {bd : List Stmt} {m : M IT} {p : Pat} {body : MS} (dead : List Nat) (hp : PassesOwn (model X.prog X.w) X.A X.env X.xe) (hc : X.calm = true) (hi : PI X tg iter (tI X.K cA W m)) (hg : PG X tg (tG X.K p)) (hb : PSs X bd (tS X.K cA W body))
    (hs : ∀ x, foldedSetIterable iter X.env x = pure x := by intro _; rfl) : PS X (.For tg iter bd [] pos) (tS X.K cA W (sFor m p body dead)) := by
  refine ps_imp (ps_for hp hc hi hg hb hs) ?_
  rintro D σ H ⟨G, ρ, env, S, hE, hS, h⟩
  refine ⟨G, ρ, env, S, hE, hS, OkS.thn hE h fun t S1 J ρ1 H1 r1 wd k1 h1 => ?_⟩
  let P : Nat → L2.St → Hp → Prop := fun i σ' H' => ∃ ρ' env' S', RelE X.K G ρ' H' env' σ' ∧ RelS X.K G ρ' S' H' ∧ Keep G ρ1 H1 ρ' H' ∧ OkS X.K cA W G ρ' H' D (loopD p body dead t.chk (t.ds.drop i) env' S')
  refine ⟨fun i m σ' H' => m = t.ds.length - i ∧ i ≤ t.ds.length ∧ P i σ' H', ⟨t.ds.length, rfl, Nat.zero_le _, ρ1, clr env dead, S1, (hE.keep k1).clr dead, r1, Keep.refl, h1⟩, ?_⟩
  rintro i m σ' H' ⟨rfl, hi, ρ2, env2, S2, e2, r2, k2, h2⟩
  by_cases hlt : i < t.ds.length
  · have hd : t.ds.drop i = t.ds[i] :: t.ds.drop (i + 1) := (List.getElem_cons_drop hlt).symm
    rw [hd] at h2
    unfold loopD at h2
    by_cases hch : t.chk S2
    · rw [if_pos hch] at h2
      refine .inr ⟨wd.go G ρ2 S2 H' i k2.two r2 hch hlt, P (i + 1), fun σ3 H3 q => ⟨t.ds.length - (i + 1), by omega, rfl, hlt, q⟩, fun x H3 hy => ?_⟩
      obtain ⟨x3, k3, r3⟩ := wd.yld G ρ2 S2 H' i t.ds[i] x H3 k2.two r2 hch (by rw [List.getElem?_eq_getElem hlt]) hy
      refine ⟨G, ρ2, env2, t.ds[i], e2.keep k3, x3, ?_⟩
      revert h2
      cases p t.ds[i] env2 with
      | none => exact fun h => h
      | some en1 =>
        intro h2 σ3 e3
        refine ⟨G, ρ2, en1, S2, e3, r3, ?_⟩
        have h2 := h2.keep k3
        revert h2
        show OkS X.K cA W G ρ2 H3 D (match body en1 S2 with | .next e2 S2 => _ | .cont e2 S2 => _ | .brk e2 S2 => _ | r => r) → _
        cases body en1 S2 with
        | next e4 S4 => exact fun h2 σ4 ρ4 H4 q1 q2 q3 => ⟨ρ4, _, S4, q1.clr dead, q2, (k2.trans k3).trans q3, h2.keep q3⟩
        | cont e4 S4 => exact fun h2 σ4 ρ4 H4 q1 q2 q3 => ⟨ρ4, _, S4, q1.clr dead, q2, (k2.trans k3).trans q3, h2.keep q3⟩
        | brk e4 S4 => exact fun h2 σ4 ρ4 H4 q1 q2 q3 => h2 σ4 ρ4 H4 (q1.clr dead) q2 q3
        | ret d S4 => exact fun h2 => h2
        | err c e4 S4 => exact fun h2 => h2
        | bad => exact fun h2 => h2
    · rw [if_neg hch] at h2
      exact h2.elim
  · have e : i = t.ds.length := by omega
    subst e
    rw [List.drop_length] at h2
    unfold loopD at h2
    by_cases hch : t.chk S2
    · rw [if_pos hch] at h2
      exact .inl ⟨wd.stop G ρ2 S2 H' k2.two r2 hch, h2 σ' ρ2 H' e2 r2 Keep.refl⟩
    · rw [if_neg hch] at h2
      exact h2.elim
/-- while -/
def whileD (c : M Bool) (body : MS) (dead : List Nat) : Nat → En → Store → RS
  | 0, _, _ => .bad
  | n + 1, env, S => match c env S with
    | .ok true S1 => (match body env S1 with
      | .next e2 S2 => whileD c body dead n (clr e2 dead) S2
      | .cont e2 S2 => whileD c body dead n (clr e2 dead) S2
      | .brk e2 S2 => .next (clr e2 dead) S2
      | r => r)
    | .ok false S1 => .next env S1
    | .err k S1 => .err k env S1
    | .bad => .bad
def sWhile (fuel : Nat) (c : M Bool) (body : MS) (dead : List Nat) : MS := fun env S => whileD c body dead fuel (clr env dead) S
theorem js_while {bd : List Stmt} {mc : M Bool} {body : MS} (fuel : Nat) (dead : List Nat) (hp : PassesOwn (model X.prog X.w) X.A X.env X.xe) (hc : PT X c (tT X.K cA W mc)) (hb : PSs X bd (tS X.K cA W body)) : PS X (.While c bd [] pos) (tS X.K cA W (sWhile fuel mc body dead)) := by
  refine ps_imp (ps_while hp hc hb) ?_
  rintro D σ H ⟨G, ρ, env, S, hE, hS, h⟩
  refine ⟨fun m σ' H' => ∃ ρ' env' S', RelE X.K G ρ' H' env' σ' ∧ RelS X.K G ρ' S' H' ∧ OkS X.K cA W G ρ' H' D (whileD mc body dead m env' S'), ⟨fuel, ρ, clr env dead, S, hE.clr dead, hS, h⟩, ?_⟩
  rintro m σ' H' ⟨ρ2, env2, S2, e2, r2, h2⟩
  cases m with
  | zero => exact h2.elim
  | succ m =>
    unfold whileD at h2
    refine ⟨G, ρ2, env2, S2, e2, r2, ?_⟩
    revert h2
    cases mc env2 S2 with
    | bad => exact fun h => h
    | err k S3 => exact fun h ρ3 H3 q1 q2 => h σ' ρ3 H3 (e2.keep q2) q1 q2
    | ok b S3 =>
      intro h2 b' ρ3 H3 r3 eb k3
      cases (show b' = b from eb)
      cases b with
      | false => exact iteF (h2 σ' ρ3 H3 (e2.keep k3) r3 k3)
      | true =>
        refine iteT ⟨fun σ4 H4 => ∃ ρ' env' S', RelE X.K G ρ' H4 env' σ4 ∧ RelS X.K G ρ' S' H4 ∧ OkS X.K cA W G ρ' H4 D (whileD mc body dead m env' S'), fun σ4 H4 q => ⟨m, Nat.lt_succ_self m, q⟩, G, ρ3, env2, S3, e2.keep k3, r3, ?_⟩
        have h2 := h2.keep k3
        revert h2
        show OkS X.K cA W G ρ3 H3 D (match body env2 S3 with | .next e2 S2 => _ | .cont e2 S2 => _ | .brk e2 S2 => _ | r => r) → _
        cases body env2 S3 with
        | next e4 S4 => exact fun h2 σ4 ρ4 H4 q1 q2 q3 => ⟨ρ4, _, S4, q1.clr dead, q2, h2.keep q3⟩
        | cont e4 S4 => exact fun h2 σ4 ρ4 H4 q1 q2 q3 => ⟨ρ4, _, S4, q1.clr dead, q2, h2.keep q3⟩
        | brk e4 S4 => exact fun h2 σ4 ρ4 H4 q1 q2 q3 => h2 σ4 ρ4 H4 (q1.clr dead) q2 q3
        | ret d S4 => exact fun h2 => h2
        | err c e4 S4 => exact fun h2 => h2
        | bad => exact fun h2 => h2
end
end Rf

namespace Rf
open PySem PySem.Spec PyProof.Rows L2

/-! ### defs -/
section
variable {K : PySem.W.Frag} {G : Addr → Prop} {ρ ρ' t : List Addr} {H H' : Hp} {S S' : Store}
mutual
theorem Rep.below : ∀ (d : D) (v : V), Rep K G ρ H d v → below ρ.length d
  | .non, _, _ => trivial
  | .bl _, _, _ => trivial
  | .int _, _, _ => trivial
  | .str _, _, _ => trivial
  | .ty _, _, _ => trivial
  | .tup ds, v, h => by
    obtain ⟨a, vs, e, h1, h2⟩ := h
    exact RepL.below ds vs h2
  | .lst ds, v, h => by
    obtain ⟨a, vs, e, h1, h2⟩ := h
    exact RepL.below ds vs h2
  | .fz ds, v, h => by
    obtain ⟨a, vs, e, h1, h2⟩ := h
    exact RepL.below ds vs h2
  | .cell n, v, h => by
    obtain ⟨a, e, h1⟩ := h
    exact (List.getElem?_eq_some_iff.mp h1).1
theorem RepL.below : ∀ (ds : List D) (vs : List V), RepL K G ρ H ds vs → belowL ρ.length ds
  | [], _, _ => trivial
  | d :: ds, vs, h => by
    obtain ⟨v, vs', e, h1, h2⟩ := h
    exact ⟨Rep.below d v h1, RepL.below ds vs' h2⟩
end
mutual
theorem pure_below (n : Nat) : ∀ d : D, pureD d = true → below n d
  | .non, _ => trivial
  | .bl _, _ => trivial
  | .int _, _ => trivial
  | .str _, _ => trivial
  | .ty _, _ => trivial
  | .tup ds, h => pureL_below n ds h
  | .lst ds, h => pureL_below n ds h
  | .fz ds, h => pureL_below n ds h
  | .cell k, h => by cases h
theorem pureL_below (n : Nat) : ∀ ds : List D, pureL ds = true → belowL n ds
  | [], _ => trivial
  | d :: ds, h => by
    have h : (pureD d && pureL ds) = true := h
    rw [Bool.and_eq_true] at h
    exact ⟨pure_below n d h.1, pureL_below n ds h.2⟩
end
mutual
theorem Rep.sub {n : Nat} {ρ1 ρ2 : List Addr} (hn : ∀ i, i < n → ρ2[i]? = ρ1[i]?) (hm : ∀ a ∈ ρ2, a ∈ ρ1) : ∀ (d : D) (v : V), below n d → Rep K G ρ1 H d v → Rep K G ρ2 H d v
  | .non, _, _, h => h
  | .bl _, _, _, h => h
  | .int _, _, _, h => h
  | .str _, _, _, h => h
  | .ty _, _, _, h => h
  | .tup ds, v, b, h => by
    obtain ⟨a, vs, e, h1, h2⟩ := h
    exact ⟨a, vs, e, h1, RepL.sub hn hm ds vs b h2⟩
  | .lst ds, v, b, h => by
    obtain ⟨a, vs, e, h1, h2⟩ := h
    exact ⟨a, vs, e, ⟨fun z => h1.1 (hm _ z), h1.2⟩, RepL.sub hn hm ds vs b h2⟩
  | .fz ds, v, b, h => by
    obtain ⟨a, vs, e, h1, h2⟩ := h
    exact ⟨a, vs, e, h1, RepL.sub hn hm ds vs b h2⟩
  | .cell k, v, b, h => by
    obtain ⟨a, e, h1⟩ := h
    exact ⟨a, e, by rw [hn k b]; exact h1⟩
theorem RepL.sub {n : Nat} {ρ1 ρ2 : List Addr} (hn : ∀ i, i < n → ρ2[i]? = ρ1[i]?) (hm : ∀ a ∈ ρ2, a ∈ ρ1) : ∀ (ds : List D) (vs : List V), belowL n ds → RepL K G ρ1 H ds vs → RepL K G ρ2 H ds vs
  | [], _, _, h => h
  | d :: ds, vs, b, h => by
    obtain ⟨v, vs', e, h1, h2⟩ := h
    exact ⟨v, vs', e, Rep.sub hn hm d v b.1 h1, RepL.sub hn hm ds vs' b.2 h2⟩
end
theorem RepKV.sub {n : Nat} {ρ1 ρ2 : List Addr} (hn : ∀ i, i < n → ρ2[i]? = ρ1[i]?) (hm : ∀ a ∈ ρ2, a ∈ ρ1) : ∀ (ds : List (Key × D)) (vs : List (Key × V)), (∀ p ∈ ds, Rf.below n p.2) → RepKV K G ρ1 H ds vs → RepKV K G ρ2 H ds vs
  | [], _, _, h => h
  | (x, d) :: ds, vs, b, h => by
    obtain ⟨v, vs', e, h1, h2⟩ := h
    exact ⟨v, vs', e, Rep.sub hn hm d v (b (x, d) List.mem_cons_self) h1, RepKV.sub hn hm ds vs' (fun p hp => b p (List.mem_cons_of_mem _ hp)) h2⟩
theorem pre_get {i : Nat} (h : i < ρ.length) : ρ[i]? = (ρ ++ t)[i]? := by rw [List.getElem?_append_left h]
theorem Rep.cut (d : D) (v : V) (b : Rf.below ρ.length d) (h : Rep K G (ρ ++ t) H d v) : Rep K G ρ H d v := Rep.sub (fun _ hi => pre_get hi) (fun _ z => List.mem_append_left _ z) d v b h
theorem RepL.cut (d : List D) (v : List V) (b : belowL ρ.length d) (h : RepL K G (ρ ++ t) H d v) : RepL K G ρ H d v := RepL.sub (fun _ hi => pre_get hi) (fun _ z => List.mem_append_left _ z) d v b h
theorem RepKV.below : ∀ (ds : List (Key × D)) (vs : List (Key × V)), RepKV K G ρ H ds vs → ∀ p ∈ ds, below ρ.length p.2
  | [], _, _, _, hp => nomatch hp
  | (x, d) :: ds, vs, h, p, hp => by
    obtain ⟨v, vs', e, h1, h2⟩ := h
    rcases List.mem_cons.mp hp with rfl | hp
    · exact Rep.below d v h1
    · exact RepKV.below ds vs' h2 p hp
def stOk (S S' : Store) : Prop := S.length ≤ S'.length ∧ ∀ i, i < S.length → S'[i]? = S[i]? ∨ ∃ ob, S'[i]? = some ob ∧ ob.pure = true
theorem stOk_app (S L : Store) : stOk S (S ++ L) := ⟨by simp, fun i hi => .inl (List.getElem?_append_left hi)⟩
theorem stOk_refl (S : Store) : stOk S S := ⟨Nat.le_refl _, fun i hi => .inl rfl⟩
theorem Keep.cut (k : Keep G ρ H ρ' H') : Keep G ρ H ρ H' := ⟨⟨[], by simp⟩, k.tup, fun a xs h1 h2 h3 => ⟨h1, (k.lst a xs h1 h2 h3).2⟩, k.frz, k.grd⟩
theorem st_below (r : RelS K G ρ S H) (st : stOk S S') {i : Nat} {o : Ob} (hi : i < S.length) (h1 : S'[i]? = some o) : (match o with | .lst ds => belowL ρ.length ds | .dK kvs => ∀ p ∈ kvs, Rf.below ρ.length p.2) := by
  rcases st.2 i hi with e | ⟨ob, e, hp⟩
  · rw [e] at h1
    obtain ⟨a, _, q0⟩ := r.at h1
    cases o with
    | lst ds => obtain ⟨vs, _, h⟩ := q0; exact RepL.below ds vs h
    | dK kvs => obtain ⟨vs, _, h⟩ := q0; exact RepKV.below kvs vs h
  · rw [e] at h1
    cases h1
    cases o with
    | lst ds => exact pureL_below _ ds hp
    | dK kvs => exact fun p hm => pure_below _ _ (List.all_eq_true.mp hp p hm)
theorem RelS.cut (r : RelS K G ρ S H) (r' : RelS K G ρ' S' H') (k : Keep G ρ H ρ' H') (st : stOk S S') : RelS K G ρ (S'.take S.length) H' := by
  obtain ⟨t, rfl⟩ := k.pre
  refine ⟨by rw [List.length_take, r.len]; have := st.1; omega, r.nd, r.ng, fun a h => r'.gt a h, fun i o a h1 h2 => ?_⟩
  have hi : i < S.length := by rw [← r.len]; exact (List.getElem?_eq_some_iff.mp h2).1
  rw [List.getElem?_take_of_lt hi] at h1
  have h3 : (ρ ++ t)[i]? = some a := by rw [List.getElem?_append_left (by rw [r.len]; exact hi)]; exact h2
  have q := r'.ob i o a h1 h3
  have bl := st_below r st hi h1
  cases o with
  | lst ds => obtain ⟨vs, e, h⟩ := q; exact ⟨vs, e, RepL.cut ds vs bl h⟩
  | dK kvs => obtain ⟨vs, e, h⟩ := q; exact ⟨vs, e, RepKV.sub (fun _ hi => pre_get hi) (fun _ z => List.mem_append_left _ z) kvs vs bl h⟩
/-- one cell of the new ones kept -/
theorem RelS.cut1 (r : RelS K G ρ S H) (r' : RelS K G ρ' S' H') (k : Keep G ρ H ρ' H') (st : stOk S S') {j : Nat} {a : Addr} {ds : List D} (hj : S.length ≤ j) (ha : ρ'[j]? = some a) (eo : S'[j]? = some (.lst ds)) (hq : pureL ds = true) :
    RelS K G (ρ ++ [a]) (S'.take S.length ++ [.lst ds]) H' ∧ Keep G ρ H (ρ ++ [a]) H' ∧ a ∉ ρ := by
  obtain ⟨t, et⟩ := k.pre
  have na : a ∉ ρ := fun hm => by
    obtain ⟨i, hi, ei⟩ := List.getElem_of_mem hm
    have hi' : i < ρ'.length := by rw [et, List.length_append]; omega
    have hj' : j < ρ'.length := (List.getElem?_eq_some_iff.mp ha).1
    have e1 : ρ'[i] = a := by
      have : ρ'[i]? = some a := by rw [et, List.getElem?_append_left hi, List.getElem?_eq_getElem hi, ei]
      exact (List.getElem?_eq_some_iff.mp this).2
    have e2 : ρ'[j] = a := (List.getElem?_eq_some_iff.mp ha).2
    have : i = j := (List.getElem_inj r'.nd).mp (e1.trans e2.symm)
    rw [r.len] at hi
    omega
  have ma : a ∈ ρ' := List.mem_of_getElem? ha
  have hsub : ∀ b ∈ ρ ++ [a], b ∈ ρ' := fun b hb => by
    rcases List.mem_append.mp hb with hb | hb
    · rw [et]; exact List.mem_append_left _ hb
    · simp at hb; rw [hb]; exact ma
  have hget : ∀ i, i < ρ.length → (ρ ++ [a])[i]? = ρ'[i]? := fun i hi => by rw [et, List.getElem?_append_left hi, List.getElem?_append_left hi]
  have k2 : Keep G ρ H (ρ ++ [a]) H' := by
    refine ⟨⟨[a], rfl⟩, k.tup, fun b xs h1 h2 h3 => ?_, k.frz, k.grd⟩
    obtain ⟨q1, q2⟩ := k.lst b xs h1 h2 h3
    exact ⟨fun hb => q1 (hsub b hb), q2⟩
  refine ⟨⟨?_, ?_, fun b hb => r'.ng b (hsub b hb), r'.gt, fun i o b h1 h2 => ?_⟩, k2, na⟩
  · rw [List.length_append, List.length_append, List.length_take, r.len]
    have := st.1
    simp
    omega
  · rw [List.nodup_append]
    refine ⟨r.nd, by simp, fun x hx y hy => ?_⟩
    rintro rfl
    simp at hy
    exact na (hy ▸ hx)
  · have lt : (S'.take S.length).length = S.length := by rw [List.length_take]; have := st.1; omega
    by_cases hi : i < S.length
    · rw [List.getElem?_append_left (by rw [lt]; exact hi), List.getElem?_take_of_lt hi] at h1
      rw [hget i (by rw [r.len]; exact hi)] at h2
      have q := r'.ob i o b h1 h2
      have bl := st_below r st hi h1
      cases o with
      | lst ds => obtain ⟨vs, e, h⟩ := q; exact ⟨vs, e, RepL.sub hget hsub ds vs bl h⟩
      | dK kvs => obtain ⟨vs, e, h⟩ := q; exact ⟨vs, e, RepKV.sub hget hsub kvs vs bl h⟩
    · have hi' : i = S.length := by
        have := (List.getElem?_eq_some_iff.mp h1).1
        rw [List.length_append, lt] at this
        simp at this
        omega
      subst hi'
      rw [List.getElem?_append_right (by rw [lt]; exact Nat.le_refl _), lt] at h1
      simp at h1
      subst h1
      rw [← r.len, List.getElem?_append_right (Nat.le_refl _)] at h2
      simp at h2
      subst h2
      obtain ⟨vs, e, h⟩ := r'.ob j _ a eo ha
      exact ⟨vs, e, RepL.sub hget hsub ds vs (pureL_below _ ds hq) h⟩
end
inductive Mode where
  | val | own
open Classical in
/-- what a def hands back: plain data (a list of its own as a value), or a list of its own as a cell -/
noncomputable def fin (md : Mode) (S : Store) (d : D) (S' : Store) : Res D :=
  if stOk S S' then
    match md with
    | .val => if pureD d = true then .ok d (S'.take S.length) else match d with
      | .cell j => if S.length ≤ j then (match S'[j]? with
        | some (.lst ds) => if pureL ds = true then .ok (.lst ds) (S'.take S.length) else .bad
        | _ => .bad) else .bad
      | _ => .bad
    | .own => match d with
      | .cell j => if S.length ≤ j then (match S'[j]? with
        | some (.lst ds) => if pureL ds = true then .ok (.cell S.length) (S'.take S.length ++ [.lst ds]) else .bad
        | _ => .bad) else .bad
      | _ => .bad
  else .bad
theorem fin_ok {K : PySem.W.Frag} {G : Addr → Prop} {ρ ρ' : List Addr} {H H' : Hp} {S S' : Store} {md : Mode} {d : D} {v : V} {E : Nat → Hp → Prop} {Q : VK} (h : Ok K G (Rep K G) ρ H (fin md S d S') E Q) (r : RelS K G ρ S H) (r' : RelS K G ρ' S' H') (x : Rep K G ρ' H' d v) (k : Keep G ρ H ρ' H') : Q v H' := by
  unfold fin at h
  by_cases st : stOk S S'
  · rw [if_pos st] at h
    have rc := r.cut r' k st
    obtain ⟨t, et⟩ := k.pre
    cases md with
    | val =>
      dsimp only at h
      by_cases hp : pureD d = true
      · rw [if_pos hp] at h
        refine h v ρ H' rc ?_ k.cut
        rw [et] at x
        exact Rep.cut d v (pure_below _ d hp) x
      · rw [if_neg hp] at h
        cases d with
        | cell j =>
          dsimp only at h
          by_cases hj : S.length ≤ j
          · rw [if_pos hj] at h
            obtain ⟨a, rfl, ha⟩ := x
            cases eo : S'[j]? with
            | none => rw [eo] at h; exact h.elim
            | some o =>
              rw [eo] at h
              cases o with
              | dK kvs => exact h.elim
              | lst ds =>
                dsimp only at h
                by_cases hq : pureL ds = true
                · rw [if_pos hq] at h
                  obtain ⟨vs, e, q⟩ := r'.ob j _ a eo ha
                  obtain ⟨_, _, na⟩ := r.cut1 r' k st hj ha eo hq
                  refine h (.ref a) ρ H' rc ⟨a, vs, rfl, ⟨na, r'.ng a (List.mem_of_getElem? ha), e⟩, ?_⟩ k.cut
                  rw [et] at q
                  exact RepL.cut ds vs (pureL_below _ ds hq) q
                · rw [if_neg hq] at h; exact h.elim
          · rw [if_neg hj] at h; exact h.elim
        | _ => exact h.elim
    | own =>
      cases d with
      | cell j =>
        dsimp only at h
        by_cases hj : S.length ≤ j
        · rw [if_pos hj] at h
          obtain ⟨a, rfl, ha⟩ := x
          cases eo : S'[j]? with
          | none => rw [eo] at h; exact h.elim
          | some o =>
            rw [eo] at h
            cases o with
            | dK kvs => exact h.elim
            | lst ds =>
              dsimp only at h
              by_cases hq : pureL ds = true
              · rw [if_pos hq] at h
                obtain ⟨q1, q2, q3⟩ := r.cut1 r' k st hj ha eo hq
                refine h (.ref a) (ρ ++ [a]) H' q1 ⟨a, rfl, ?_⟩ q2
                rw [← r.len, List.getElem?_append_right (Nat.le_refl _)]
                simp
              · rw [if_neg hq] at h; exact h.elim
        · rw [if_neg hj] at h; exact h.elim
      | _ => exact h.elim
  · rw [if_neg st] at h
    exact h.elim
open Classical in
noncomputable def runFn (md : Mode) (N : Nat) (body : MS) : List D → Store → Res D := fun ds S =>
  match body (ds.map some ++ List.replicate (N - ds.length) none) S with
  | .ret d S' => fin md S d S'
  | .next _ S' => fin md S .non S'
  | .err c _ S' => if stOk S S' then .err c (S'.take S.length) else .bad
  | _ => .bad
def spF (K : PySem.W.Frag) (cA : Nat → Addr) (n : Nat) (F : List D → Store → Res D) : Sp := fun vs H Q E => vs.length = n ∧ ∃ G ρ S ds, RelS K G ρ S H ∧ RepL K G ρ H ds vs ∧ Ok K G (Rep K G) ρ H (F ds S) (fun c H' => E (.ref (cA c)) none H') Q
theorem start_rel {K : PySem.W.Frag} {G : Addr → Prop} {ρ : List Addr} {H : Hp} {ds : List D} {vs : List V} (N : List Str) (h : RepL K G ρ H ds vs) : RelE K G ρ H (ds.map some ++ List.replicate (N.length - ds.length) none) (L2.start N vs) := by
  unfold L2.start
  have hl := h.length
  refine ⟨by simp [hl], fun i d e => ?_⟩
  by_cases hi : i < ds.length
  · rw [List.getElem?_append_left (by simpa using hi), List.getElem?_map] at e
    cases ed : ds[i]? with
    | none => rw [ed] at e; cases e
    | some d0 =>
      rw [ed] at e
      have e : some d0 = some d := by simpa using e
      cases e
      obtain ⟨v, h1, h2⟩ := h.get ed
      exact ⟨v, by rw [List.getElem?_append_left (by rw [List.length_map, hl]; exact hi), List.getElem?_map, h1]; rfl, h2⟩
  · rw [List.getElem?_append_right (by simpa using hi)] at e
    rw [List.getElem?_replicate] at e
    split at e <;> cases e
section
variable {P : Program} {w : World} {K : PySem.W.Frag} {mg : Str → Option Value} {base : Heap} {cA : Nat → Addr}
abbrev WF (E : XK) : WX := fun c d _ H => E c d H
theorem fn_ok {x qual : Str} {st : Stmt} {f : Addr} {fd : FuncData} {N ps : List Str} {k : Nat} {md : Mode} {body : MS} (F : Fun K x qual st f fd) (Sc : FnScope N ps (defScope st))
    (hb : ∀ (cdv : Value) (A : Around) (outer : List Env) (s : Shared) (H : Hp) (E : XK), Room k (A.deeper (envOfC qual (defScope st) s.heap.objs.size f cdv)) →
      PSs (cxOf (L2.CX P w) P w K mg base N qual (defScope st) f cdv A outer s H E) (defBody st) (tS K cA (WF E) body)) :
    FnOk P w K mg base (L2.CX P w) (k + 1) f fd ps (spF K cA ps.length (runFn md N.length body)) := by
  refine F.okX Sc (fun vs H Q E h => h.1) (fun cdv A outer s H vs Q E hr h => ⟨_, hb cdv A outer s H E hr, ?_⟩)
  obtain ⟨hl, G, ρ, S, ds, hS, hd, h⟩ := h
  refine ⟨G, ρ, _, S, start_rel N hd, hS, ?_⟩
  unfold runFn at h
  revert h
  cases body (ds.map some ++ List.replicate (N.length - ds.length) none) S with
  | next e S1 => exact fun h σ' ρ' H' q1 q2 q3 => fin_ok h hS q2 (show Rep K G ρ' H' .non .non from rfl) q3
  | ret d S1 => exact fun h v ρ' H' q1 q2 q3 => fin_ok h hS q1 q2 q3
  | brk e S1 => exact fun h => h.elim
  | cont e S1 => exact fun h => h.elim
  | err c e S1 =>
    intro h σ' ρ' H' q1 q2 q3
    dsimp only at h
    by_cases st : stOk S S1
    · rw [if_pos st] at h
      exact h ρ H' (hS.cut q2 q3 st) q3.cut
    · rw [if_neg st] at h
      exact h.elim
  | bad => exact fun h => h
end
section
variable {X : Cx} {e : Expr} {es : List Expr} {pos p : Pos} {cA : Nat → Addr} {W : WX} {x : Str}
def eCall (n : Nat) (F : List D → Store → Res D) (ma : M (List D)) : M D := fun env S => (ma env S).bind fun xs S1 => if xs.length = n then F xs S1 else .bad
theorem je_call {k n : Nat} {f : Addr} {fd : FuncData} {ps : List Str} {Fm : List D → Store → Res D} {ma : M (List D)} (F : FnOk X.prog X.w X.K X.mg X.base (L2.CX X.prog X.w) k f fd ps (spF X.K cA n Fm)) (hr : Room k X.A) (hg : Gl X x) (hm : X.mg x = some (.ref f)) (hk : PySem.W.keepIn X.K (.ref f) = true) (hb : Binds X.K fd ps []) (tk : Takes X W)
    (ha : PA X (e :: es) (tAr X.K cA W ma)) (hdb : (x == ("__debug__" : Str)) = false := by decide) (he : starEach (e :: es) X.env = (false, eval e X.env) :: starEach es X.env := by rfl) (hpl : (backTo pos (starEach es X.env)).any (·.1) = false := by rfl) :
    PE X (.Call (.Name x p) (e :: es) [] pos) (tE X.K cA W (eCall n Fm ma)) := by
  refine pe_imp (pe_callS (E := WE W) F hr hg hm hk hb (fun σ => passAt tk σ) ha hdb he hpl) ?_
  rintro σ H Q ⟨G, ρ, env, S, hE, hS, h⟩
  refine ⟨G, ρ, env, S, hE, hS, Ok.bind h fun ds S1 vs ρ1 H1 r1 x1 k1 h1 => ?_⟩
  by_cases hl : ds.length = n
  · rw [if_pos hl] at h1
    exact ⟨by rw [x1.length]; exact hl, G, ρ1, S1, ds, r1, x1, h1⟩
  · rw [if_neg hl] at h1
    exact h1.elim
end
end Rf

namespace Rf
open PySem PySem.Spec PyProof.Rows L2

/-! ### a heap without one object -/
def era (H : Hp) (d : Addr) : Hp := fun b => if b = d then none else H b
def gAnd (G : Addr → Prop) (d : Addr) : Addr → Prop := fun a => G a ∨ a = d
section
variable {K : PySem.W.Frag} {G : Addr → Prop} {ρ ρ' : List Addr} {H H' : Hp} {d : Addr} {S S' : Store}
theorem era_same : era H d d = none := by unfold era; rw [if_pos rfl]
theorem era_ne {b : Addr} (h : b ≠ d) : era H d b = H b := by unfold era; rw [if_neg h]
theorem era_some {b : Addr} {o : HO} (h : era H d b = some o) : b ≠ d ∧ H b = some o := by
  by_cases e : b = d
  · subst e; rw [era_same] at h; cases h
  · exact ⟨e, by rw [era_ne e] at h; exact h⟩
theorem upd_era {o : HO} (h : H d = some o) : upd (era H d) d o = H := by
  funext b
  by_cases e : b = d
  · subst e; rw [upd_same, h]
  · rw [upd_ne e, era_ne e]
theorem era_upd {o : HO} : era (upd H d o) d = era H d := by
  funext b
  by_cases e : b = d
  · subst e; rw [era_same, era_same]
  · rw [era_ne e, era_ne e, upd_ne e]
theorem era_none (h : H d = none) : era H d = H := by
  funext b
  by_cases e : b = d
  · subst e; rw [era_same, h]
  · rw [era_ne e]
theorem up2 {o : HO} (h : H d = some o) : Keep2 G ρ (era H d) (gAnd G d) ρ H := by
  refine ⟨⟨[], by simp⟩, fun a xs r => ?_, fun a xs h1 h2 h3 => ?_, fun a o u r => (era_some r).2⟩
  · rcases r with r | ⟨o, r⟩
    · exact .inl (era_some r).2
    · exact .inr ⟨o, (era_some r).2⟩
  · obtain ⟨e1, e2⟩ := era_some h3
    exact ⟨h1, fun q => q.elim h2 e1, e2⟩
theorem down2 {vs : List V} (h : H d = some (.lst vs)) : Keep2 (gAnd G d) ρ H G ρ (era H d) := by
  refine ⟨⟨[], by simp⟩, fun a xs r => ?_, fun a xs h1 h2 h3 => ?_, fun a o u r => ?_⟩
  · have ne : a ≠ d := fun e => by
      subst e
      rcases r with r | ⟨o, r⟩
      · rw [h] at r; cases r
      · rw [h] at r; cases r
    rcases r with r | ⟨o, r⟩
    · exact .inl (by rw [era_ne ne]; exact r)
    · exact .inr ⟨o, by rw [era_ne ne]; exact r⟩
  · have ne : a ≠ d := fun e => h2 (.inr e)
    exact ⟨h1, fun g => h2 (.inl g), by rw [era_ne ne]; exact h3⟩
  · have ne : a ≠ d := fun e => by subst e; rw [h] at r; cases r
    rw [era_ne ne]; exact r
theorem RelS.up {o : HO} (r : RelS K G ρ S (era H d)) (h : H d = some o) : RelS K (gAnd G d) ρ S H := by
  have nd := r.fresh (p := d) era_same
  refine ⟨r.len, r.nd, fun a ha q => q.elim (r.ng a ha) fun e => nd (e ▸ ha), fun a q => ?_, fun i o' a h1 h2 => ?_⟩
  · rcases q with q | q
    · obtain ⟨u, e⟩ := r.gt a q
      exact ⟨u, (era_some e).2⟩
    · exact ⟨o, by rw [q]; exact h⟩
  · have q := r.ob i o' a h1 h2
    cases o' with
    | lst ds => obtain ⟨vs, e, x⟩ := q; exact ⟨vs, (era_some e).2, RepL.keep2 (up2 h) ds vs x⟩
    | dK kvs => obtain ⟨vs, e, x⟩ := q; exact ⟨vs, (era_some e).2, RepKV.keep2 (up2 h) kvs vs x⟩
theorem RelS.down {vs : List V} (r : RelS K (gAnd G d) ρ S H) (h : H d = some (.lst vs)) (hd : ¬ G d) : RelS K G ρ S (era H d) := by
  refine ⟨r.len, r.nd, fun a ha g => r.ng a ha (.inl g), fun a g => ?_, fun i o' a h1 h2 => ?_⟩
  · obtain ⟨u, e⟩ := r.gt a (.inl g)
    exact ⟨u, by rw [era_ne (fun (z : a = d) => hd (z ▸ g))]; exact e⟩
  · have ne : a ≠ d := fun e => r.ng a (List.mem_of_getElem? h2) (.inr e)
    have q := r.ob i o' a h1 h2
    cases o' with
    | lst ds => obtain ⟨vs, e, x⟩ := q; exact ⟨vs, by rw [era_ne ne]; exact e, RepL.keep2 (down2 h) ds vs x⟩
    | dK kvs => obtain ⟨vs, e, x⟩ := q; exact ⟨vs, by rw [era_ne ne]; exact e, RepKV.keep2 (down2 h) kvs vs x⟩
theorem RelE.keep2 {G' : Addr → Prop} {env : En} {σ : L2.St} (k : Keep2 G ρ H G' ρ' H') (r : RelE K G ρ H env σ) : RelE K G' ρ' H' env σ :=
  ⟨r.len, fun i d h => let ⟨v, h1, h2⟩ := r.get i d h; ⟨v, h1, Rep.keep2 k d v h2⟩⟩
theorem Keep.down {vs : List V} (k : Keep (gAnd G d) ρ H ρ' H') (h : H d = some (.lst vs)) (hd : ¬ G d) : Keep G ρ (era H d) ρ' (era H' d) := by
  have h' : H' d = some (.lst vs) := by rw [k.grd d (.inr rfl)]; exact h
  refine ⟨k.pre, fun a xs r => ?_, fun a xs h1 h2 h3 => ?_, fun a o u r => ?_, fun a g => ?_⟩
  · rcases r with r | ⟨o, r⟩
    · obtain ⟨e1, e2⟩ := era_some r
      rcases k.tup a xs (.inl e2) with q | ⟨o, q⟩
      · exact .inl (by rw [era_ne e1]; exact q)
      · exact .inr ⟨o, by rw [era_ne e1]; exact q⟩
    · obtain ⟨e1, e2⟩ := era_some r
      rcases k.tup a xs (.inr ⟨o, e2⟩) with q | ⟨o, q⟩
      · exact .inl (by rw [era_ne e1]; exact q)
      · exact .inr ⟨o, by rw [era_ne e1]; exact q⟩
  · obtain ⟨e1, e2⟩ := era_some h3
    obtain ⟨q1, q2⟩ := k.lst a xs h1 (fun q => q.elim h2 e1) e2
    exact ⟨q1, by rw [era_ne e1]; exact q2⟩
  · obtain ⟨e1, e2⟩ := era_some r
    rw [era_ne e1]
    exact k.frz a o u e2
  · have ne : a ≠ d := fun e => hd (e ▸ g)
    rw [era_ne ne, era_ne ne]
    exact k.grd a (.inl g)
end
/-! ### targets of a comprehension -/
def tGo (K : PySem.W.Frag) (p : Pat) (own : List Nat) : TG := fun v σ H Q => ∃ G ρ env d, RelE K G ρ H env σ ∧ Rep K G ρ H d v ∧ match p d env with
  | some env' => ∀ σ', RelE K G ρ H env' σ' → wipe σ' own = wipe σ own → Q σ' H
  | none => False
def tGso (K : PySem.W.Frag) (p : Pats) (own : List Nat) : TGs := fun vs σ H Q => ∃ G ρ env ds, RelE K G ρ H env σ ∧ RepL K G ρ H ds vs ∧ match p ds env with
  | some env' => ∀ σ', RelE K G ρ H env' σ' → wipe σ' own = wipe σ own → Q σ' H
  | none => False
theorem set_comm' {α : Type} (l : List α) (i j : Nat) (a b : α) (h : i ≠ j) : (l.set i a).set j b = (l.set j b).set i a := List.set_comm _ _ h
theorem wipe_set {σ : L2.St} {i : Nat} {v : Option V} : ∀ {own : List Nat}, i ∈ own → wipe (σ.set i v) own = wipe σ own
  | [], h => nomatch h
  | j :: r, h => by
    unfold wipe
    by_cases e : i ∈ r
    · rw [wipe_set e]
    · have : i = j := by
        rcases List.mem_cons.mp h with h | h
        · exact h
        · exact absurd h e
      subst this
      have key : ∀ (r : List Nat) (σ : L2.St), i ∉ r → wipe (σ.set i v) r = (wipe σ r).set i v := by
        intro r
        induction r with
        | nil => intro σ _; rfl
        | cons k r ih =>
          intro σ hn
          unfold wipe
          rw [ih σ (fun z => hn (List.mem_cons_of_mem _ z))]
          exact set_comm' _ _ _ _ _ (fun z => hn (z ▸ List.mem_cons_self))
      rw [key r σ e, List.set_set]
theorem wipe_sub {σ : L2.St} {own : List Nat} : ∀ l : List Nat, (∀ i ∈ l, i ∈ own) → wipe (wipe σ l) own = wipe σ own
  | [], _ => rfl
  | i :: l, h => by
    show wipe ((wipe σ l).set i none) own = _
    rw [wipe_set (h i List.mem_cons_self)]
    exact wipe_sub l fun j hj => h j (List.mem_cons_of_mem _ hj)
theorem wipe_wipe {σ : L2.St} {own : List Nat} : wipe (wipe σ own) own = wipe σ own := wipe_sub own fun _ h => h
section
variable {X : Cx} {pos : Pos} {own : List Nat}
theorem jgo_name (i : Nat) {x : Str} (hN : X.N.Nodup) (ho : i ∈ own := by decide) (hi : X.N[i]? = some x := by rfl) (hx : Loc X.env.scope x := by first | exact Or.inl rfl | exact Or.inr rfl) (hf : X.fn x = true ∨ X.env.scope.names.lookup x = some .local := by first | exact .inl rfl | exact .inr rfl | assumption) : PG X (.Name x pos) (tGo X.K (pName i) own) :=
  pg_imp (pg_name hN hi hx hf) fun v σ H Q ⟨G, ρ, env, d, hE, hd, h⟩ => h _ (hE.set hd) (wipe_set ho)
theorem jgso_nil : PGs X [] (tGso X.K pNil own) := pgs_imp pgs_nil fun vs σ H Q ⟨G, ρ, env, ds, hE, hd, h⟩ => by
  cases ds with
  | nil => exact ⟨hd, h σ hE rfl⟩
  | cons d r => exact h.elim
theorem jgso_cons {tg : Expr} {es : List Expr} {p : Pat} {q : Pats} (h1 : PG X tg (tGo X.K p own)) (h2 : PGs X es (tGso X.K q own))
    (hs : (assignEach (tg :: es) X.env).map (·.2) = assign tg X.env :: (assignEach es X.env).map (·.2) := by rfl) : PGs X (tg :: es) (tGso X.K (pCons p q) own) := by
  refine pgs_imp (pgs_cons h1 h2 hs) ?_
  rintro vs σ H Q ⟨G, ρ, env, ds, hE, hd, h⟩
  cases ds with
  | nil => exact h.elim
  | cons d r =>
    obtain ⟨v, vs', rfl, x1, x2⟩ := hd
    refine ⟨v, vs', rfl, G, ρ, env, d, hE, x1, ?_⟩
    revert h
    show (match (p d env).bind fun e => q r e with | some env' => ∀ σ', RelE X.K G ρ H env' σ' → wipe σ' own = wipe σ own → Q σ' H | none => False) → _
    cases p d env with
    | none => exact fun h => h
    | some e1 =>
      intro h σ1 hE1 w1
      refine ⟨G, ρ, e1, r, hE1, x2, ?_⟩
      revert h
      show (match q r e1 with | some env' => ∀ σ', RelE X.K G ρ H env' σ' → wipe σ' own = wipe σ own → Q σ' H | none => False) → _
      cases q r e1 with
      | none => exact fun h => h
      | some e2 => exact fun h σ2 hE2 w2 => h σ2 hE2 (w2.trans w1)
theorem jgo_tup {es : List Expr} {k : Nat} {n : Nat} {q : Pats} (hc : X.calm = true) (h : PGs X es (tGso X.K q own)) (hn : (assignEach es X.env).length = n := by rfl) (hst : (assignEach es X.env).findIdx? (·.1) = none := by rfl) : PG X (.Tuple es k pos) (tGo X.K (pTup n q) own) := by
  refine pg_imp (pg_tup hc h hn hst) ?_
  rintro v σ H Q ⟨G, ρ, env, d, hE, hd, h⟩
  cases d with
  | tup ds =>
    obtain ⟨a, vs, rfl, x1, x2⟩ := hd
    have h : (match (if ds.length = n then q ds env else none) with | some env' => ∀ σ', RelE X.K G ρ H env' σ' → wipe σ' own = wipe σ own → Q σ' H | none => False) := h
    by_cases hl : ds.length = n
    · rw [if_pos hl] at h
      exact ⟨a, vs, rfl, x1, by rw [x2.length]; exact hl, G, ρ, env, ds, hE, x2, h⟩
    · rw [if_neg hl] at h
      exact h.elim
  | _ => exact h.elim
end
/-! ### the comprehension -/
open Classical in
noncomputable def compD (p : Pat) (mt : M Bool) (me : M D) (chk : Store → Prop) (env : En) : List D → Store → Res (List D)
  | [], S => if chk S then .ok [] S else .bad
  | d :: ds, S => if chk S then (match p d env with
    | none => .bad
    | some e1 => match mt e1 S with
      | .ok true S1 => (match me e1 S1 with
        | .ok x S2 => (compD p mt me chk env ds S2).bind fun xs S3 => .ok (x :: xs) S3
        | _ => .bad)
      | .ok false S1 => compD p mt me chk env ds S1
      | _ => .bad) else .bad
noncomputable def fComp (mi : M IT) (p : Pat) (mt : M Bool) (me : M D) (own : List Nat) : M (List D) := fun env S => (mi env S).bind fun t S1 => if t.ds.length ≤ big then compD p mt me t.chk (clr env own) t.ds S1 else .bad
abbrev W0 : WX := fun _ _ _ _ => False
theorem clr_wipe_rel {K : PySem.W.Frag} {G : Addr → Prop} {ρ : List Addr} {H : Hp} {env : En} {σ : L2.St} (r : RelE K G ρ H env σ) : ∀ own : List Nat, RelE K G ρ H (clr env own) (wipe σ own)
  | [] => r
  | i :: own => by
    have q := clr_wipe_rel r own
    refine ⟨by rw [clr_length, wipe_length]; exact r.len, fun j d e => ?_⟩
    unfold clr at e
    unfold wipe
    by_cases hj : j = i
    · subst hj
      have hl : j < ((clr env own).set j none).length := (List.getElem?_eq_some_iff.mp e).1
      rw [List.length_set] at hl
      rw [List.getElem?_set_self hl] at e
      cases e
    · rw [List.getElem?_set_ne (Ne.symm hj)] at e
      obtain ⟨v, h1, h2⟩ := q.get j d e
      exact ⟨v, by rw [List.getElem?_set_ne (Ne.symm hj)]; exact h1, h2⟩
section
variable {X : Cx} {elt tg iter : Expr} {pos : Pos} {cA : Nat → Addr} {W : WX}
theorem comp_read {K : PySem.W.Frag} {mi : M IT} {p : Pat} {mt : M Bool} {me : M D} {own : List Nat} : ∀ σ H Q, tFr K cA W (fComp mi p mt me own) σ H Q → tLc (tI K cA W mi) (tGo K p own) (tT K cA W0 mt) (tE K cA W0 me) own σ H Q := by
  rintro σ H Q ⟨G, ρ, env, S, hE, hS, h⟩
  refine ⟨G, ρ, env, S, hE, hS, OkF.bind h fun t S1 J ρ1 H1 r1 wd k1 h1 => ?_⟩
  intro dA hdA
  have ng : ¬ G dA := r1.ngn hdA
  by_cases hbig : t.ds.length ≤ big
  · rw [if_pos hbig] at h1
    have hE1 : RelE K G ρ1 H1 (clr env own) (wipe σ own) := clr_wipe_rel (hE.keep k1) own
    let P : Nat → Hp → Prop := fun i H' => ∃ ρ' S' acc vs, RelS K G ρ' S' (era H' dA) ∧ Keep G ρ1 H1 ρ' (era H' dA) ∧ H' dA = some (.lst vs) ∧ RepL K G ρ' (era H' dA) acc vs ∧ acc.length ≤ i ∧
      OkF K G ρ' (era H' dA) ((compD p mt me t.chk (clr env own) (t.ds.drop i) S').bind fun xs S3 => .ok (acc ++ xs) S3) (WE' cA W σ) Q
    refine ⟨fun i m H' => m = t.ds.length - i ∧ i ≤ t.ds.length ∧ P i H', ⟨t.ds.length, rfl, Nat.zero_le _, ρ1, S1, [], [], ?_, ?_, upd_same, rfl, Nat.le_refl _, ?_⟩, ?_⟩
    · rw [era_upd, era_none hdA]; exact r1
    · rw [era_upd, era_none hdA]; exact Keep.refl
    · rw [era_upd, era_none hdA]
      have e : (compD p mt me t.chk (clr env own) t.ds S1).bind (fun xs S3 => Res.ok ([] ++ xs) S3) = compD p mt me t.chk (clr env own) t.ds S1 := by
        cases compD p mt me t.chk (clr env own) t.ds S1 <;> rfl
      show OkF K G ρ1 H1 ((compD p mt me t.chk (clr env own) t.ds S1).bind fun xs S3 => .ok ([] ++ xs) S3) (WE' cA W σ) Q
      rw [e]
      exact h1
    · rintro i m H' ⟨rfl, hi, ρ2, S2, acc, vs, r2, k2, hD, ra, hacc, h2⟩
      have ru : RelS K (gAnd G dA) ρ2 S2 H' := r2.up hD
      have ku : Keep2 G ρ1 H1 (gAnd G dA) ρ2 H' := by
        refine ⟨k2.pre, fun a xs q => (up2 (G := G) (ρ := ρ2) hD).tup a xs (k2.tup a xs q), fun a xs q1 q2 q3 => ?_, fun a o u q => (up2 (G := G) (ρ := ρ2) hD).frz a o u (k2.frz a o u q)⟩
        obtain ⟨z1, z2⟩ := k2.lst a xs q1 q2 q3
        exact (up2 (G := G) (ρ := ρ2) hD).lst a xs z1 q2 z2
      by_cases hlt : i < t.ds.length
      · have hd : t.ds.drop i = t.ds[i] :: t.ds.drop (i + 1) := (List.getElem_cons_drop hlt).symm
        rw [hd] at h2
        unfold compD at h2
        by_cases hch : t.chk S2
        · rw [if_pos hch] at h2
          refine .inr ⟨wd.go (gAnd G dA) ρ2 S2 H' i ku ru hch hlt, P (i + 1), fun H3 q => ⟨t.ds.length - (i + 1), by omega, rfl, hlt, q⟩, fun x H3 hy => ?_⟩
          obtain ⟨x3, k3, r3⟩ := wd.yld (gAnd G dA) ρ2 S2 H' i t.ds[i] x H3 ku ru hch (by rw [List.getElem?_eq_getElem hlt]) hy
          have eu : RelE K (gAnd G dA) ρ2 H3 (clr env own) (wipe σ own) := ((hE1.keep k2).keep2 (up2 hD)).keep k3
          refine ⟨gAnd G dA, ρ2, clr env own, t.ds[i], eu, x3, ?_⟩
          have hD3 : H3 dA = some (.lst vs) := by rw [k3.grd dA (.inr rfl)]; exact hD
          revert h2
          cases p t.ds[i] (clr env own) with
          | none => exact fun h => h
          | some en1 =>
            intro h2 σ3 e3 w3
            refine ⟨by rw [w3, wipe_wipe], gAnd G dA, ρ2, en1, S2, e3, r3, ?_⟩
            revert h2
            dsimp only
            cases mt en1 S2 with
            | bad => exact fun h => h
            | err c S4 => exact fun h => h.elim
            | ok b S4 =>
              intro h2 b' ρ4 H4 r4 eb k4
              cases (show b' = b from eb)
              have hD4 : H4 dA = some (.lst vs) := by rw [k4.grd dA (.inr rfl)]; exact hD3
              have kk4 : Keep (gAnd G dA) ρ2 H' ρ4 H4 := k3.trans k4
              have kd4 := kk4.down hD ng
              cases b with
              | false =>
                refine iteF ⟨ρ4, S4, acc, vs, r4.down hD4 ng, k2.trans kd4, hD4, RepL.keep kd4 _ _ ra, by omega, h2.keep kd4⟩
              | true =>
                refine iteT ⟨gAnd G dA, ρ4, en1, S4, e3.keep k4, r4, ?_⟩
                revert h2
                dsimp only
                cases me en1 S4 with
                | bad => exact fun h => h
                | err c S5 => exact fun h => h.elim
                | ok y S5 =>
                  intro h2 v ρ5 H5 r5 x5 k5
                  have hD5 : H5 dA = some (.lst vs) := by rw [k5.grd dA (.inr rfl)]; exact hD4
                  have kd5 := (kk4.trans k5).down hD ng
                  refine ⟨vs, hD5, ?_, ρ5, S5, acc ++ [y], vs ++ [v], ?_, ?_, upd_same, ?_, by simp; omega, ?_⟩
                  · have := ra.length
                    exact big_lt (by omega)
                  · rw [era_upd]; exact r5.down hD5 ng
                  · rw [era_upd]; exact k2.trans kd5
                  · rw [era_upd]
                    exact (RepL.keep kd5 _ _ ra).snoc (Rep.keep2 (down2 hD5) y v x5)
                  · rw [era_upd]
                    refine OkF.keep kd5 ?_
                    have e : ((compD p mt me t.chk (clr env own) (t.ds.drop (i + 1)) S5).bind fun xs S3 => Res.ok (y :: xs) S3).bind (fun xs S3 => Res.ok (acc ++ xs) S3) = (compD p mt me t.chk (clr env own) (t.ds.drop (i + 1)) S5).bind fun xs S3 => .ok (acc ++ [y] ++ xs) S3 := by
                      cases compD p mt me t.chk (clr env own) (t.ds.drop (i + 1)) S5 <;> simp [Res.bind]
                    rw [← e]
                    exact h2
        · rw [if_neg hch] at h2
          exact h2.elim
      · have e : i = t.ds.length := by omega
        subst e
        rw [List.drop_length] at h2
        unfold compD at h2
        by_cases hch : t.chk S2
        · rw [if_pos hch] at h2
          refine .inl ⟨wd.stop (gAnd G dA) ρ2 S2 H' ku ru hch, ?_⟩
          have q := h2 dA vs ρ2 (era H' dA) r2 (by rw [List.append_nil]; exact ra) Keep.refl era_same
          rw [upd_era hD] at q
          exact q
        · rw [if_neg hch] at h2
          exact h2.elim
  · rw [if_neg hbig] at h1
    exact h1.elim
theorem pts_imp {ifs : List Expr} {t t' : TT} (h : PTs X ifs t) (i : ∀ σ H Q, t' σ H Q → t σ H Q) : PTs X ifs t' := ⟨fun pins s σ H Q I hw => h.run pins s σ H Q I (i σ H Q hw)⟩
def tYes' : M Bool := fun _ S => .ok true S
theorem jts_nil : PTs X [] (tT X.K cA W tYes') := pts_imp pts_nil fun _ _ _ ⟨_, _, _, _, _, hS, h⟩ => h.now hS rfl
theorem jts_one {c : Expr} {m : M Bool} (h : PT X c (tT X.K cA W m)) : PTs X [c] (tT X.K cA W m) := pts_one h
theorem jf_lc {ifs : List Expr} {scope : Scope} (own : List (Str × Nat)) {mi : M IT} {p : Pat} {mt : M Bool} {me : M D} (hc : X.calm = true) (hN : X.N.Nodup) (hi : PI X tg iter (tI X.K cA W mi)) (ok : BlkOk X.N X.env.scope scope own)
    (hg : ∀ (s : Shared) (H : Hp) (C : Addr) (cl : List (Str × Addr)) (fp : List Addr), PG (X.blk s H scope (compEnvC scope cl C X.env) fp) tg (tGo X.K p (own.map (·.2)))) (ht : ∀ (s : Shared) (H : Hp) (C : Addr) (cl : List (Str × Addr)) (fp : List Addr), PTs (X.blk s H scope (compEnvC scope cl C X.env) fp) ifs (tT X.K cA W0 mt))
    (he : ∀ (s : Shared) (H : Hp) (C : Addr) (cl : List (Str × Addr)) (fp : List Addr), PE (X.blk s H scope (compEnvC scope cl C X.env) fp) elt (tE X.K cA W0 me)) (hs : ∀ x, foldedSetIterable iter X.env x = pure x := by intro _; rfl) :
    PE X (.ListComp elt [⟨tg, iter, ifs, 0⟩] scope pos) (tFr X.K cA W (fComp mi p mt me (own.map (·.2)))) :=
  pe_imp (pe_lc hc hN hi ok hg ht he hs) comp_read
/-- name = [..], the name a local -/
theorem js_setLc (i : Nat) {y : Str} {py spos : Pos} {ifs : List Expr} {scope : Scope} (own : List (Str × Nat)) {mi : M IT} {p : Pat} {mt : M Bool} {me m : M D} (hm : ∀ σ H Q, tE X.K cA W m σ H Q → tFr X.K cA W (fComp mi p mt me (own.map (·.2))) σ H Q) (hc : X.calm = true) (hN : X.N.Nodup)
    (hsw : swapsWith (.ListComp elt [⟨tg, iter, ifs, 0⟩] scope pos) (some (.Name y py)) spos.line X.env = pure true) (hi : PI X tg iter (tI X.K cA W mi)) (ok : BlkOk X.N X.env.scope scope own)
    (hg : ∀ (s : Shared) (H : Hp) (C : Addr) (cl : List (Str × Addr)) (fp : List Addr), PG (X.blk s H scope (compEnvC scope cl C X.env) fp) tg (tGo X.K p (own.map (·.2)))) (ht : ∀ (s : Shared) (H : Hp) (C : Addr) (cl : List (Str × Addr)) (fp : List Addr), PTs (X.blk s H scope (compEnvC scope cl C X.env) fp) ifs (tT X.K cA W0 mt))
    (he : ∀ (s : Shared) (H : Hp) (C : Addr) (cl : List (Str × Addr)) (fp : List Addr), PE (X.blk s H scope (compEnvC scope cl C X.env) fp) elt (tE X.K cA W0 me)) (hy : X.N[i]? = some y := by rfl) (hyl : X.env.scope.names.lookup y = some .local := by rfl) (hs : ∀ x, foldedSetIterable iter X.env x = pure x := by intro _; rfl) :
    PS X (.Assign [.Name y py] (.ListComp elt [⟨tg, iter, ifs, 0⟩] scope pos) spos) (tS X.K cA W (sAsg m (pName i))) := by
  refine ps_imp (ps_setLc hc hN hy hyl hsw hi ok hg ht he hs) ?_
  intro D σ H h
  refine comp_read σ H _ (hm σ H _ ?_)
  obtain ⟨G, ρ, env, S, hE, hS, h⟩ := h
  refine ⟨G, ρ, env, S, hE, hS, OkS.thn hE h fun d S1 v ρ1 H1 r1 x1 k1 h1 => ?_⟩
  exact h1 _ ρ1 H1 ((hE.keep k1).set x1) r1 Keep.refl
end
end Rf

namespace Rf
open PySem PySem.Spec PyProof.Rows L2

/-! ### data as PyData -/
mutual
def py : D → PyData
  | .non => .none
  | .bl b => .bool b
  | .int i => .int i
  | .str x => .str x
  | .ty _ => .none
  | .tup ds => .tuple (pyL ds)
  | .lst ds => .list (pyL ds)
  | .fz ds => .list (pyL ds)
  | .cell _ => .none
def pyL : List D → List PyData
  | [] => []
  | d :: ds => py d :: pyL ds
end
theorem pyL_map : ∀ ds : List D, pyL ds = ds.map py
  | [] => rfl
  | d :: ds => by unfold pyL; rw [pyL_map ds]; rfl
/-- data, at most n within one another -/
def shD : Nat → D → Bool
  | _, .non | _, .bl _ | _, .int _ => true
  | _, .str x => PyData.strOk x
  | n + 1, .tup ds => ds.all (shD n)
  | n + 1, .lst ds => ds.all (shD n)
  | n + 1, .fz ds => ds.all (shD n)
  | _, _ => false
theorem lay_all {ps : List PyData} (h : ∀ p ∈ ps, p.canLay0 = true) : PyData.canLayAll0 ps = true := by
  induction ps with
  | nil => rfl
  | cons p r ih =>
    unfold PyData.canLayAll0
    rw [h p List.mem_cons_self, ih fun q hq => h q (List.mem_cons_of_mem _ hq)]
    rfl
theorem depth_all {n : Nat} {ps : List PyData} (h : ∀ p ∈ ps, p.depth ≤ n) : PyData.depthAll ps ≤ n := by
  induction ps with
  | nil => unfold PyData.depthAll; exact Nat.zero_le _
  | cons p r ih =>
    unfold PyData.depthAll
    exact Nat.max_le.mpr ⟨h p List.mem_cons_self, ih fun q hq => h q (List.mem_cons_of_mem _ hq)⟩
theorem shD_ok : ∀ (n : Nat) (d : D), shD n d = true → (py d).canLay0 = true ∧ (py d).depth ≤ n
  | _, .non, _ => ⟨rfl, Nat.zero_le _⟩
  | _, .bl _, _ => ⟨rfl, Nat.zero_le _⟩
  | _, .int _, _ => ⟨rfl, Nat.zero_le _⟩
  | 0, .str x, h => ⟨by simpa [py, PyData.canLay0, shD] using h, by simp [py, PyData.depth]⟩
  | n + 1, .str x, h => ⟨by simpa [py, PyData.canLay0, shD] using h, by simp [py, PyData.depth]⟩
  | 0, .ty _, h => by simp [shD] at h
  | n + 1, .ty _, h => by simp [shD] at h
  | 0, .cell _, h => by simp [shD] at h
  | n + 1, .cell _, h => by simp [shD] at h
  | 0, .tup ds, h => by simp [shD] at h
  | 0, .lst ds, h => by simp [shD] at h
  | 0, .fz ds, h => by simp [shD] at h
  | n + 1, .tup ds, h => by
    have h : ds.all (shD n) = true := h
    have k : ∀ p ∈ pyL ds, p.canLay0 = true ∧ p.depth ≤ n := fun p hp => by
      rw [pyL_map] at hp
      obtain ⟨d, hd, rfl⟩ := List.mem_map.mp hp
      exact shD_ok n d (List.all_eq_true.mp h d hd)
    refine ⟨by unfold py PyData.canLay0; exact lay_all fun p hp => (k p hp).1, ?_⟩
    unfold py PyData.depth
    exact Nat.succ_le_succ (depth_all fun p hp => (k p hp).2)
  | n + 1, .lst ds, h => by
    have h : ds.all (shD n) = true := h
    have k : ∀ p ∈ pyL ds, p.canLay0 = true ∧ p.depth ≤ n := fun p hp => by
      rw [pyL_map] at hp
      obtain ⟨d, hd, rfl⟩ := List.mem_map.mp hp
      exact shD_ok n d (List.all_eq_true.mp h d hd)
    refine ⟨by unfold py PyData.canLay0; exact lay_all fun p hp => (k p hp).1, ?_⟩
    unfold py PyData.depth
    exact Nat.succ_le_succ (depth_all fun p hp => (k p hp).2)
  | n + 1, .fz ds, h => by
    have h : ds.all (shD n) = true := h
    have k : ∀ p ∈ pyL ds, p.canLay0 = true ∧ p.depth ≤ n := fun p hp => by
      rw [pyL_map] at hp
      obtain ⟨d, hd, rfl⟩ := List.mem_map.mp hp
      exact shD_ok n d (List.all_eq_true.mp h d hd)
    refine ⟨by unfold py PyData.canLay0; exact lay_all fun p hp => (k p hp).1, ?_⟩
    unfold py PyData.depth
    exact Nat.succ_le_succ (depth_all fun p hp => (k p hp).2)
def dpt : Nat := 12
theorem shaped_of {d : D} (h : shD dpt d = true) : SeqAt.shaped (py d) = true := by
  obtain ⟨h1, h2⟩ := shD_ok dpt d h
  unfold SeqAt.shaped
  rw [h1, decide_eq_true (Nat.le_trans h2 (by decide))]
  rfl
section
variable {K : PySem.W.Frag} {G : Addr → Prop} {ρ : List Addr} {H : Hp}
theorem rep_dpL {n : Nat} (ih : ∀ (d : D) (v : V), shD n d = true → Rep K G ρ H d v → Dp K H v (py d)) : ∀ (ds : List D) (vs : List V), ds.all (shD n) = true → RepL K G ρ H ds vs → DpAll K H vs (pyL ds)
  | [], vs, _, h => by rw [show vs = [] from h]; exact .nil
  | d :: ds, vs, hs, h => by
    obtain ⟨v, vs', rfl, h1, h2⟩ := h
    rw [List.all_cons, Bool.and_eq_true] at hs
    exact .cons (ih d v hs.1 h1) (rep_dpL ih ds vs' hs.2 h2)
theorem rep_dp : ∀ (n : Nat) (d : D) (v : V), shD n d = true → Rep K G ρ H d v → Dp K H v (py d)
  | _, .non, v, _, h => by rw [show v = .non from h]; exact .non
  | _, .bl b, v, _, h => by rw [show v = .bl b from h]; exact .bl b
  | _, .int i, v, _, h => by rw [show v = .int i from h]; exact .int i
  | _, .str x, v, _, h => by rw [show v = .str x from h]; exact .str x
  | 0, .ty _, _, h, _ => by simp [shD] at h
  | n + 1, .ty _, _, h, _ => by simp [shD] at h
  | 0, .cell _, _, h, _ => by simp [shD] at h
  | n + 1, .cell _, _, h, _ => by simp [shD] at h
  | 0, .tup ds, _, h, _ => by simp [shD] at h
  | 0, .lst ds, _, h, _ => by simp [shD] at h
  | 0, .fz ds, _, h, _ => by simp [shD] at h
  | n + 1, .tup ds, v, hs, h => by
    obtain ⟨a, vs, rfl, h1, h2⟩ := h
    exact .tup h1 (rep_dpL (rep_dp n) ds vs hs h2)
  | n + 1, .lst ds, v, hs, h => by
    obtain ⟨a, vs, rfl, h1, h2⟩ := h
    exact .lst h1.sq (rep_dpL (rep_dp n) ds vs hs h2)
  | n + 1, .fz ds, v, hs, h => by
    obtain ⟨a, vs, rfl, h1, h2⟩ := h
    exact .lst h1.sq (rep_dpL (rep_dp n) ds vs hs h2)
end
/-- a cell read as the list that stands there -/
def val (S : Store) : D → D
  | .cell n => match S[n]? with
    | some (.lst ds) => .lst ds
    | _ => .cell n
  | d => d
theorem rep_val {K : PySem.W.Frag} {G : Addr → Prop} {ρ : List Addr} {H : Hp} {S : Store} {d : D} {v : V} (r : RelS K G ρ S H) (h : Rep K G ρ H d v) (hs : shD dpt (val S d) = true) : Dp K H v (py (val S d)) := by
  cases d with
  | cell n =>
    unfold val at hs ⊢
    dsimp only at hs ⊢
    cases e : S[n]? with
    | none => rw [e] at hs; simp [shD, dpt] at hs
    | some o =>
      rw [e] at hs
      cases o with
      | dK kvs => simp [shD, dpt] at hs
      | lst ds =>
        obtain ⟨a, rfl, ha⟩ := h
        obtain ⟨vs, h1, h2⟩ := r.ob n _ a e ha
        exact .lst (.of h1) (rep_dpL (rep_dp 11) ds vs hs h2)
  | _ => exact rep_dp dpt _ v hs h
/-! ### == and != -/
def dEq (d e : D) (S : Store) : Res D := match d, e with
  | .int i, .int j => .ok (.bl (decide (i = j))) S
  | .bl i, .bl j => .ok (.bl (decide (i = j))) S
  | d, e => if shD dpt (val S d) = true ∧ shD dpt (val S e) = true then .ok (.bl (PyData.eqv (py (val S d)) (py (val S e)))) S else .bad
def dNe (d e : D) (S : Store) : Res D := match d, e with
  | .int i, .int j => .ok (.bl (!decide (i = j))) S
  | .bl i, .bl j => .ok (.bl (!decide (i = j))) S
  | d, e => if shD dpt (val S d) = true ∧ shD dpt (val S e) = true then .ok (.bl (!PyData.eqv (py (val S d)) (py (val S e)))) S else .bad
theorem eqv_int (i j : Int) : PyData.eqv (.int i) (.int j) = decide (i = j) := by
  unfold PyData.eqv
  by_cases h : i = j
  · rw [decide_eq_true h, h]; simp
  · rw [decide_eq_false h]; simpa using h
theorem eqv_bl (i j : Bool) : PyData.eqv (.bool i) (.bool j) = decide (i = j) := by
  unfold PyData.eqv
  cases i <;> cases j <;> rfl
theorem od_eq {K : PySem.W.Frag} : OpD K (rEqD K) dEq := by
  intro G ρ H S d1 d2 v1 v2 E Q r x1 x2 h
  have gen : (if shD dpt (val S d1) = true ∧ shD dpt (val S d2) = true then Res.ok (D.bl (PyData.eqv (py (val S d1)) (py (val S d2)))) S else Res.bad) = dEq d1 d2 S → rEqD K v1 v2 H Q := fun e => by
    rw [← e] at h
    by_cases hs : shD dpt (val S d1) = true ∧ shD dpt (val S d2) = true
    · rw [if_pos hs] at h
      exact ⟨_, _, rep_val r x1 hs.1, rep_val r x2 hs.2, shaped_of hs.1, shaped_of hs.2, h.now r rfl⟩
    · rw [if_neg hs] at h
      exact h.elim
  refine gen ?_
  cases d1 <;> cases d2 <;> first
    | rfl
    | (rename_i i j; rw [if_pos ⟨rfl, rfl⟩]; show Res.ok (D.bl (PyData.eqv (.int i) (.int j))) S = Res.ok (D.bl (decide (i = j))) S; rw [eqv_int])
    | (rename_i i j; rw [if_pos ⟨rfl, rfl⟩]; show Res.ok (D.bl (PyData.eqv (.bool i) (.bool j))) S = Res.ok (D.bl (decide (i = j))) S; rw [eqv_bl])
theorem od_ne {K : PySem.W.Frag} : OpD K (rNeD K) dNe := by
  intro G ρ H S d1 d2 v1 v2 E Q r x1 x2 h
  have gen : (if shD dpt (val S d1) = true ∧ shD dpt (val S d2) = true then Res.ok (D.bl (!PyData.eqv (py (val S d1)) (py (val S d2)))) S else Res.bad) = dNe d1 d2 S → rNeD K v1 v2 H Q := fun e => by
    rw [← e] at h
    by_cases hs : shD dpt (val S d1) = true ∧ shD dpt (val S d2) = true
    · rw [if_pos hs] at h
      exact ⟨_, _, rep_val r x1 hs.1, rep_val r x2 hs.2, shaped_of hs.1, shaped_of hs.2, h.now r rfl⟩
    · rw [if_neg hs] at h
      exact h.elim
  refine gen ?_
  cases d1 <;> cases d2 <;> first
    | rfl
    | (rename_i i j; rw [if_pos ⟨rfl, rfl⟩]; show Res.ok (D.bl (!PyData.eqv (.int i) (.int j))) S = Res.ok (D.bl (!decide (i = j))) S; rw [eqv_int])
    | (rename_i i j; rw [if_pos ⟨rfl, rfl⟩]; show Res.ok (D.bl (!PyData.eqv (.bool i) (.bool j))) S = Res.ok (D.bl (!decide (i = j))) S; rw [eqv_bl])
/-! ### in, not in -/
def rInU (K : PySem.W.Frag) (neg : Bool) : R2 := fun x y H Q => ∃ d ds b, Dp K H x d ∧ Dp K H y (if b = true then .list ds else .tuple ds) ∧ SeqAt.shaped d = true ∧ SeqAt.shaped (if b = true then PyData.list ds else .tuple ds) = true ∧ Q (.bl (if neg then !(ds.any fun z => PyData.eqv z d) else ds.any fun z => PyData.eqv z d)) H
section
variable {X : Cx}
theorem op_inU (hu : X.A.units + 65 < cLine) : OpR X (compareOp .In) (rInU X.K false) := by
  intro pins s σ H x y v u Q I rx ry h
  obtain ⟨d, ds, b, hd, he, sd, se, q⟩ := h
  obtain ⟨as, r1⟩ := Dp.reads I d x v hd rx
  obtain ⟨bs, r2⟩ := Dp.reads I _ y u he ry
  cases b with
  | true => exact SeqAt.in_list_reads r2 r1 (SeqAt.canLay_of_shaped se) (SeqAt.canLay_of_shaped sd) (room_in_shaped sd hu) ⟨.bl _, H, I, rfl, q⟩
  | false => exact SeqAt.in_tuple_reads r2 r1 (SeqAt.canLay_of_shaped se) (SeqAt.canLay_of_shaped sd) (room_in_shaped sd hu) ⟨.bl _, H, I, rfl, q⟩
theorem op_notInU (hu : X.A.units + 65 < cLine) : OpR X (compareOp .NotIn) (rInU X.K true) := by
  intro pins s σ H x y v u Q I rx ry h
  obtain ⟨d, ds, b, hd, he, sd, se, q⟩ := h
  obtain ⟨as, r1⟩ := Dp.reads I d x v hd rx
  obtain ⟨bs, r2⟩ := Dp.reads I _ y u he ry
  cases b with
  | true => exact SeqAt.notIn_list_reads r2 r1 (SeqAt.canLay_of_shaped se) (SeqAt.canLay_of_shaped sd) (room_in_shaped sd hu) ⟨.bl _, H, I, rfl, q⟩
  | false => exact SeqAt.notIn_tuple_reads r2 r1 (SeqAt.canLay_of_shaped se) (SeqAt.canLay_of_shaped sd) (room_in_shaped sd hu) ⟨.bl _, H, I, rfl, q⟩
end
def isIn (d : D) (ds : List D) : Bool := ds.any fun z => PyData.eqv (py z) (py d)
def dInG (neg : Bool) (d e : D) (S : Store) : Res D := match val S e with
  | .tup ds => if shD dpt (val S d) = true ∧ ds.all (shD 11) = true then .ok (.bl (if neg then !isIn (val S d) ds else isIn (val S d) ds)) S else .bad
  | .lst ds => if shD dpt (val S d) = true ∧ ds.all (shD 11) = true then .ok (.bl (if neg then !isIn (val S d) ds else isIn (val S d) ds)) S else .bad
  | .fz ds => if shD dpt (val S d) = true ∧ ds.all (shD 11) = true then .ok (.bl (if neg then !isIn (val S d) ds else isIn (val S d) ds)) S else .bad
  | _ => .bad
theorem any_pyL (d : PyData) : ∀ ds : List D, ((pyL ds).any fun z => PyData.eqv z d) = ds.any fun z => PyData.eqv (py z) d
  | [] => rfl
  | x :: ds => by unfold pyL; rw [List.any_cons, List.any_cons, any_pyL d ds]
theorem od_in {K : PySem.W.Frag} {neg : Bool} : OpD K (rInU K neg) (dInG neg) := by
  intro G ρ H S d1 d2 v1 v2 E Q r x1 x2 h
  have key : ∀ ds (b : Bool), py (val S d2) = (if b = true then PyData.list (pyL ds) else .tuple (pyL ds)) → shD dpt (val S d2) = ds.all (shD 11) →
      (Ok K G (Rep K G) ρ H (if shD dpt (val S d1) = true ∧ ds.all (shD 11) = true then .ok (.bl (if neg then !isIn (val S d1) ds else isIn (val S d1) ds)) S else .bad) E Q) → rInU K neg v1 v2 H Q := fun ds b e1 e2 h => by
    by_cases hs : shD dpt (val S d1) = true ∧ ds.all (shD 11) = true
    · rw [if_pos hs] at h
      have hs2 : shD dpt (val S d2) = true := by rw [e2]; exact hs.2
      refine ⟨_, pyL ds, b, rep_val r x1 hs.1, by rw [← e1]; exact rep_val r x2 hs2, shaped_of hs.1, by rw [← e1]; exact shaped_of hs2, ?_⟩
      rw [any_pyL]
      exact h.now r rfl
    · rw [if_neg hs] at h
      exact h.elim
  unfold dInG at h
  revert h
  cases e : val S d2 with
  | tup ds => exact key ds false (by rw [e]; rfl) (by rw [e]; rfl)
  | lst ds => exact key ds true (by rw [e]; rfl) (by rw [e]; rfl)
  | fz ds => exact key ds true (by rw [e]; rfl) (by rw [e]; rfl)
  | _ => exact fun h => h.elim
/-! ### ints -/
def i2 (f : Int → Int → D) (C : Int → Int → Bool) (d e : D) (S : Store) : Res D := match d, e with
  | .int i, .int j => if C i j = true then .ok (f i j) S else .bad
  | _, _ => .bad
def cT : Int → Int → Bool := fun _ _ => true
theorem od_i0 {K : PySem.W.Frag} {g : Int → Int → V} {f : Int → Int → D} (hf : ∀ G ρ H i j, Rep K G ρ H (f i j) (g i j)) : OpD K (rI0 g) (i2 f cT) := by
  intro G ρ H S d1 d2 v1 v2 E Q r x1 x2 h
  cases d1 with
  | int i =>
    cases d2 with
    | int j => exact ⟨i, j, x1, x2, Ok.now (a := f i j) h r (hf _ _ _ _ _)⟩
    | _ => exact h.elim
  | _ => exact h.elim
theorem od_i {K : PySem.W.Frag} {P : Int → Int → Prop} {C : Int → Int → Bool} {g : Int → Int → V} {f : Int → Int → D} (hC : ∀ i j, C i j = true → P i j) (hf : ∀ G ρ H i j, Rep K G ρ H (f i j) (g i j)) : OpD K (rI P g) (i2 f C) := by
  intro G ρ H S d1 d2 v1 v2 E Q r x1 x2 h
  cases d1 with
  | int i =>
    cases d2 with
    | int j =>
      have h : Ok K G (Rep K G) ρ H (if C i j = true then .ok (f i j) S else .bad) E Q := h
      by_cases hc : C i j = true
      · rw [if_pos hc] at h
        exact ⟨i, j, x1, x2, hC i j hc, h.now r (hf _ _ _ _ _)⟩
      · rw [if_neg hc] at h; exact h.elim
    | _ => exact h.elim
  | _ => exact h.elim
def dSub := i2 (fun i j => .int (i - j)) cT
instance (i j : Int) : Decidable (CMul i j) := by unfold CMul; infer_instance
instance (i j : Int) : Decidable (CDiv i j) := by unfold CDiv; infer_instance
instance (i j : Int) : Decidable (CPow i j) := by unfold CPow; infer_instance
def dMulI := i2 (fun i j => .int (i * j)) fun i j => decide (CMul i j)
def dFdiv := i2 (fun i j => .int (i / j)) fun i j => decide (CDiv i j)
def dMod := i2 (fun i j => .int (i % j)) fun i j => decide (0 < j)
def dPow := i2 (fun i j => .int (i ^ j.toNat)) fun i j => decide (CPow i j)
def dShl := i2 (fun i j => .int (i * 2 ^ j.toNat)) fun i j => decide (CPow i j)
def dShr := i2 (fun i j => .int (i / 2 ^ j.toNat)) fun i j => decide (0 ≤ j)
def dAnd := i2 (fun i j => .int (Builtin.bitAnd i j)) cT
def dOr := i2 (fun i j => .int (Builtin.bitOr i j)) cT
def dXor := i2 (fun i j => .int (Builtin.bitXor i j)) cT
def dLe := i2 (fun i j => .bl (decide (i ≤ j))) cT
def dGt := i2 (fun i j => .bl (decide (j < i))) cT
def dGe := i2 (fun i j => .bl (decide (j ≤ i))) cT
def dNeg (d : D) (S : Store) : Res D := match d with
  | .int i => .ok (.int (-i)) S
  | _ => .bad
section
variable {K : PySem.W.Frag}
theorem od_sub : OpD K (rI0 fun i j => .int (i - j)) dSub := od_i0 fun _ _ _ _ _ => rfl
theorem od_mulI : OpD K (rI CMul fun i j => .int (i * j)) dMulI := od_i (fun _ _ h => of_decide_eq_true h) fun _ _ _ _ _ => rfl
theorem od_fdiv : OpD K (rI CDiv fun i j => .int (i / j)) dFdiv := od_i (fun _ _ h => of_decide_eq_true h) fun _ _ _ _ _ => rfl
theorem od_mod : OpD K (rI (fun _ j => 0 < j) fun i j => .int (i % j)) dMod := od_i (fun _ _ h => of_decide_eq_true h) fun _ _ _ _ _ => rfl
theorem od_pow : OpD K (rI CPow fun i j => .int (i ^ j.toNat)) dPow := od_i (fun _ _ h => of_decide_eq_true h) fun _ _ _ _ _ => rfl
theorem od_shl : OpD K (rI CPow fun i j => .int (i * 2 ^ j.toNat)) dShl := od_i (fun _ _ h => of_decide_eq_true h) fun _ _ _ _ _ => rfl
theorem od_shr : OpD K (rI (fun _ j => 0 ≤ j) fun i j => .int (i / 2 ^ j.toNat)) dShr := od_i (fun _ _ h => of_decide_eq_true h) fun _ _ _ _ _ => rfl
theorem od_and : OpD K (rI0 fun i j => .int (Builtin.bitAnd i j)) dAnd := od_i0 fun _ _ _ _ _ => rfl
theorem od_or : OpD K (rI0 fun i j => .int (Builtin.bitOr i j)) dOr := od_i0 fun _ _ _ _ _ => rfl
theorem od_xor : OpD K (rI0 fun i j => .int (Builtin.bitXor i j)) dXor := od_i0 fun _ _ _ _ _ => rfl
theorem od_le : OpD K (rI0 fun i j => .bl (decide (i ≤ j))) dLe := od_i0 fun _ _ _ _ _ => rfl
theorem od_gt : OpD K (rI0 fun i j => .bl (decide (j < i))) dGt := od_i0 fun _ _ _ _ _ => rfl
theorem od_ge : OpD K (rI0 fun i j => .bl (decide (j ≤ i))) dGe := od_i0 fun _ _ _ _ _ => rfl
theorem ud_neg : UnD K (rU fun i => .int (-i)) dNeg := by
  intro G ρ H S d v E Q r x h
  cases d with
  | int i => exact ⟨i, x, h.now r rfl⟩
  | _ => exact h.elim
theorem ipd_add : IpD K (ipI fun i j => i + j) (i2 (fun i j => .int (i + j)) cT) := by
  intro G ρ H S d1 d2 v1 v2 E Q r x1 x2 h
  cases d1 with
  | int i =>
    cases d2 with
    | int j => exact ⟨i, j, x1, x2, Ok.now (a := D.int (i + j)) h r rfl⟩
    | _ => exact h.elim
  | _ => exact h.elim
theorem ipd_sub : IpD K (ipI fun i j => i - j) (i2 (fun i j => .int (i - j)) cT) := by
  intro G ρ H S d1 d2 v1 v2 E Q r x1 x2 h
  cases d1 with
  | int i =>
    cases d2 with
    | int j => exact ⟨i, j, x1, x2, Ok.now (a := D.int (i - j)) h r rfl⟩
    | _ => exact h.elim
  | _ => exact h.elim
end
/-! ### + of ints, tuples, lists, texts -/
theorem OpD.or {K : PySem.W.Frag} {r r' : R2} {f f' : D → D → Store → Res D} (h : OpD K r f) (h' : OpD K r' f') (g : D → D → Store → Res D) (hg : ∀ d e S, g d e S = f d e S ∨ g d e S = f' d e S) : OpD K (fun x y H Q => r x y H Q ∨ r' x y H Q) g := by
  intro G ρ H S d1 d2 v1 v2 E Q hr x1 x2 q
  rcases hg d1 d2 S with e | e
  · rw [e] at q; exact .inl (h G ρ H S d1 d2 v1 v2 E Q hr x1 x2 q)
  · rw [e] at q; exact .inr (h' G ρ H S d1 d2 v1 v2 E Q hr x1 x2 q)
def lstOf (S : Store) : D → Option (List D)
  | .lst ds => some ds
  | .cell n => match S[n]? with
    | some (.lst ds) => some ds
    | _ => none
  | _ => none
def dAddI := i2 (fun i j => .int (i + j)) cT
def dCatT (d e : D) (S : Store) : Res D := match d, e with
  | .tup xs, .tup ys => if xs.length + ys.length ≤ big then .ok (.tup (xs ++ ys)) S else .bad
  | _, _ => .bad
def dCatL (d e : D) (S : Store) : Res D := match lstOf S d, lstOf S e with
  | some xs, some ys => if xs.length + ys.length ≤ big then .ok (.lst (xs ++ ys)) S else .bad
  | _, _ => .bad
def dAdd (d e : D) (S : Store) : Res D := match d, e with
  | .int i, .int j => .ok (.int (i + j)) S
  | .tup xs, .tup ys => if xs.length + ys.length ≤ big then .ok (.tup (xs ++ ys)) S else .bad
  | d, e => dCatL d e S
section
variable {K : PySem.W.Frag} {G : Addr → Prop} {ρ : List Addr} {H : Hp} {S : Store}
theorem rep_lst (r : RelS K G ρ S H) {d : D} {v : V} {ds : List D} (h : Rep K G ρ H d v) (e : lstOf S d = some ds) : ∃ a vs, v = .ref a ∧ H a = some (.lst vs) ∧ RepL K G ρ H ds vs := by
  cases d with
  | lst ds' =>
    cases e
    obtain ⟨a, vs, rfl, h1, h2⟩ := h
    exact ⟨a, vs, rfl, h1.2.2, h2⟩
  | cell n =>
    unfold lstOf at e
    dsimp only at e
    cases eo : S[n]? with
    | none => rw [eo] at e; cases e
    | some o =>
      rw [eo] at e
      cases o with
      | dK kvs => cases e
      | lst ds' =>
        cases e
        obtain ⟨a, rfl, ha⟩ := h
        obtain ⟨vs, h1, h2⟩ := r.ob n _ a eo ha
        exact ⟨a, vs, rfl, h1, h2⟩
  | _ => cases e
end
theorem od_catL {K : PySem.W.Frag} : OpD K rCat dCatL := by
  intro G ρ H S d1 d2 v1 v2 E Q r x1 x2 h
  unfold dCatL at h
  revert h
  cases e1 : lstOf S d1 with
  | none => exact fun h => h.elim
  | some xs =>
    cases e2 : lstOf S d2 with
    | none => exact fun h => h.elim
    | some ys =>
      intro h
      dsimp only at h
      obtain ⟨a, vs, rfl, h1, h2⟩ := rep_lst r x1 e1
      obtain ⟨b, ws, rfl, h3, h4⟩ := rep_lst r x2 e2
      by_cases hl : xs.length + ys.length ≤ big
      · rw [if_pos hl] at h
        refine ⟨a, b, vs, ws, rfl, rfl, h1, h3, by rw [h2.length, h4.length]; exact big_line hl, fun p hp => ?_⟩
        have k2 : Keep G ρ H ρ (upd H p (.lst (vs ++ ws))) := Keep.new hp r.gt
        exact h _ ρ _ (r.new hp) ⟨p, vs ++ ws, rfl, ⟨r.fresh hp, r.ngn hp, upd_same⟩, RepL.keep k2 _ _ (h2.app h4)⟩ k2
      · rw [if_neg hl] at h; exact h.elim
theorem od_catT {K : PySem.W.Frag} : OpD K (rCatA K) dCatT := by
  intro G ρ H S d1 d2 v1 v2 E Q r x1 x2 h
  cases d1 with
  | tup xs =>
    cases d2 with
    | tup ys =>
      obtain ⟨a, vs, rfl, h1, h2⟩ := x1
      obtain ⟨b, ws, rfl, h3, h4⟩ := x2
      have h : Ok K G (Rep K G) ρ H (if xs.length + ys.length ≤ big then .ok (.tup (xs ++ ys)) S else .bad) E Q := h
      by_cases hl : xs.length + ys.length ≤ big
      · rw [if_pos hl] at h
        refine ⟨a, b, vs, ws, rfl, rfl, h1, h3, by rw [h2.length, h4.length]; exact big_line hl, ?_⟩
        refine ⟨fun e => ?_, fun _ e => ?_, fun _ _ p hp => ?_⟩
        · subst e
          have e0 : xs = [] := List.eq_nil_of_length_eq_zero (by rw [← h2.length]; rfl)
          subst e0
          exact h.now r ⟨b, ws, rfl, h3, h4⟩
        · subst e
          have e0 : ys = [] := List.eq_nil_of_length_eq_zero (by rw [← h4.length]; rfl)
          subst e0
          exact h.now r ⟨a, vs, rfl, h1, by rw [List.append_nil]; exact h2⟩
        · have k2 : Keep G ρ H ρ (upd H p (.tup (vs ++ ws))) := Keep.new hp r.gt
          exact h _ ρ _ (r.new hp) ⟨p, vs ++ ws, rfl, .of upd_same, RepL.keep k2 _ _ (h2.app h4)⟩ k2
      · rw [if_neg hl] at h; exact h.elim
    | _ => exact h.elim
  | _ => exact h.elim
theorem od_add {K : PySem.W.Frag} : OpD K (fun x y H Q => (rI0 fun i j => .int (i + j)) x y H Q ∨ (rCatA K x y H Q ∨ rCat x y H Q)) dAdd :=
  OpD.or (f := dAddI) (f' := fun d e S => match d, e with | .tup xs, .tup ys => dCatT d e S | d, e => dCatL d e S) (od_i0 (f := fun i j => .int (i + j)) (g := fun i j => .int (i + j)) fun _ _ _ _ _ => rfl) (OpD.or od_catT od_catL _ fun d e S => by
    cases d <;> cases e <;> first | exact .inl rfl | exact .inr rfl) _ fun d e S => by
    cases d <;> cases e <;> first | exact .inr rfl | exact .inl rfl
theorem op_add3 {X : Cx} : OpR X (binaryOp .Add) (fun x y H Q => (rI0 fun i j => .int (i + j)) x y H Q ∨ (rCatA X.K x y H Q ∨ rCat x y H Q)) := op_add.or (op_catA.or op_cat)
end Rf

/-! ### enumerate of a tuple -/
namespace PySem
open Sem (wp)
open AutoSeq1 (wpAny_loadPart')
theorem meets_enumerate_newT' (l : Addr) (items : Array Value) (n : Nat) (dct : Option Addr) (sl : Array (Option Value)) :
    Meets (Builtin.«enumerate.__new__» ⟨[.type "enumerate", .ref l], []⟩) (fun _ R s => s.heap.get? l = some { cls := .type "tuple", dict := dct, data := .seq items n, slots := sl } ∧
      R (.ok (.ret (.ref (s.heap.push { cls := .type "tuple_iterator", data := .fields #[.ref l, .int 0 0] }).objs.size)))
        { s with heap := (s.heap.push { cls := .type "tuple_iterator", data := .fields #[.ref l, .int 0 0] }).push { cls := .type "enumerate", data := .fields #[.none, .bool false, .ref s.heap.objs.size, rawInt 0, .none, .none] } }) :=
  .of_wp fun prog w A R s h => by
    obtain ⟨hp, g, d, tk, os⟩ := s; obtain ⟨hl, h⟩ := h
    have hsub := sub_enumerate
    have hL : Heap.IsTuple (Shared.heap ⟨hp, g, d, tk, os⟩) l items := ⟨_, hl, rfl, n, rfl⟩
    wp_walk using wpAny_loadPart' hl
    refine wpAny_stack_any fun st => wpAny_pure ?_
    split
    · rename_i c _ _ _ _ _
      cases (c == Value.type "enumerate")
      · wp_walk using wpAny_loadPart' hl, wpAny_pyIter_tuple hL
        exact ⟨_, rfl, h⟩
      · wp_walk using wpAny_loadPart' hl, wpAny_pyIter_tuple hL
        exact ⟨_, rfl, h⟩
    · wp_walk using wpAny_loadPart' hl, wpAny_pyIter_tuple hL
      exact ⟨_, rfl, h⟩
section
variable {prog : Program} {w : World} {A : Around} {E : Value → Shared → Prop} {s : Shared}
theorem call_enumerate_tuple' {l : Addr} {items : Array Value} {Q : Value → Shared → Prop} (hL : s.heap.IsTuple l items)
    (h : ∀ h', IsEnum h' (s.heap.objs.size + 1) s.heap.objs.size 0 .none → h'.IsTupleIter s.heap.objs.size l 0 → h'.objs.size = s.heap.objs.size + 2 →
      (∀ b o, s.heap.get? b = some o → h'.get? b = some o) → Q (.ref (s.heap.objs.size + 1)) { s with heap := h' }) :
    wpAny (model prog w) A (call (.type "enumerate") [.ref l]) Q E s := by
  obtain ⟨⟨c, dct, dt, sl⟩, hl, hc, n, hd⟩ := hL
  replace hc : c = .type "tuple" := hc
  replace hd : dt = .seq items n := hd
  subst hc hd
  refine callType_new F.called_enumerate (by decide) (F.typeCall_enumerate_1 _) (F.newCall_enumerate_1 _) (fun obj => F.args_object_init_2 obj _) F.entry_enumerate_new
    (meets_enumerate_newT' l items n dct sl) ⟨hl, ?_⟩
  have hz : (s.heap.push { cls := .type "tuple_iterator", data := .fields #[.ref l, .int 0 0] }).objs.size = s.heap.objs.size + 1 := Heap.size_push ..
  show _ ∧ _
  rw [hz]
  have he : IsEnum ((s.heap.push { cls := .type "tuple_iterator", data := .fields #[.ref l, .int 0 0] }).push
      { cls := .type "enumerate", data := .fields #[.none, .bool false, .ref s.heap.objs.size, rawInt 0, .none, .none] }) (s.heap.objs.size + 1) s.heap.objs.size 0 .none := by
    have := Heap.get?_push_size (s.heap.push { cls := .type "tuple_iterator", data := .fields #[.ref l, .int 0 0] })
      (o := { cls := .type "enumerate", data := .fields #[.none, .bool false, .ref s.heap.objs.size, rawInt 0, .none, .none] }) rfl
    rw [hz] at this; exact this
  refine ⟨⟨_, he, rfl⟩, h _ he ⟨_, Heap.get?_push_of_some _ (Heap.get?_push_size _ rfl), rfl, rfl⟩ (by rw [Heap.size_push, hz]) fun b o x => Heap.get?_push_of_some _ (Heap.get?_push_of_some _ x)⟩
end
end PySem
namespace Rf
open PySem PySem.Spec PyProof.Rows L2
def IteT (K : PySem.W.Frag) (a : Addr) : It :=
  ⟨fun i H => ∃ (xs : List V) (x : V), SqT K H a xs ∧ xs[i]? = some x, fun i H v H' => ∃ T x, v = .ref T ∧ H T = none ∧ H' = upd H T (.tup [.int (i : Nat), x]) ∧ ∀ xs, SqT K H a xs → xs[i]? = some x, fun i H => ∃ xs : List V, SqT K H a xs ∧ xs.length ≤ i⟩
theorem turn_enumT {P : Program} {w : World} {K : PySem.W.Frag} {elts : List Expr} {kk : Nat} {tpos : Pos} (a e it : Addr) :
    Turn P w K (.Tuple elts kk tpos) (IteT K a) [e, it] e (fun i h => (∃ old, IsEnum h e it ((i : Nat) : Int) old) ∧ h.IsTupleIter it a i ∧ e ≠ it ∧ a ≠ it ∧ a ≠ e) where
  mem := by simp
  obj := fun i h st b hb => by
    obtain ⟨⟨old, he⟩, ⟨o, ho, hc, hd⟩, _⟩ := st
    have e' : b = e ∨ b = it := by simpa using hb
    rcases e' with z | z
    · rw [z]; exact ⟨_, he, fun v q => nomatch q⟩
    · rw [z]; exact ⟨o, ho, fun v q => by rw [hd] at q; cases q⟩
  keep := fun i h h' st k => let ⟨⟨old, he⟩, hi, hne⟩ := st; ⟨⟨old, k e (by simp) _ he⟩, hi.at fun o q => k it (by simp) o q, hne⟩
  item := by
    intro X hP hw hK hc i pins s σ H E I hf st hg
    subst hP hw hK
    obtain ⟨⟨old, he⟩, hit, hne, hat, hae⟩ := st
    obtain ⟨xs, x, hq, hx⟩ := hg
    obtain ⟨its, rv, p, hz⟩ := I.tuple hq
    obtain ⟨u, hu, ru⟩ := rv.get hx
    have hel : e < s.heap.objs.size := Heap.lt_size he
    have hil : it < s.heap.objs.size := by obtain ⟨_, q, _⟩ := hit; exact Heap.lt_size q
    have hlt : i < its.toArray.size := by rw [List.size_toArray]; exact (List.getElem?_eq_some_iff.mp hu).1
    refine wpAny_pyNext_enum_itemD (Draws.tuple (prog := X.prog) (w := X.w) (A := X.A.in1) (I.ok.hd hc) it a hat its.toArray) he ⟨hit, p⟩ hlt hne (by simp [hne, Ne.symm hae]) fun y h' tk hy ho hit' hT hsz hk => ?_
    have eu : y = u := by
      have hy : its[i]? = some y := by simpa using hy
      rw [hu] at hy
      exact (Option.some.inj hy).symm
    subst eu
    refine ⟨_, rfl, wpAny_letOwnedTupleGo_enum (s := { s with heap := h', toks := tk + 1 }) ho fun h'' he' sb => ?_⟩
    have hT2 : h''.get? s.heap.objs.size = some { cls := .type "tuple", data := .seq #[.int i tk, y] } := (sb.2 _ (Nat.ne_of_gt hel)).trans hT
    have new : ObjOk X.prog X.w (upd H s.heap.objs.size (.tup [.int (i : Nat), x])) h'' s.heap.objs.size (.tup [.int (i : Nat), x]) :=
      ⟨by show 2 ≤ sizeLine; decide, [.int i tk, y], .cons ⟨_, rfl⟩ (.cons ru .nil), ⟨_, hT2, rfl, _, rfl⟩⟩
    have I1 : Inv X pins σ (upd H s.heap.objs.size (.tup [.int (i : Nat), x])) { s with heap := h'', toks := tk + 1 } :=
      I.turnedNew (ch := [e, it]) (fun b ob hb q => (sb.2 b (fun z => hb (by simp [z]))).trans (hk b ob (fun z => hb (by simp [z])) (fun z => hb (by simp [z])) q)) hf (Nat.le_refl _) new
    refine ⟨.ref s.heap.objs.size, _, I1, rfl, ⟨_, x, rfl, I.hok.fresh (Nat.le_refl _), rfl, fun ys hy => by rw [I.tuple_inj hy hq]; exact hx⟩, ⟨⟨y, ?_⟩, hit'.1.at fun o q => (sb.2 it (Ne.symm hne)).trans q, hne, hat, hae⟩, fun b hb => ?_⟩
    · have e1 : ((i + 1 : Nat) : Int) = (i : Int) + 1 := by omega
      rw [e1]; exact he'
    · have hb' : b < s.heap.objs.size := by
        have e' : b = e ∨ b = it := by simpa using hb
        rcases e' with z | z
        · rw [z]; exact hel
        · rw [z]; exact hil
      rw [upd_ne (Nat.ne_of_lt hb')]
      exact (hf b hb).1
  done := by
    intro X hP hw hK hc i pins s σ H E I hf st hg
    subst hP hw hK
    obtain ⟨⟨old, he⟩, hit, hne, hat, hae⟩ := st
    obtain ⟨xs, hq, hx⟩ := hg
    obtain ⟨its, rv, p, hz⟩ := I.tuple hq
    obtain ⟨f0, f1, f2, f3, f4, f5⟩ := hf it (by simp)
    have hl := rv.length
    have hT : s.TypeIs (.ref e) "enumerate" := ⟨_, he, rfl⟩
    unfold pyNext
    refine wpAny_bind (wpAny_attempt (wpAny_callSpecial?_slot (name := Str.ofString "__next__") hT F.slot_enumerate_next
      (wpAny_call_entry F.slot_enumerate_next hT F.entry_enumerate_next ?_ (F.args_enumerate_next_1 _))))
    show wpAny _ _ (field (.ref e) 2 >>= _) _ _ _
    refine wpAny_bind (wpAny_field he rfl (x := .ref it) rfl ?_)
    refine wpAny_bind (wpAny_nextOf_tuple_end (I.ok.hd hc) hit p (by simp; omega) fun h' x he' hx' => ?_)
    obtain ⟨o, ho, hc'⟩ := hx'
    refine wpAny_bind (wpAny_isInstance (T := "StopIteration") (b := true) ⟨o, ho, hc'⟩ isSubtype_stop ?_)
    exact wpAny_pure ⟨rfl, I.turned (t' := s.toks) (fun b o hb q => he' b o hb q) f0 f1 f3 f4 f5⟩
  self := fun A i s Q E st h => let ⟨⟨_, he⟩, _⟩ := st; wpAny_pyIter_enum he h
def iEnumT (K : PySem.W.Frag) (ta : TA) : TI := fun σ H R => ta σ H fun vs H1 => ∃ a xs, vs = [.ref a] ∧ SqT K H1 a xs ∧ R (IteT K a) H1
theorem pi_enumT {X : Cx} {e : Expr} {ta : TA} {p pos tpos : Pos} {elts : List Expr} {kk : Nat} (hg : Gl X "enumerate") (hm : X.mg "enumerate" = none) (ha : PA X [e] ta) (hs : starEach [e] X.env = [(false, eval e X.env)] := by rfl) :
    PI X (.Tuple elts kk tpos) (.Call (.Name "enumerate" p) [e] [] pos) (iEnumT X.K ta) := by
  refine ⟨fun pins s σ H R I h => ?_⟩
  refine Call_ (ld_blt I hg hm boot_enumerate (PyProof.Rows.callWith_type1 (thn (ha.run pos pins s σ H _ I h) fun us s1 ⟨vs, H1, I1, r1, q1⟩ => ?_) hs rfl))
  obtain ⟨a, xs, ex, hq, q⟩ := q1
  subst ex
  cases r1 with
  | cons r rr =>
    cases rr
    cases r
    obtain ⟨its, rv, p', hz⟩ := I1.tuple hq
    have hal : a < s1.heap.objs.size := by obtain ⟨o, ho, _⟩ := p'; exact Heap.lt_size ho
    refine call_enumerate_tuple' p' fun h' he hit hsz hk => wpAny_pyIter_enum he ?_
    have I2 : Inv X pins σ H1 { s1 with heap := h' } := I1.kept (t' := s1.toks) hk
    refine ⟨s1.heap.objs.size + 1, [s1.heap.objs.size + 1, s1.heap.objs.size], _, _, H1, rfl, I2, turn_enumT a (s1.heap.objs.size + 1) s1.heap.objs.size, ⟨⟨.none, he⟩, hit, Nat.succ_ne_self _, Nat.ne_of_lt hal, Nat.ne_of_lt (Nat.lt_succ_of_lt hal)⟩, fun b hb => ?_, q⟩
    have e' : b = s1.heap.objs.size + 1 ∨ b = s1.heap.objs.size := by simpa using hb
    have hle : s1.heap.objs.size ≤ b := by
      rcases e' with z | z
      · rw [z]; exact Nat.le_add_right _ _
      · rw [z]; exact Nat.le_refl _
    exact I1.fpOk hle (I1.hok.fresh hle)
end Rf

namespace Rf
open PySem PySem.Spec PyProof.Rows L2
/-! ### sequences that are read -/
/-- the items; the cell they stand in; whether it is a tuple -/
def seqOf (S : Store) : D → Option (List D)
  | .tup ds => some ds
  | .lst ds => some ds
  | .fz ds => some ds
  | .cell n => match S[n]? with
    | some (.lst ds) => some ds
    | _ => none
  | _ => none
def isTup : D → Bool
  | .tup _ => true
  | _ => false
section
variable {K : PySem.W.Frag} {G : Addr → Prop} {ρ : List Addr} {H : Hp} {S : Store}
theorem rep_seq (r : RelS K G ρ S H) {d : D} {v : V} {ds : List D} (h : Rep K G ρ H d v) (e : seqOf S d = some ds) : ∃ a vs, v = .ref a ∧ (if isTup d = true then SqT K H a vs else SqL K H a vs) ∧ RepL K G ρ H ds vs := by
  cases d with
  | tup ds' =>
    cases e
    obtain ⟨a, vs, rfl, h1, h2⟩ := h
    exact ⟨a, vs, rfl, h1, h2⟩
  | lst ds' =>
    cases e
    obtain ⟨a, vs, rfl, h1, h2⟩ := h
    exact ⟨a, vs, rfl, h1.sq, h2⟩
  | fz ds' =>
    cases e
    obtain ⟨a, vs, rfl, h1, h2⟩ := h
    exact ⟨a, vs, rfl, h1.sq, h2⟩
  | cell n =>
    unfold seqOf at e
    dsimp only at e
    cases eo : S[n]? with
    | none => rw [eo] at e; cases e
    | some o =>
      rw [eo] at e
      cases o with
      | dK kvs => cases e
      | lst ds' =>
        cases e
        obtain ⟨a, rfl, ha⟩ := h
        obtain ⟨vs, h1, h2⟩ := r.ob n _ a eo ha
        exact ⟨a, vs, rfl, .of h1, h2⟩
  | _ => cases e
end
/-! ### subscripts, slices -/
def dIx (d i : D) (S : Store) : Res D := match seqOf S d, i with
  | some ds, .int k => (match atI ds k with
    | some x => .ok x S
    | none => .bad)
  | _, _ => .bad
theorem atI_rep {K : PySem.W.Frag} {G : Addr → Prop} {ρ : List Addr} {H : Hp} {ds : List D} {vs : List V} {k : Int} {x : D} (h : RepL K G ρ H ds vs) (e : atI ds k = some x) : ∃ v, atI vs k = some v ∧ Rep K G ρ H x v := by
  unfold atI at e ⊢
  rw [h.length]
  cases ej : ixN ds.length k with
  | none => rw [ej] at e; cases e
  | some j =>
    rw [ej] at e
    have e : ds[j]? = some x := e
    obtain ⟨v, h1, h2⟩ := h.get e
    exact ⟨v, h1, h2⟩
theorem od_ix {K : PySem.W.Frag} : OpD K (rIx K) dIx := by
  intro G ρ H S d1 d2 v1 v2 E Q r x1 x2 h
  unfold dIx at h
  revert h
  cases e1 : seqOf S d1 with
  | none => exact fun h => h.elim
  | some ds =>
    cases d2 with
    | int k =>
      dsimp only
      cases e2 : atI ds k with
      | none => exact fun h => h.elim
      | some x =>
        intro h
        obtain ⟨a, vs, rfl, h1, h2⟩ := rep_seq r x1 e1
        obtain ⟨v, h3, h4⟩ := atI_rep h2 e2
        by_cases ht : isTup d1 = true
        · rw [if_pos ht] at h1
          exact .inr (.inl ⟨a, vs, k, v, rfl, x2, h1, h3, h.now r h4⟩)
        · rw [if_neg ht] at h1
          exact .inl ⟨a, vs, k, v, rfl, x2, h1, h3, h.now r h4⟩
    | _ => exact fun h => h.elim
def cutD (ds : List D) (lo hi : Option Int) : List D := (ds.drop (HT.sIx ds.length 0 lo)).take (HT.sIx ds.length ds.length hi - HT.sIx ds.length 0 lo)
def dSl (d : D) (lo hi : Option Int) (S : Store) : Res D := match d with
  | .tup ds => .ok (.tup (cutD ds lo hi)) S
  | d => match seqOf S d with
    | some ds => .ok (.lst (cutD ds lo hi)) S
    | none => .bad
def SlD (K : PySem.W.Frag) (r : V → Option Int → Option Int → Hp → VK → Prop) (f : D → Option Int → Option Int → Store → Res D) : Prop :=
  ∀ G ρ H S d v lo hi E Q, RelS K G ρ S H → Rep K G ρ H d v → Ok K G (Rep K G) ρ H (f d lo hi S) E Q → r v lo hi H Q
theorem cut_rep {K : PySem.W.Frag} {G : Addr → Prop} {ρ : List Addr} {H : Hp} {ds : List D} {vs : List V} {lo hi : Option Int} (h : RepL K G ρ H ds vs) : RepL K G ρ H (cutD ds lo hi) (cutV vs lo hi) := by
  unfold cutD cutV
  rw [h.length]
  exact (h.drop _).take _
theorem sld_any {K : PySem.W.Frag} : SlD K (fun x lo hi H Q => rSlA K x lo hi H Q ∨ rSlL K x lo hi H Q) dSl := by
  intro G ρ H S d v lo hi E Q r x h
  have lst : isTup d = false → ∀ ds, seqOf S d = some ds → Ok K G (Rep K G) ρ H (.ok (.lst (cutD ds lo hi)) S) E Q → rSlL K v lo hi H Q := fun ht ds e h => by
    obtain ⟨a, vs, rfl, h1, h2⟩ := rep_seq r x e
    rw [if_neg (by rw [ht]; decide)] at h1
    refine ⟨a, vs, rfl, h1, fun p hp => ?_⟩
    have k2 : Keep G ρ H ρ (upd H p (.lst (cutV vs lo hi))) := Keep.new hp r.gt
    exact h _ ρ _ (r.new hp) ⟨p, _, rfl, ⟨r.fresh hp, r.ngn hp, upd_same⟩, RepL.keep k2 _ _ (cut_rep h2)⟩ k2
  cases d with
  | tup ds =>
    obtain ⟨a, vs, rfl, h1, h2⟩ := x
    refine .inl ⟨a, vs, rfl, h1, fun hw => ?_, fun hw p hp => ?_⟩
    · refine Ok.now (a := D.tup (cutD ds lo hi)) h r ⟨a, vs, rfl, h1, ?_⟩
      have e : cutV vs lo hi = vs := by
        unfold cutV
        rw [hw.1, hw.2]
        simp
      have := cut_rep (lo := lo) (hi := hi) h2
      rw [e] at this
      exact this
    · have k2 : Keep G ρ H ρ (upd H p (.tup (cutV vs lo hi))) := Keep.new hp r.gt
      exact h (.ref p) ρ _ (r.new hp) ⟨p, _, rfl, .of upd_same, RepL.keep k2 _ _ (cut_rep h2)⟩ k2
  | lst ds => exact .inr (lst rfl ds rfl h)
  | fz ds => exact .inr (lst rfl ds rfl h)
  | cell n =>
    have h : Ok K G (Rep K G) ρ H (match seqOf S (.cell n) with | some ds => .ok (.lst (cutD ds lo hi)) S | none => .bad) E Q := h
    cases e : seqOf S (.cell n) with
    | none => rw [e] at h; exact h.elim
    | some ds => rw [e] at h; exact .inr (lst rfl ds e h)
  | _ => exact h.elim
section
variable {X : Cx} {e a b : Expr} {lo hi : Option Expr} {pos p2 : Pos} {cA : Nat → Addr} {W : WX}
theorem je_ix {ma mb : M D} (ha : PE X a (tE X.K cA W ma)) (hb : PE X b (tE X.K cA W mb)) (hs : PlainIx b := by exact fun _ _ => rfl) : PE X (.Subscript a b pos) (tE X.K cA W (e2 dIx ma mb)) :=
  pe_imp (pe_ix ix_seq ha hb hs) (op_read od_ix)
theorem po_imp {o : Option Expr} {t t' : TO} (h : PO X o t) (i : ∀ σ H Q, t' σ H Q → t σ H Q) : PO X o t' := ⟨fun pins s σ H Q I hw => h.run pins s σ H Q I (i σ H Q hw)⟩
def tOo (K : PySem.W.Frag) (cA : Nat → Addr) (W : WX) (m : M (Option Int)) : TO := fun σ H Q => ∃ G ρ env S, RelE K G ρ H env σ ∧ RelS K G ρ S H ∧ Ok K G (fun _ _ (a b : Option Int) => b = a) ρ H (m env S) (WE' cA W σ) Q
def oNone : M (Option Int) := fun _ S => .ok none S
def oSome (m : M D) : M (Option Int) := fun env S => (m env S).bind fun d S1 => match d with
  | .int i => .ok (some i) S1
  | _ => .bad
theorem jo_none : PO X none (tOo X.K cA W oNone) := po_imp po_none fun _ _ _ ⟨_, _, _, _, _, hS, h⟩ => h.now hS rfl
theorem jo_some {m : M D} (h : PE X e (tE X.K cA W m)) : PO X (some e) (tOo X.K cA W (oSome m)) := by
  refine po_imp (po_some h) ?_
  rintro σ H Q ⟨G, ρ, env, S, hE, hS, h⟩
  refine ⟨G, ρ, env, S, hE, hS, Ok.bind h fun x S1 v ρ1 H1 r1 x1 k1 h1 => ?_⟩
  cases x with
  | int i => exact ⟨i, x1, h1.now r1 rfl⟩
  | _ => exact h1.elim
def eSl (f : D → Option Int → Option Int → Store → Res D) (ma : M D) (ml mh : M (Option Int)) : M D := fun env S => (ma env S).bind fun x S1 => (ml env S1).bind fun l S2 => (mh env S2).bind fun u S3 => f x l u S3
theorem je_sl {ma : M D} {ml mh : M (Option Int)} (ha : PE X a (tE X.K cA W ma)) (hl : PO X lo (tOo X.K cA W ml)) (hh : PO X hi (tOo X.K cA W mh)) : PE X (.Subscript a (.Slice lo hi none p2) pos) (tE X.K cA W (eSl dSl ma ml mh)) := by
  refine pe_imp (pe_slice (sl_tupA.or sl_list) ha hl hh) ?_
  rintro σ H Q ⟨G, ρ, env, S, hE, hS, h⟩
  refine ⟨G, ρ, env, S, hE, hS, Ok.bind h fun x S1 v ρ1 H1 r1 x1 k1 h1 => ?_⟩
  refine ⟨G, ρ1, env, S1, hE.keep k1, r1, Ok.bind h1 fun l S2 l' ρ2 H2 r2 x2 k2 h2 => ?_⟩
  refine ⟨G, ρ2, env, S2, (hE.keep k1).keep k2, r2, Ok.bind h2 fun u S3 u' ρ3 H3 r3 x3 k3 h3 => ?_⟩
  cases (show l' = l from x2)
  cases (show u' = u from x3)
  exact sld_any G ρ3 H3 S3 x v l u _ Q r3 (Rep.keep (k2.trans k3) _ _ x1) h3
end
/-! ### what a loop walks -/
def fIt (S : Store) : D → Option IT
  | .tup ds => some ⟨ds, []⟩
  | .lst ds => some ⟨ds, []⟩
  | .fz ds => some ⟨ds, []⟩
  | .cell n => match S[n]? with
    | some (.lst ds) => some ⟨ds, [(n, ds)]⟩
    | _ => none
  | _ => none
def iSeq (m : M D) : M IT := fun env S => (m env S).bind fun d S1 => match fIt S1 d with
  | some t => .ok t S1
  | none => .bad
section
variable {K : PySem.W.Frag} {G : Addr → Prop} {ρ : List Addr} {H : Hp} {S : Store}
/-- how a sequence stands at every later turn -/
structure SeqT (K : PySem.W.Frag) (G : Addr → Prop) (ρ : List Addr) (H : Hp) (t : IT) (a : Addr) (b : Bool) : Prop where
  st : ∀ G1 ρ1 S1 H1, Keep2 G ρ H G1 ρ1 H1 → RelS K G1 ρ1 S1 H1 → t.chk S1 → ∃ vs, (if b = true then SqT K H1 a vs else SqL K H1 a vs) ∧ RepL K G1 ρ1 H1 t.ds vs
theorem seq_at (r : RelS K G ρ S H) {d : D} {v : V} {t : IT} (h : Rep K G ρ H d v) (e : fIt S d = some t) : ∃ a, v = .ref a ∧ SeqT K G ρ H t a (isTup d) ∧ t.chk S := by
  cases d with
  | tup ds =>
    cases e
    obtain ⟨a, vs, rfl, h1, h2⟩ := h
    exact ⟨a, rfl, ⟨fun G1 ρ1 S1 H1 k r1 c => ⟨vs, k.sqT h1, RepL.keep2 k ds vs h2⟩⟩, fun p hp => nomatch hp⟩
  | lst ds =>
    cases e
    obtain ⟨a, vs, rfl, h1, h2⟩ := h
    exact ⟨a, rfl, ⟨fun G1 ρ1 S1 H1 k r1 c => ⟨vs, (k.frL h1).sq, RepL.keep2 k ds vs h2⟩⟩, fun p hp => nomatch hp⟩
  | fz ds =>
    cases e
    obtain ⟨a, vs, rfl, h1, h2⟩ := h
    exact ⟨a, rfl, ⟨fun G1 ρ1 S1 H1 k r1 c => ⟨vs, (k.fzL h1).sq, RepL.keep2 k ds vs h2⟩⟩, fun p hp => nomatch hp⟩
  | cell n =>
    unfold fIt at e
    dsimp only at e
    cases eo : S[n]? with
    | none => rw [eo] at e; cases e
    | some o =>
      rw [eo] at e
      cases o with
      | dK kvs => cases e
      | lst ds =>
        cases e
        obtain ⟨a, rfl, ha⟩ := h
        refine ⟨a, rfl, ⟨fun G1 ρ1 S1 H1 k r1 c => ?_⟩, fun p hp => ?_⟩
        · have c1 : S1[n]? = some (.lst ds) := c (n, ds) List.mem_cons_self
          obtain ⟨vs, h1, h2⟩ := r1.ob n _ a c1 (k.get ha)
          exact ⟨vs, .of h1, h2⟩
        · have : p = (n, ds) := by simpa using hp
          subst this
          exact eo
  | _ => cases e
end
section
variable {X : Cx} {tg e e2 : Expr} {pos p : Pos} {cA : Nat → Addr} {W : WX}
theorem wd_tup {K : PySem.W.Frag} {G : Addr → Prop} {ρ : List Addr} {H : Hp} {t : IT} {a : Addr} (q : SeqT K G ρ H t a true) : WD K G ρ H t (Itt K a) where
  go := fun G1 ρ1 S1 H1 i k r c hi => by
    obtain ⟨vs, h1, h2⟩ := q.st G1 ρ1 S1 H1 k r c
    have hv : i < vs.length := by rw [h2.length]; exact hi
    exact ⟨vs, vs[i], h1, List.getElem?_eq_getElem hv⟩
  stop := fun G1 ρ1 S1 H1 k r c => by
    obtain ⟨vs, h1, h2⟩ := q.st G1 ρ1 S1 H1 k r c
    exact ⟨vs, h1, Nat.le_of_eq h2.length⟩
  yld := fun G1 ρ1 S1 H1 i d x H2 k r c hd y => by
    obtain ⟨vs, h1, h2⟩ := q.st G1 ρ1 S1 H1 k r c
    obtain ⟨rfl, y2⟩ := y
    obtain ⟨v, h3, h4⟩ := h2.get hd
    have : some x = some v := (y2 vs h1).symm.trans h3
    cases this
    exact ⟨h4, Keep.refl, r⟩
theorem wd_lst {K : PySem.W.Frag} {G : Addr → Prop} {ρ : List Addr} {H : Hp} {t : IT} {a : Addr} (q : SeqT K G ρ H t a false) : WD K G ρ H t (Itl K a) where
  go := fun G1 ρ1 S1 H1 i k r c hi => by
    obtain ⟨vs, h1, h2⟩ := q.st G1 ρ1 S1 H1 k r c
    have hv : i < vs.length := by rw [h2.length]; exact hi
    exact ⟨vs, vs[i], h1, List.getElem?_eq_getElem hv⟩
  stop := fun G1 ρ1 S1 H1 k r c => by
    obtain ⟨vs, h1, h2⟩ := q.st G1 ρ1 S1 H1 k r c
    exact ⟨vs, h1, Nat.le_of_eq h2.length⟩
  yld := fun G1 ρ1 S1 H1 i d x H2 k r c hd y => by
    obtain ⟨vs, h1, h2⟩ := q.st G1 ρ1 S1 H1 k r c
    obtain ⟨rfl, y2⟩ := y
    obtain ⟨v, h3, h4⟩ := h2.get hd
    have : some x = some v := (y2 vs h1).symm.trans h3
    cases this
    exact ⟨h4, Keep.refl, r⟩
theorem pi_or {t u : TI} (h : PI X tg e t) (h' : PI X tg e u) : PI X tg e (fun σ H R => t σ H R ∨ u σ H R) := ⟨fun pins s σ H R I q => q.elim (h.run pins s σ H R I) (h'.run pins s σ H R I)⟩
theorem Keep2.refl {G : Addr → Prop} {ρ : List Addr} {H : Hp} : Keep2 G ρ H G ρ H := Keep.refl.two
theorem ji_seq {m : M D} (h : PE X e (tE X.K cA W m)) : PI X tg e (tI X.K cA W (iSeq m)) := by
  refine pi_imp (pi_or (pi_tup h) (pi_list h)) ?_
  rintro σ H R ⟨G, ρ, env, S, hE, hS, h⟩
  unfold iSeq at h
  cases hm : m env S with
  | bad => rw [hm] at h; exact h.elim
  | err c S1 =>
    rw [hm] at h
    refine .inl ⟨G, ρ, env, S, hE, hS, ?_⟩
    rw [hm]
    exact h
  | ok d S1 =>
    rw [hm] at h
    dsimp only [bind_ok] at h
    cases ei : fIt S1 d with
    | none => rw [ei] at h; exact h.elim
    | some t =>
      rw [ei] at h
      dsimp only at h
      cases ht : isTup d with
      | true =>
        refine .inl ⟨G, ρ, env, S, hE, hS, ?_⟩
        rw [hm]
        intro v ρ1 H1 r1 x1 k1
        obtain ⟨a, rfl, q, c⟩ := seq_at r1 x1 ei
        rw [ht] at q
        obtain ⟨vs, q1, q2⟩ := q.st G ρ1 S1 H1 Keep2.refl r1 c
        exact ⟨a, rfl, ⟨vs, q1⟩, h _ ρ1 H1 r1 (wd_tup q) k1⟩
      | false =>
        refine .inr ⟨G, ρ, env, S, hE, hS, ?_⟩
        rw [hm]
        intro v ρ1 H1 r1 x1 k1
        obtain ⟨a, rfl, q, c⟩ := seq_at r1 x1 ei
        rw [ht] at q
        obtain ⟨vs, q1, q2⟩ := q.st G ρ1 S1 H1 Keep2.refl r1 c
        exact ⟨a, rfl, ⟨vs, q1⟩, h _ ρ1 H1 r1 (wd_lst q) k1⟩
/-! range -/
def rangeD (lo : Int) (n : Nat) : List D := (List.range n).map fun i => .int (lo + (i : Nat))
def iR1 (ma : M (List D)) : M IT := fun env S => (ma env S).bind fun ds S1 => match ds with
  | [.int j] => if -(2 ^ 62) ≤ j ∧ j < 2 ^ 62 then .ok ⟨(List.range j.toNat).map fun i => .int (i : Nat), []⟩ S1 else .bad
  | _ => .bad
def iR2 (ma : M (List D)) : M IT := fun env S => (ma env S).bind fun ds S1 => match ds with
  | [.int i, .int j] => if -(2 ^ 62) ≤ i ∧ i < 2 ^ 62 ∧ -(2 ^ 62) ≤ j ∧ j < 2 ^ 62 then .ok ⟨rangeD i (j - i).toNat, []⟩ S1 else .bad
  | _ => .bad
theorem wd_range {K : PySem.W.Frag} {G : Addr → Prop} {ρ : List Addr} {H : Hp} (lo : Int) (n : Nat) : WD K G ρ H ⟨rangeD lo n, []⟩ (Itr lo n) where
  go := fun G1 ρ1 S1 H1 i k r c hi => by
    have hi : i < (rangeD lo n).length := hi
    unfold rangeD at hi
    simp at hi
    exact hi
  stop := fun G1 ρ1 S1 H1 k r c => by
    show n ≤ (rangeD lo n).length
    unfold rangeD
    simp
  yld := fun G1 ρ1 S1 H1 i d x H2 k r c hd y => by
    obtain ⟨rfl, rfl⟩ := y
    have hd1 : (rangeD lo n)[i]? = some d := hd
    unfold rangeD at hd1
    rw [List.getElem?_map] at hd1
    cases hr : (List.range n)[i]? with
    | none => rw [hr] at hd1; cases hd1
    | some j =>
      rw [hr] at hd1
      have ej : j = i := by
        have := List.getElem?_eq_some_iff.mp hr
        obtain ⟨h1, h2⟩ := this
        simp at h2
        exact h2.symm
      rw [ej] at hd1
      have hd2 : some (D.int (lo + (i : Nat))) = some d := hd1
      rw [← Option.some.inj hd2]
      exact ⟨rfl, Keep.refl, r⟩
theorem ji_range1 {ma : M (List D)} (hg : Gl X "range") (hm : X.mg "range" = none) (ha : PA X [e] (tAr X.K cA W ma)) (hs : starEach [e] X.env = [(false, eval e X.env)] := by rfl) : PI X tg (.Call (.Name "range" p) [e] [] pos) (tI X.K cA W (iR1 ma)) := by
  refine pi_imp (pi_range1 hg hm ha hs) ?_
  rintro σ H R ⟨G, ρ, env, S, hE, hS, h⟩
  refine ⟨G, ρ, env, S, hE, hS, Ok.bind h fun ds S1 vs ρ1 H1 r1 x1 k1 h1 => ?_⟩
  match ds, h1, x1 with
  | [.int j], h1, x1 =>
    obtain ⟨v, _, rfl, q1, rfl⟩ := x1
    cases (show v = .int j from q1)
    dsimp only at h1
    by_cases hj : -(2 ^ 62) ≤ j ∧ j < 2 ^ 62
    · rw [if_pos hj] at h1
      refine ⟨j, rfl, hj.1, hj.2, h1 _ ρ1 H1 r1 ?_ Keep.refl⟩
      have e : (List.range j.toNat).map (fun i => D.int (i : Nat)) = rangeD 0 j.toNat := by
        unfold rangeD
        congr
        funext i
        rw [Int.zero_add]
      rw [e]
      exact wd_range 0 j.toNat
    · rw [if_neg hj] at h1; exact h1.elim
theorem ji_range2 {ma : M (List D)} (hg : Gl X "range") (hm : X.mg "range" = none) (ha : PA X [e, e2] (tAr X.K cA W ma)) (hs : starEach [e, e2] X.env = [(false, eval e X.env), (false, eval e2 X.env)] := by rfl) (hs2 : starEach [e2] X.env = [(false, eval e2 X.env)] := by rfl) : PI X tg (.Call (.Name "range" p) [e, e2] [] pos) (tI X.K cA W (iR2 ma)) := by
  refine pi_imp (pi_range2 hg hm ha hs hs2) ?_
  rintro σ H R ⟨G, ρ, env, S, hE, hS, h⟩
  refine ⟨G, ρ, env, S, hE, hS, Ok.bind h fun ds S1 vs ρ1 H1 r1 x1 k1 h1 => ?_⟩
  match ds, h1, x1 with
  | [.int i, .int j], h1, x1 =>
    obtain ⟨v, _, rfl, q1, w, _, rfl, q2, rfl⟩ := x1
    cases (show v = .int i from q1)
    cases (show w = .int j from q2)
    dsimp only at h1
    by_cases hj : -(2 ^ 62) ≤ i ∧ i < 2 ^ 62 ∧ -(2 ^ 62) ≤ j ∧ j < 2 ^ 62
    · rw [if_pos hj] at h1
      exact ⟨i, j, rfl, hj, h1 _ ρ1 H1 r1 (wd_range i (j - i).toNat) Keep.refl⟩
    · rw [if_neg hj] at h1; exact h1.elim
/-! enumerate, zip -/
def enumD : Nat → List D → List D
  | _, [] => []
  | n, d :: ds => .tup [.int (n : Nat), d] :: enumD (n + 1) ds
theorem enumD_get : ∀ (n : Nat) (ds : List D) (i : Nat) (x : D), (enumD n ds)[i]? = some x → ∃ d, ds[i]? = some d ∧ x = .tup [.int ((n + i : Nat) : Int), d]
  | _, [], i, x, h => by simp [enumD] at h
  | n, d :: ds, 0, x, h => by
    have h : some (D.tup [.int (n : Nat), d]) = some x := h
    cases h
    exact ⟨d, rfl, rfl⟩
  | n, d :: ds, i + 1, x, h => by
    obtain ⟨d', h1, h2⟩ := enumD_get (n + 1) ds i x h
    exact ⟨d', h1, by rw [h2]; congr 4; omega⟩
theorem enumD_len : ∀ (n : Nat) (ds : List D), (enumD n ds).length = ds.length
  | _, [] => rfl
  | n, d :: ds => by show (enumD (n + 1) ds).length + 1 = ds.length + 1; rw [enumD_len]
def iEnumM (ma : M (List D)) : M IT := fun env S => (ma env S).bind fun ds S1 => match ds with
  | [d] => (match fIt S1 d with
    | some t => .ok ⟨enumD 0 t.ds, t.cells⟩ S1
    | none => .bad)
  | _ => .bad
theorem wd_enum {K : PySem.W.Frag} {G : Addr → Prop} {ρ : List Addr} {H : Hp} {t : IT} {a : Addr} {b : Bool} (q : SeqT K G ρ H t a b) : WD K G ρ H ⟨enumD 0 t.ds, t.cells⟩ (if b = true then IteT K a else Ite K a) := by
  cases b with
  | true =>
    refine ⟨fun G1 ρ1 S1 H1 i k r c hi => ?_, fun G1 ρ1 S1 H1 k r c => ?_, fun G1 ρ1 S1 H1 i d x H2 k r c hd y => ?_⟩
    · obtain ⟨vs, h1, h2⟩ := q.st G1 ρ1 S1 H1 k r c
      have hi : i < (enumD 0 t.ds).length := hi
      rw [enumD_len] at hi
      have hv : i < vs.length := by rw [h2.length]; exact hi
      exact ⟨vs, vs[i], h1, List.getElem?_eq_getElem hv⟩
    · obtain ⟨vs, h1, h2⟩ := q.st G1 ρ1 S1 H1 k r c
      exact ⟨vs, h1, by show vs.length ≤ (enumD 0 t.ds).length; rw [enumD_len, h2.length]; exact Nat.le_refl _⟩
    · obtain ⟨vs, h1, h2⟩ := q.st G1 ρ1 S1 H1 k r c
      obtain ⟨d', e1, e2⟩ := enumD_get 0 t.ds i d hd
      obtain ⟨T, y', rfl, hT, rfl, hy⟩ := y
      obtain ⟨v, h3, h4⟩ := h2.get e1
      have : some y' = some v := (hy vs h1).symm.trans h3
      cases this
      have k2 : Keep G1 ρ1 H1 ρ1 (upd H1 T (.tup [.int (i : Nat), y'])) := Keep.new hT r.gt
      refine ⟨?_, k2, r.new hT⟩
      rw [e2]
      exact ⟨T, _, rfl, .of upd_same, .int (i : Nat), [y'], rfl, by rw [Nat.zero_add]; rfl, y', [], rfl, Rep.keep k2 _ _ h4, rfl⟩
  | false =>
    refine ⟨fun G1 ρ1 S1 H1 i k r c hi => ?_, fun G1 ρ1 S1 H1 k r c => ?_, fun G1 ρ1 S1 H1 i d x H2 k r c hd y => ?_⟩
    · obtain ⟨vs, h1, h2⟩ := q.st G1 ρ1 S1 H1 k r c
      have hi : i < (enumD 0 t.ds).length := hi
      rw [enumD_len] at hi
      have hv : i < vs.length := by rw [h2.length]; exact hi
      exact ⟨vs, vs[i], h1, List.getElem?_eq_getElem hv⟩
    · obtain ⟨vs, h1, h2⟩ := q.st G1 ρ1 S1 H1 k r c
      exact ⟨vs, h1, by show vs.length ≤ (enumD 0 t.ds).length; rw [enumD_len, h2.length]; exact Nat.le_refl _⟩
    · obtain ⟨vs, h1, h2⟩ := q.st G1 ρ1 S1 H1 k r c
      obtain ⟨d', e1, e2⟩ := enumD_get 0 t.ds i d hd
      obtain ⟨T, y', rfl, hT, rfl, hy⟩ := y
      obtain ⟨v, h3, h4⟩ := h2.get e1
      have : some y' = some v := (hy vs h1).symm.trans h3
      cases this
      have k2 : Keep G1 ρ1 H1 ρ1 (upd H1 T (.tup [.int (i : Nat), y'])) := Keep.new hT r.gt
      refine ⟨?_, k2, r.new hT⟩
      rw [e2]
      exact ⟨T, _, rfl, .of upd_same, .int (i : Nat), [y'], rfl, by rw [Nat.zero_add]; rfl, y', [], rfl, Rep.keep k2 _ _ h4, rfl⟩
theorem ji_enum {ma : M (List D)} {elts : List Expr} {kk : Nat} {tpos : Pos} (hg : Gl X "enumerate") (hm : X.mg "enumerate" = none) (ha : PA X [e] (tAr X.K cA W ma)) (hs : starEach [e] X.env = [(false, eval e X.env)] := by rfl) : PI X (.Tuple elts kk tpos) (.Call (.Name "enumerate" p) [e] [] pos) (tI X.K cA W (iEnumM ma)) := by
  refine pi_imp (pi_or (pi_enumT hg hm ha hs) (pi_enum hg hm ha hs)) ?_
  rintro σ H R ⟨G, ρ, env, S, hE, hS, h⟩
  unfold iEnumM at h
  cases hm : ma env S with
  | bad => rw [hm] at h; exact h.elim
  | err c S1 =>
    rw [hm] at h
    refine .inl ⟨G, ρ, env, S, hE, hS, ?_⟩
    rw [hm]
    exact h
  | ok ds S1 =>
    rw [hm] at h
    dsimp only [bind_ok] at h
    match ds, hm, h with
    | [d], hm, h =>
      dsimp only at h
      cases ei : fIt S1 d with
      | none => rw [ei] at h; exact h.elim
      | some t =>
        rw [ei] at h
        dsimp only at h
        cases ht : isTup d with
        | true =>
          refine .inl ⟨G, ρ, env, S, hE, hS, ?_⟩
          rw [hm]
          intro vs ρ1 H1 r1 x1 k1
          obtain ⟨v, _, rfl, q1, rfl⟩ := x1
          obtain ⟨a, rfl, q, c⟩ := seq_at r1 q1 ei
          rw [ht] at q
          obtain ⟨vs, q1, q2⟩ := q.st G ρ1 S1 H1 Keep2.refl r1 c
          exact ⟨a, vs, rfl, q1, h _ ρ1 H1 r1 (wd_enum q) k1⟩
        | false =>
          refine .inr ⟨G, ρ, env, S, hE, hS, ?_⟩
          rw [hm]
          intro vs ρ1 H1 r1 x1 k1
          obtain ⟨v, _, rfl, q1, rfl⟩ := x1
          obtain ⟨a, rfl, q, c⟩ := seq_at r1 q1 ei
          rw [ht] at q
          obtain ⟨vs, q1, q2⟩ := q.st G ρ1 S1 H1 Keep2.refl r1 c
          exact ⟨a, vs, rfl, q1, h _ ρ1 H1 r1 (wd_enum q) k1⟩
end
end Rf

namespace Rf
open PySem PySem.Spec PyProof.Rows L2
/-! ### len, isinstance, int, tuple, list -/
def dLen (ds : List D) (S : Store) : Res D := match ds with
  | [d] => (match seqOf S d with
    | some xs => .ok (.int (xs.length : Nat)) S
    | none => .bad)
  | _ => .bad
theorem cd_len {K : PySem.W.Frag} : CallD K (fun xs H Q => ∃ p ys, xs = [.ref p] ∧ (SqL K H p ys ∨ SqT K H p ys) ∧ Q (.int ys.length) H) dLen := by
  intro G ρ H S ds vs E Q r x h
  match ds, h, x with
  | [d], h, x =>
    obtain ⟨v, _, rfl, q1, rfl⟩ := x
    unfold dLen at h
    dsimp only at h
    cases e : seqOf S d with
    | none => rw [e] at h; exact h.elim
    | some xs =>
      rw [e] at h
      obtain ⟨a, ws, rfl, h1, h2⟩ := rep_seq r q1 e
      refine ⟨a, ws, rfl, ?_, h.now r (by rw [h2.length]; rfl)⟩
      by_cases ht : isTup d = true
      · rw [if_pos ht] at h1; exact .inr h1
      · rw [if_neg ht] at h1; exact .inl h1
def tyN : D → Option String
  | .non => some "NoneType"
  | .bl _ => some "bool"
  | .int _ => some "int"
  | .str _ => some "str"
  | .tup _ => some "tuple"
  | .lst _ => some "list"
  | .fz _ => some "list"
  | .cell _ => none
  | .ty _ => none
/-- isinstance, by the model's own table -/
def isiT : String → String → Option Bool
  | "NoneType", "int" => some false | "NoneType", "bool" => some false | "NoneType", "tuple" => some false | "NoneType", "str" => some false
  | "bool", "int" => some true | "bool", "bool" => some true | "bool", "tuple" => some false | "bool", "str" => some false
  | "int", "int" => some true | "int", "bool" => some false | "int", "tuple" => some false | "int", "str" => some false
  | "str", "int" => some false | "str", "bool" => some false | "str", "tuple" => some false | "str", "str" => some true
  | "tuple", "int" => some false | "tuple", "bool" => some false | "tuple", "tuple" => some true | "tuple", "str" => some false
  | "list", "int" => some false | "list", "bool" => some false | "list", "tuple" => some false | "list", "str" => some false
  | _, _ => none
theorem isiT_ok {a b : String} {r : Bool} (h : isiT a b = some r) : kitB a b = some r := by
  unfold isiT at h
  split at h <;> first | (cases h; decide +kernel) | cases h
def dIsi (ds : List D) (S : Store) : Res D := match ds with
  | [d, .ty T] => (match tyN d with
    | some a => (match isiT a T with
      | some b => .ok (.bl b) S
      | none => .bad)
    | none => .bad)
  | _ => .bad
theorem sqT_ty {K : PySem.W.Frag} {H : Hp} {a : Addr} {vs : List V} (h : SqT K H a vs) : TyX K H (.ref a) (.type "tuple") := by
  rcases h with (h | ⟨o, h⟩) | ⟨o, its, n, h1, h2, _⟩
  · exact .base (.tup h)
  · exact .fTuple h
  · exact .kTuple h1 h2
theorem tyN_ok {K : PySem.W.Frag} {G : Addr → Prop} {ρ : List Addr} {H : Hp} {d : D} {v : V} {a : String} (x : Rep K G ρ H d v) (e : tyN d = some a) : TyX K H v (.type a) := by
  cases d with
  | non => cases e; cases (show v = .non from x); exact .base .non
  | bl b => cases e; cases (show v = .bl b from x); exact .base (.bl b)
  | int b => cases e; cases (show v = .int b from x); exact .base (.int b)
  | str b => cases e; cases (show v = .str b from x); exact .base (.str b)
  | tup ds => cases e; obtain ⟨a, vs, rfl, h1, _⟩ := x; exact sqT_ty h1
  | lst ds => cases e; obtain ⟨a, vs, rfl, h1, _⟩ := x; exact .base (.lst h1.2.2)
  | fz ds =>
    cases e
    obtain ⟨a, vs, rfl, h1, _⟩ := x
    rcases h1 with ⟨o, h⟩ | ⟨o, its, n, h1, h2, _⟩
    · exact .base (.frz h)
    · exact .kList h1 h2
  | cell n => cases e
  | ty n => cases e
theorem cd_isi {K : PySem.W.Frag} : CallD K (rIsi K) dIsi := by
  intro G ρ H S ds vs E Q r x h
  unfold dIsi at h
  split at h
  · rename_i d T
    obtain ⟨v, _, rfl, q1, w, _, rfl, q2, rfl⟩ := x
    cases (show w = .ty T from q2)
    split at h
    · rename_i a ea
      split at h
      · rename_i b eb
        exact ⟨v, .ty T, .type a, .type T, b, rfl, .ty T, tyN_ok q1 ea, kit_ty (isiT_ok eb), h.now r rfl⟩
      · exact h.elim
    · exact h.elim
  · exact h.elim
def dInt (ds : List D) (S : Store) : Res D := match ds with
  | [.int i] => .ok (.int i) S
  | [.bl b] => .ok (.int (if b then 1 else 0)) S
  | _ => .bad
theorem cd_int {K : PySem.W.Frag} : CallD K (fun xs H Q => (∃ i, xs = [.int i] ∧ Q (.int i) H) ∨ ∃ k, xs = [.bl k] ∧ Q (.int (if k then 1 else 0)) H) dInt := by
  intro G ρ H S ds vs E Q r x h
  unfold dInt at h
  split at h
  · rename_i i
    obtain ⟨v, _, rfl, q1, rfl⟩ := x
    cases (show v = .int i from q1)
    exact .inl ⟨i, rfl, h.now r rfl⟩
  · rename_i b
    obtain ⟨v, _, rfl, q1, rfl⟩ := x
    cases (show v = .bl b from q1)
    exact .inr ⟨b, rfl, h.now r rfl⟩
  · exact h.elim
def dTuple (ds : List D) (S : Store) : Res D := match ds with
  | [d] => (match seqOf S d with
    | some xs => .ok (.tup xs) S
    | none => .bad)
  | _ => .bad
theorem cd_tuple {K : PySem.W.Frag} : CallD K (fun xs H Q => ∃ p ys, xs = [.ref p] ∧ ((SqL K H p ys ∧ ∀ l, H l = none → Q (.ref l) (upd H l (.tup ys))) ∨ (SqT K H p ys ∧ Q (.ref p) H))) dTuple := by
  intro G ρ H S ds vs E Q r x h
  match ds, h, x with
  | [d], h, x =>
    obtain ⟨v, _, rfl, q1, rfl⟩ := x
    unfold dTuple at h
    dsimp only at h
    cases e : seqOf S d with
    | none => rw [e] at h; exact h.elim
    | some xs =>
      rw [e] at h
      obtain ⟨a, ws, rfl, h1, h2⟩ := rep_seq r q1 e
      refine ⟨a, ws, rfl, ?_⟩
      by_cases ht : isTup d = true
      · rw [if_pos ht] at h1
        exact .inr ⟨h1, h.now r ⟨a, ws, rfl, h1, h2⟩⟩
      · rw [if_neg ht] at h1
        refine .inl ⟨h1, fun p hp => ?_⟩
        have k2 : Keep G ρ H ρ (upd H p (.tup ws)) := Keep.new hp r.gt
        exact h _ ρ _ (r.new hp) ⟨p, ws, rfl, .of upd_same, RepL.keep k2 _ _ h2⟩ k2
def fList (ds : List D) (S : Store) : Res (List D) := match ds with
  | [d] => (match seqOf S d with
    | some xs => .ok xs S
    | none => .bad)
  | _ => .bad
theorem cf_list {K : PySem.W.Frag} : CallF K (fun xs H Q => ∃ p ys, xs = [.ref p] ∧ (SqL K H p ys ∨ SqT K H p ys) ∧ ∀ l, H l = none → Q (.ref l) (upd H l (.lst ys))) fList := by
  intro G ρ H S ds vs E Q r x h
  match ds, h, x with
  | [d], h, x =>
    obtain ⟨v, _, rfl, q1, rfl⟩ := x
    unfold fList at h
    dsimp only at h
    cases e : seqOf S d with
    | none => rw [e] at h; exact h.elim
    | some xs =>
      rw [e] at h
      obtain ⟨a, ws, rfl, h1, h2⟩ := rep_seq r q1 e
      refine ⟨a, ws, rfl, ?_, fun p hp => h p ws ρ H r h2 Keep.refl hp⟩
      by_cases ht : isTup d = true
      · rw [if_pos ht] at h1; exact .inr h1
      · rw [if_neg ht] at h1; exact .inl h1
/-! ### < of nums and of tuples of nums -/
def nums : List D → Option (List Int)
  | [] => some []
  | .int i :: r => (nums r).map (i :: ·)
  | _ :: _ => none
theorem ints_map : ∀ {ds : List D} {ns : List Int}, nums ds = some ns → ds = ns.map .int
  | [], ns, h => by cases h; rfl
  | .int i :: r, ns, h => by
    unfold nums at h
    cases e : nums r with
    | none => rw [e] at h; cases h
    | some ms =>
      rw [e] at h
      have h : some (i :: ms) = some ns := h
      cases h
      rw [ints_map e]; rfl
  | .non :: _, _, h => by cases h
  | .bl _ :: _, _, h => by cases h
  | .str _ :: _, _, h => by cases h
  | .ty _ :: _, _, h => by cases h
  | .tup _ :: _, _, h => by cases h
  | .lst _ :: _, _, h => by cases h
  | .fz _ :: _, _, h => by cases h
  | .cell _ :: _, _, h => by cases h
@[simp] theorem ints_of : ∀ ns : List Int, nums (ns.map .int) = some ns
  | [] => rfl
  | n :: ns => by show (nums (ns.map .int)).map (n :: ·) = _; rw [ints_of]; rfl
theorem rep_ints {K : PySem.W.Frag} {G : Addr → Prop} {ρ : List Addr} {H : Hp} : ∀ {ns : List Int} {vs : List V}, RepL K G ρ H (ns.map .int) vs → vs = ns.map V.int
  | [], vs, h => h
  | n :: ns, vs, h => by
    obtain ⟨v, vs', rfl, h1, h2⟩ := h
    cases (show v = .int n from h1)
    rw [rep_ints h2]; rfl
def dLt (d e : D) (S : Store) : Res D := match d, e with
  | .int i, .int j => .ok (.bl (decide (i < j))) S
  | .tup xs, .tup ys => (match nums xs, nums ys with
    | some ns, some ms => .ok (.bl (HT.lexLt ns ms)) S
    | _, _ => .bad)
  | _, _ => .bad
theorem od_lt {K : PySem.W.Frag} : OpD K (fun x y H Q => (rI0 fun i j => .bl (decide (i < j))) x y H Q ∨ rLtT K x y H Q) dLt := by
  intro G ρ H S d1 d2 v1 v2 E Q r x1 x2 h
  unfold dLt at h
  split at h
  · rename_i i j
    exact .inl ⟨i, j, x1, x2, h.now r rfl⟩
  · rename_i xs ys
    split at h
    · rename_i ns ms e1 e2
      obtain ⟨a, vs, rfl, h1, h2⟩ := x1
      obtain ⟨b, ws, rfl, h3, h4⟩ := x2
      rw [ints_map e1] at h2
      rw [ints_map e2] at h4
      rw [rep_ints h2] at h1
      rw [rep_ints h4] at h3
      exact .inr ⟨a, b, ns, ms, rfl, rfl, h1, h3, h.now r rfl⟩
    · exact h.elim
  · exact h.elim
theorem op_lt2 {X : Cx} (hu : X.A.units < cLine) : OpR X (compareOp .Lt) (fun x y H Q => (rI0 fun i j => .bl (decide (i < j))) x y H Q ∨ rLtT X.K x y H Q) := op_lt.or (op_ltT hu)
/-! ### min, max -/
def dMin2 (mx : Bool) (ds : List D) (S : Store) : Res D := match ds with
  | [.int i, .int j] => .ok (.int (if mx = true then (if j > i then j else i) else (if j < i then j else i))) S
  | [d] => (match seqOf S d with
    | some (.int x :: xs) => (match nums xs with
      | some ns => .ok (.int (if mx = true then ns.foldl max x else ns.foldl min x)) S
      | none => .bad)
    | _ => .bad)
  | _ => .bad
def rMm (K : PySem.W.Frag) (mx : Bool) : List V → Hp → VK → Prop := fun xs H Q => (∃ i j, xs = [.int i, .int j] ∧ Q (.int (if mx = true then (if j > i then j else i) else (if j < i then j else i))) H) ∨
  ∃ (a : Addr) (x : Int) (ns : List Int), xs = [.ref a] ∧ (SqL K H a ((x :: ns).map V.int) ∨ SqT K H a ((x :: ns).map V.int)) ∧ Q (.int (if mx = true then ns.foldl max x else ns.foldl min x)) H
theorem cd_mm {K : PySem.W.Frag} {mx : Bool} : CallD K (rMm K mx) (dMin2 mx) := by
  intro G ρ H S ds vs E Q r x h
  unfold dMin2 at h
  split at h
  · rename_i i j
    obtain ⟨v, _, rfl, q1, w, _, rfl, q2, rfl⟩ := x
    cases (show v = .int i from q1)
    cases (show w = .int j from q2)
    exact .inl ⟨i, j, rfl, h.now r rfl⟩
  · rename_i d
    obtain ⟨v, _, rfl, q1, rfl⟩ := x
    split at h
    · rename_i y ys es
      split at h
      · rename_i ns en
        obtain ⟨a, ws, rfl, h1, h2⟩ := rep_seq r q1 es
        have e0 : D.int y :: ys = (y :: ns).map .int := by rw [ints_map en]; rfl
        rw [e0] at h2
        rw [rep_ints h2] at h1
        refine .inr ⟨a, y, ns, rfl, ?_, h.now r rfl⟩
        by_cases ht : isTup d = true
        · rw [if_pos ht] at h1; exact .inr h1
        · rw [if_neg ht] at h1; exact .inl h1
      · exact h.elim
    · exact h.elim
  · exact h.elim
theorem reads_ints {h : Heap} : ∀ {us : List Value} {ns : List Int}, IntsAre us ns → ∃ as, ReadsAll h us (ns.map .int) as
  | us, ns, hi => by
    induction ns generalizing us with
    | nil =>
      have := hi.length
      have e : us = [] := List.eq_nil_of_length_eq_zero this
      subst e
      exact ⟨_, .nil⟩
    | cons n ns ih =>
      match us, hi with
      | u :: us, hi =>
        obtain ⟨⟨t, e⟩, hr⟩ : (∃ t, u = Value.int n t) ∧ IntsAre us ns := by
          cases hi with
          | cons h1 h2 => exact ⟨⟨_, rfl⟩, by assumption⟩
        subst e
        obtain ⟨as, q⟩ := ih us hr
        exact ⟨_, .cons (Reads.int n t) q⟩
end Rf

namespace PyProof.Rows
open PySem PySem.Calls
section
variable {prog : Program} {w : World} {A : Around} {E : Value → Shared → Prop} {s : Shared}
theorem collect_tup' {l : Addr} {vs : List Value} {Q : List Value → Shared → Prop} (hl : s.heap.IsTuple l vs.toArray)
    (h : Q vs { s with heap := (s.heap.push (seqObj "list" #[] 0)).update s.heap.objs.size (Obj.mapSeq (· ++ vs.toArray)) }) (hsz : vs.length ≤ sizeLine) :
    wpAny (model prog w) A (collect (.ref l)) Q E s := by
  obtain ⟨o, ho, hc, n, hd⟩ := id hl
  unfold collect
  refine wpAny_bind (wpAny_runValue (codeAny_builtin entry_proto_collect' ?_))
  show wpAny _ _ (do again (.builtin "list.__iadd__" ⟨[← newList [], .ref l], []⟩)) _ _ s
  refine wpAny_bind (wpAny_newList (wpAny_pure ⟨Code.quiet_builtin _ (by decide +kernel), codeAny_builtin entry_list_iadd' ?_⟩))
  show wpAny _ _ (Builtin.List.listExtendWith (.ref s.heap.objs.size) (.ref l) (.ref s.heap.objs.size)) _ _ { s with heap := s.heap.push (seqObj "list" #[] 0) }
  unfold Builtin.List.listExtendWith
  have ho' : (s.heap.push (seqObj "list" #[] 0)).get? l = some o := Heap.get?_push_of_some _ ho
  refine wpAny_bind (wpAny_typeOf (T := "tuple") ⟨o, ho', hc⟩ ?_)
  have ht : (Value.type "tuple" == Value.type "tuple") = true := by rfl
  rw [if_pos (by rw [ht]; simp)]
  refine wpAny_bind (listItems_at ho' hd ?_)
  refine wpAny_bind (listItems_at (xs := #[]) (n := 0) (Heap.get?_push_size _ rfl) rfl ?_)
  rw [if_neg (by simp)]
  refine wpAny_bind (listUpdate_at (xs := #[]) (n := 0) (Heap.get?_push_size _ rfl) rfl ?_ (Nat.zero_le _) (by show (#[] ++ vs.toArray).size ≤ sizeLine + 1; simp only [Array.size_append, List.size_toArray, List.length_nil]; omega))
  refine wpAny_pure ?_
  show wpAny (model prog w) A (do
      let o ← load s.heap.objs.size
      match o.data with
      | .seq xs _ => pure xs.toList
      | _ => unsupported "internal:collect") Q E { s with heap := (s.heap.push (seqObj "list" #[] 0)).update s.heap.objs.size (Obj.mapSeq (· ++ vs.toArray)) }
  refine wpAny_bind (wpAny_load (get?_update_seq (Heap.get?_push_size _ rfl) _) ?_)
  show wpAny _ _ (pure ((#[] : Array Value) ++ vs.toArray).toList) Q E _
  rw [show ((#[] : Array Value) ++ vs.toArray).toList = vs by simp]
  exact wpAny_pure h
end
end PyProof.Rows
namespace PySem.W
open PySem PySem.Calls PyProof.Rows
section
variable {prog : Program} {w : World} {A : Around} {E : Value → Shared → Prop} {s : Shared}
theorem sorted_of_sortT' {l : Addr} {vs : List Value} {kw : List (Str × Value)} {Q : Value → Shared → Prop} (hl : s.heap.IsTuple l vs.toArray) (hL : vs.length ≤ sizeLine) (ha1 : argsOk "sorted" ⟨[.ref l], kw⟩) (ha2 : ∀ x, argsOk "list.sort" ⟨[.ref x], kw⟩)
    (body : ∀ E' : Value → Shared → Prop, wpAny (model prog w) A.in1.in1 (Builtin.«list.sort» ⟨[.ref (s.heap.objs.size + 1)], kw⟩) (fun f s' => f = .done (.ret .none) ∧ Q (.ref (s.heap.objs.size + 1)) s') E' { s with heap := copyHeap s.heap vs }) :
    wpAny (model prog w) A (call (.builtin "sorted") [.ref l] kw) Q E s := by
  refine call_function_entry_kw kind_sorted plain_sorted entry_sorted ha1 ?_
  unfold Builtin.«sorted»
  refine wpAny_bind (m := checkCount "sorted" 1 1 _) (wpAny_pure ?_)
  refine wpAny_bind (collect_tup' hl ?_ hL)
  refine wpAny_bind (wpAny_newList ?_ hL)
  have hsz : ((s.heap.push (seqObj "list" #[] 0)).update s.heap.objs.size (Obj.mapSeq (· ++ vs.toArray))).objs.size = s.heap.objs.size + 1 := by
    rw [Heap.size_update, size_push']
  show wpAny _ _ _ _ _ { s with heap := copyHeap s.heap vs }
  rw [hsz]
  refine wpAny_bind (wpAny_holding (wpAny_call_entry_kw slot_list_sort ⟨_, copyHeap_at s.heap vs, rfl⟩ entry_list_sort ?body (ha2 _)))
  case body =>
    show wpAny (model prog w) A.in1.in1 (Builtin.«list.sort» ⟨[.ref (s.heap.objs.size + 1)], kw⟩) _ _ _
    refine wpAny_mono (body _) (fun f s' hf => ?_) fun _ _ e => e
    obtain ⟨rfl, hq⟩ := hf
    exact ⟨_, rfl, wpAny_pure ⟨_, rfl, hq⟩⟩
variable {β : Type} {R : Value → β → Prop} {enc : β → PyData} {vs : List Value} {bs : List β}
theorem sorted_dataT' {l : Addr} {Q : Value → Shared → Prop} (hl : s.heap.IsTuple l vs.toArray) (e : EachIs R vs bs) (er : EachIs (fun v b => ∃ as, Reads s.heap v (enc b) as) vs bs) (hal : AllAlike (bs.map enc)) (hk : Sortable (bs.map enc)) (hL : bs.length ≤ sizeLine)
    (hu : ∀ b, b ∈ bs → A.units + 2 + (enc b).depth < cLine) (h : ∀ out, out.length = bs.length → EachIs R out (bs.mergeSort (dataLe false enc)) → Q (.ref (s.heap.objs.size + 1)) { s with heap := sortedAll s.heap vs (List.toArray out) }) :
    wpAny (model prog w) A (call (.builtin "sorted") [.ref l]) Q E s := by
  have er' : EachIs (fun v b => ∃ as, Reads (sortingHeap (copyHeap s.heap vs) (s.heap.objs.size + 1) vs) v (enc b) as) vs bs := er.mono fun _ _ ⟨as, r⟩ => ⟨as, PyProof.Rows.Reads.keeps (fun _ _ => sorting_copy_old) r⟩
  exact sorted_of_sortT' hl (by rw [e.length]; exact hL) (args_sorted1 _) (fun _ => args_list_sort _) fun _ => list_sort_vals (s := { s with heap := copyHeap s.heap vs }) (copyHeap_at s.heap vs) (SortsAt.data (s := { s with heap := sortingHeap (copyHeap s.heap vs) (s.heap.objs.size + 1) vs }) (each_map (R := fun v d => ∃ as, Reads (sortingHeap (copyHeap s.heap vs) (s.heap.objs.size + 1) vs) v d as) enc er') hal hk (bound_map hu)) (by rw [e.length]; exact hL)
    ⟨rfl, h _ (by rw [sortVals_length false rfl]; exact e.length) (sortVals_data false e er' hal)⟩
end
end PySem.W
namespace Rf
open PySem PySem.Spec PyProof.Rows L2
open PySem.W (EachIs AllAlike alike dataLe)
section
variable {X : Cx}
/-! ### min, max: the rule -/
theorem cr_mm {mx : Bool} (hc : X.calm = true) (hu : X.A.units + 64 < cLine) : CallR X (.builtin (if mx = true then "max" else "min")) (rMm X.K mx) := by
  intro pins s σ H xs us Q I r h
  rcases h with ⟨i, j, rfl, q⟩ | ⟨a, x, ns, rfl, hq, q⟩
  · cases mx with
    | true => exact call_max2 hc pins s σ H _ us Q I r ⟨i, j, rfl, q⟩
    | false => exact call_min2 hc pins s σ H _ us Q I r ⟨i, j, rfl, q⟩
  · have dep : PyData.depthAll ((x :: ns).map PyData.int) = 0 := PySem.W.depth_ints _
    have alk : PySem.W.AlikeAll ((x :: ns).map PyData.int) := by
      refine ⟨fun d hd d' hd' => ?_, fun d hd => ?_⟩
      · obtain ⟨i, _, rfl⟩ := List.mem_map.mp hd
        obtain ⟨j, _, rfl⟩ := List.mem_map.mp hd'
        rfl
      · obtain ⟨i, _, rfl⟩ := List.mem_map.mp hd
        exact fun z => nomatch z
    have hu' : X.A.units + 1 + PyData.depthAll ((x :: ns).map PyData.int) < cLine := by rw [dep]; omega
    have fin : ∀ (its : List Value), Vals ((x :: ns).map V.int) its → ∀ (i : Nat) v h' tk bs (m : Int), its.toArray[i]? = some v → Reads h' v (.int m) bs → (∀ b o, s.heap.get? b = some o → h'.get? b = some o) → m = (if mx = true then ns.foldl max x else ns.foldl min x) → EP X pins σ Q v { s with heap := h', toks := tk } := fun its rv i v h' tk bs m hv rd hk em => by
      have hi : IntsAre its (x :: ns) := rv.ints
      have hv' : its[i]? = some v := by simpa using hv
      have : ∃ j t, v = Value.int j t := by
        obtain ⟨hlt, ev⟩ := List.getElem?_eq_some_iff.mp hv'
        have hlt2 : i < (x :: ns).length := by rw [← hi.length]; exact hlt
        obtain ⟨u, e1, e2⟩ := rv.get (i := i) (x := V.int (x :: ns)[i]) (by rw [List.getElem?_map, List.getElem?_eq_getElem hlt2]; rfl)
        rw [hv'] at e1
        cases e1
        obtain ⟨t, e⟩ := e2
        exact ⟨_, t, e⟩
      obtain ⟨j, t, rfl⟩ := this
      have ej : j = m := by cases rd; rfl
      subst ej
      exact ⟨.int j, H, I.kept (t' := tk) hk, ⟨t, rfl⟩, by rw [em]; exact q⟩
    rw [Vals.ref1 r]
    rcases hq with hq | hq
    · obtain ⟨its, rv, pl, hz⟩ := I.list hq
      obtain ⟨as, ra⟩ := reads_ints (h := s.heap) rv.ints
      cases mx with
      | true => exact PySem.W.max_list_data (I.ok.hd hc) pl.isList (by simpa using ra) alk hu' fun i v h' tk bs hv rd hk => fin its rv i v h' tk bs (ns.foldl max x) hv (by rw [← PySem.W.maxD_ints]; exact rd) hk rfl
      | false => exact PySem.W.min_list_data (I.ok.hd hc) pl.isList (by simpa using ra) alk hu' fun i v h' tk bs hv rd hk => fin its rv i v h' tk bs (ns.foldl min x) hv (by rw [← PySem.W.minD_ints]; exact rd) hk rfl
    · obtain ⟨its, rv, pl, hz⟩ := I.tuple hq
      obtain ⟨as, ra⟩ := reads_ints (h := s.heap) rv.ints
      cases mx with
      | true => exact PySem.W.max_tuple_data (I.ok.hd hc) pl (by simpa using ra) alk hu' fun i v h' tk bs hv rd hk => fin its rv i v h' tk bs (ns.foldl max x) hv (by rw [← PySem.W.maxD_ints]; exact rd) hk rfl
      | false => exact PySem.W.min_tuple_data (I.ok.hd hc) pl (by simpa using ra) alk hu' fun i v h' tk bs hv rd hk => fin its rv i v h' tk bs (ns.foldl min x) hv (by rw [← PySem.W.minD_ints]; exact rd) hk rfl
/-! ### sorted of data -/
def rSortD (K : PySem.W.Frag) : List V → Hp → VK → Prop := fun xs H Q => ∃ (a : Addr) (bs : List (PyData × V)), xs = [.ref a] ∧ (SqL K H a (bs.map (·.2)) ∨ SqT K H a (bs.map (·.2))) ∧ (∀ b ∈ bs, Dp K H b.2 b.1) ∧ AllAlike (bs.map (·.1)) ∧ PySem.W.Sortable (bs.map (·.1)) ∧ (∀ b ∈ bs, b.1.depth ≤ 12) ∧ bs.length ≤ sizeLine ∧
  ∀ p, H p = none → Q (.ref p) (upd H p (.lst ((bs.mergeSort (dataLe false (·.1))).map (·.2))))
theorem each_zip {P : PyData × V → Prop} : ∀ {bs : List (PyData × V)} {us : List Value}, Vals (bs.map (·.2)) us → EachIs (fun u b => RelV b.2 u) us bs
  | [], _, .nil => .nil
  | b :: bs, _, .cons r t => .cons r (each_zip (P := P) t)
theorem each_reads {pins : List (Addr × Obj)} {σ : L2.St} {H : Hp} {s : Shared} (I : L2.Inv X pins σ H s) : ∀ {bs : List (PyData × V)} {us : List Value}, (∀ b ∈ bs, Dp X.K H b.2 b.1) → Vals (bs.map (·.2)) us → EachIs (fun u b => ∃ as, Reads s.heap u b.1 as) us bs
  | [], _, _, .nil => .nil
  | b :: bs, _, h, .cons r t => .cons (Dp.reads I b.1 b.2 _ (h b List.mem_cons_self) r) (each_reads I (fun c hc => h c (List.mem_cons_of_mem _ hc)) t)
theorem vals_each : ∀ {bs : List (PyData × V)} {us : List Value}, EachIs (fun u (b : PyData × V) => RelV b.2 u) us bs → Vals (bs.map (·.2)) us
  | [], _, .nil => .nil
  | b :: bs, _, .cons r t => .cons r (vals_each t)
theorem cr_sortD (hu : X.A.units + 64 < cLine) : CallR X (.builtin "sorted") (rSortD X.K) := by
  intro pins s σ H xs us Q I r h
  obtain ⟨a, bs, rfl, hq, hd, hal, hk, hdep, hL, q⟩ := h
  have key : ∀ (its : List Value) (out : List Value), out.length = bs.length → EachIs (fun u (b : PyData × V) => RelV b.2 u) out (bs.mergeSort (dataLe false (·.1))) → EP X pins σ Q (.ref (s.heap.objs.size + 1)) { s with heap := sortedAll s.heap its (List.toArray out) } := fun its out ho he => by
    obtain ⟨ep, he'⟩ := PyProof.Rows.sortedAll_at s.heap its (List.toArray out)
    have hv := vals_each he
    have hlen : ((bs.mergeSort (dataLe false (·.1))).map (·.2)).length ≤ sizeLine := by rw [List.length_map, List.length_mergeSort]; exact hL
    exact ⟨.ref _, upd H (s.heap.objs.size + 1) (.lst ((bs.mergeSort (dataLe false (·.1))).map (·.2))), I.laid (t' := s.toks) (fun _ _ => PyProof.Rows.sortedAll_old) (Nat.le_succ _) ⟨hlen, out, ep, hv, by simpa using he'⟩, rfl, q _ (I.hok.fresh (Nat.le_succ _))⟩
  have hu2 : ∀ b, b ∈ bs → X.A.units + 2 + b.1.depth < cLine := fun b hb => by have := hdep b hb; omega
  rw [Vals.ref1 r]
  rcases hq with hq | hq
  · obtain ⟨its, rv, pl, hz⟩ := I.list hq
    exact PySem.W.sorted_data (R := fun u (b : PyData × V) => RelV b.2 u) (enc := (·.1)) pl.isList (each_zip (P := fun _ => True) rv) (each_reads I hd rv) hal hk hL hu2 (key its)
  · obtain ⟨its, rv, pl, hz⟩ := I.tuple hq
    exact PySem.W.sorted_dataT' (R := fun u (b : PyData × V) => RelV b.2 u) (enc := (·.1)) pl (each_zip (P := fun _ => True) rv) (each_reads I hd rv) hal hk hL hu2 (key its)
end
open Classical in
/-- sorted(xs): data that can be compared -/
noncomputable def fSorted (ds : List D) (S : Store) : Res (List D) := match ds with
  | [d] => (match seqOf S d with
    | some xs => if xs.length ≤ big ∧ xs.all (shD 11) = true ∧ AllAlike (xs.map py) ∧ PySem.W.Sortable (xs.map py) then .ok (xs.mergeSort (dataLe false py)) S else .bad
    | none => .bad)
  | _ => .bad
theorem rep_dpl {K : PySem.W.Frag} {G : Addr → Prop} {ρ : List Addr} {H : Hp} : ∀ {xs : List D} {vs : List V}, RepL K G ρ H xs vs → xs.all (shD 11) = true → ∃ bs : List (D × V), bs.map (·.1) = xs ∧ bs.map (·.2) = vs ∧ ∀ b ∈ bs, Rep K G ρ H b.1 b.2 ∧ Dp K H b.2 (py b.1) ∧ (py b.1).depth ≤ 12
  | [], vs, h, _ => ⟨[], rfl, by rw [show vs = [] from h]; rfl, fun b hb => nomatch hb⟩
  | d :: xs, vs, h, hs => by
    obtain ⟨v, vs', rfl, h1, h2⟩ := h
    rw [List.all_cons, Bool.and_eq_true] at hs
    obtain ⟨bs, e1, e2, hb⟩ := rep_dpl h2 hs.2
    refine ⟨(d, v) :: bs, by rw [List.map_cons, e1], by rw [List.map_cons, e2], fun b hb' => ?_⟩
    rcases List.mem_cons.mp hb' with rfl | hb'
    · exact ⟨h1, rep_dp 11 d v hs.1 h1, Nat.le_succ_of_le (shD_ok 11 d hs.1).2⟩
    · exact hb b hb'
theorem repl_of {K : PySem.W.Frag} {G : Addr → Prop} {ρ : List Addr} {H : Hp} : ∀ (bs : List (D × V)), (∀ b ∈ bs, Rep K G ρ H b.1 b.2) → RepL K G ρ H (bs.map (·.1)) (bs.map (·.2))
  | [], _ => rfl
  | b :: bs, h => ⟨b.2, bs.map (·.2), rfl, h b List.mem_cons_self, repl_of bs fun c hc => h c (List.mem_cons_of_mem _ hc)⟩
theorem cf_sorted {K : PySem.W.Frag} : CallF K (rSortD K) fSorted := by
  intro G ρ H S ds vs E Q r x h
  match ds, h, x with
  | [d], h, x =>
    obtain ⟨v, _, rfl, q1, rfl⟩ := x
    unfold fSorted at h
    dsimp only at h
    cases e : seqOf S d with
    | none => rw [e] at h; exact h.elim
    | some xs =>
      rw [e] at h
      dsimp only at h
      by_cases hc : xs.length ≤ big ∧ xs.all (shD 11) = true ∧ AllAlike (xs.map py) ∧ PySem.W.Sortable (xs.map py)
      · rw [if_pos hc] at h
        obtain ⟨c1, c2, c3, c4⟩ := hc
        obtain ⟨a, ws, rfl, h1, h2⟩ := rep_seq r q1 e
        obtain ⟨bs, e1, e2, hb⟩ := rep_dpl h2 c2
        have em : (bs.map fun b => (py b.1, b.2)).map (·.1) = xs.map py := by rw [List.map_map, ← e1, List.map_map]; rfl
        have em2 : (bs.map fun b => (py b.1, b.2)).map (·.2) = ws := by rw [List.map_map, ← e2]; rfl
        have es : (bs.mergeSort fun p q => dataLe false py p.1 q.1).map (fun b => (py b.1, b.2)) = (bs.map fun b => (py b.1, b.2)).mergeSort (dataLe false (·.1)) := PySem.W.sort_maps (fun b : D × V => (py b.1, b.2)) fun _ _ _ _ => rfl
        have es1 : (bs.mergeSort fun p q => dataLe false py p.1 q.1).map (·.1) = xs.mergeSort (dataLe false py) := by rw [PySem.W.sort_maps (s := dataLe false py) (fun b : D × V => b.1) fun _ _ _ _ => rfl, e1]
        refine ⟨a, bs.map fun b => (py b.1, b.2), rfl, ?_, fun b hb' => ?_, by rw [em]; exact c3, by rw [em]; exact c4, fun b hb' => ?_, ?_, fun p hp => ?_⟩
        · rw [em2]
          by_cases ht : isTup d = true
          · rw [if_pos ht] at h1; exact .inr h1
          · rw [if_neg ht] at h1; exact .inl h1
        · obtain ⟨c, hc, rfl⟩ := List.mem_map.mp hb'
          exact (hb c hc).2.1
        · obtain ⟨c, hc, rfl⟩ := List.mem_map.mp hb'
          exact (hb c hc).2.2
        · rw [List.length_map, ← List.length_map (f := (·.1)), e1]; exact big_line c1
        · have em3 : ((bs.map fun b => (py b.1, b.2)).mergeSort (dataLe false (·.1))).map (·.2) = (bs.mergeSort fun p q => dataLe false py p.1 q.1).map (·.2) := by rw [← es, List.map_map]; rfl
          rw [em3]
          refine h p _ ρ H r ?_ Keep.refl hp
          rw [← es1]
          exact repl_of _ fun b hb' => (hb b ((List.mergeSort_perm _ _).mem_iff.mp hb')).1
      · rw [if_neg hc] at h; exact h.elim
end Rf

namespace Rf
open PySem PySem.Spec PyProof.Rows L2
/-! ### how many unlike ints -/
def ded : List Int → List Int
  | [] => []
  | x :: r => if x ∈ r then ded r else x :: ded r
theorem mem_ded {y : Int} : ∀ {l : List Int}, y ∈ ded l ↔ y ∈ l
  | [] => Iff.rfl
  | x :: r => by
    unfold ded
    by_cases h : x ∈ r
    · rw [if_pos h, mem_ded (l := r), List.mem_cons]
      exact ⟨.inr, fun q => q.elim (fun e => e ▸ h) id⟩
    · rw [if_neg h, List.mem_cons, List.mem_cons, mem_ded (l := r)]
theorem ded_nodup : ∀ l : List Int, (ded l).Nodup
  | [] => List.nodup_nil
  | x :: r => by
    unfold ded
    by_cases h : x ∈ r
    · rw [if_pos h]; exact ded_nodup r
    · rw [if_neg h]; exact List.nodup_cons.mpr ⟨fun q => h (mem_ded.mp q), ded_nodup r⟩
theorem len_le_of_sub : ∀ {l m : List Int}, l.Nodup → (∀ x ∈ l, x ∈ m) → l.length ≤ m.length
  | [], _, _, _ => Nat.zero_le _
  | x :: l, m, hn, hs => by
    obtain ⟨h1, h2⟩ := List.nodup_cons.mp hn
    have hx := hs x List.mem_cons_self
    have := len_le_of_sub (l := l) (m := m.erase x) h2 fun y hy => by
      have hne : y ≠ x := fun e => h1 (e ▸ hy)
      exact (List.mem_erase_of_ne hne).mpr (hs y (List.mem_cons_of_mem _ hy))
    rw [List.length_erase_of_mem hx] at this
    have hp : 0 < m.length := List.length_pos_of_mem hx
    show l.length + 1 ≤ m.length
    omega
theorem len_eq_of_same {l m : List Int} (h1 : l.Nodup) (h2 : m.Nodup) (h : ∀ x, x ∈ l ↔ x ∈ m) : l.length = m.length :=
  Nat.le_antisymm (len_le_of_sub h1 fun x hx => (h x).mp hx) (len_le_of_sub h2 fun x hx => (h x).mpr hx)
theorem fold_dedup : ∀ (l acc : List Int), acc.Nodup → (l.foldl step_dedup acc).Nodup ∧ ∀ x, x ∈ l.foldl step_dedup acc ↔ x ∈ acc ∨ x ∈ l
  | [], acc, h => ⟨h, fun x => by simp⟩
  | y :: l, acc, h => by
    have hstep : (step_dedup acc y).Nodup ∧ ∀ x, x ∈ step_dedup acc y ↔ x ∈ acc ∨ x = y := by
      unfold step_dedup
      by_cases hy : acc.any (· == y) = true
      · rw [if_pos hy]
        refine ⟨h, fun x => ⟨.inl, fun q => q.elim id fun e => ?_⟩⟩
        subst e
        obtain ⟨z, hz, ez⟩ := List.any_eq_true.mp hy
        rw [← eq_of_beq ez]; exact hz
      · rw [if_neg hy]
        refine ⟨?_, fun x => by simp⟩
        rw [List.nodup_append]
        refine ⟨h, by simp, fun a ha b hb => ?_⟩
        rintro rfl
        simp at hb
        exact hy (List.any_eq_true.mpr ⟨a, ha, by rw [hb]; simp⟩)
    obtain ⟨q1, q2⟩ := fold_dedup l (step_dedup acc y) hstep.1
    refine ⟨q1, fun x => ?_⟩
    rw [List.foldl_cons, q2 x, hstep.2 x, List.mem_cons]
    exact ⟨fun z => z.elim (fun z => z.elim .inl fun e => .inr (.inl e)) fun z => .inr (.inr z), fun z => z.elim (fun z => .inl (.inl z)) fun z => z.elim (fun e => .inl (.inr e)) .inr⟩
theorem getD_range (ns : List Int) : (List.range ns.length).map (fun i => ns.getD i 0) = ns := by
  apply List.ext_getElem?
  intro i
  rw [List.getElem?_map]
  by_cases hi : i < ns.length
  · rw [List.getElem?_range hi]
    simp [hi]
  · rw [List.getElem?_eq_none (by simpa using hi), List.getElem?_eq_none (by omega)]
    rfl
theorem firstMet_len (ns : List Int) : (firstMet (fun i => ns.getD i 0) ns.length).length = (ded ns).length := by
  unfold firstMet
  rw [getD_range]
  obtain ⟨h1, h2⟩ := fold_dedup ns [] List.nodup_nil
  exact len_eq_of_same h1 (ded_nodup ns) fun x => by rw [h2 x, mem_ded]; simp
def dLenSet (d : D) (S : Store) : Res D := match seqOf S d with
  | some xs => (match nums xs with
    | some ns => if ns.length < 1000 then .ok (.int ((ded ns).length : Nat)) S else .bad
    | none => .bad)
  | none => .bad
section
variable {X : Cx} {a : Expr} {p p2 q pos : Pos} {cA : Nat → Addr} {W : WX}
def tLenSet (K : PySem.W.Frag) (ta : TE) : TE := fun σ H Q => ta σ H fun x H1 => ∃ (l : Addr) (ns : List Int), x = V.ref l ∧ (SqL K H1 l (ns.map V.int) ∨ SqT K H1 l (ns.map V.int)) ∧ ns.length < 1000 ∧ Q (.int ((ded ns).length : Nat)) H1
theorem pe_lenSet {ta : TE} (hc : X.calm = true) (hg : Gl X "len") (hm : X.mg "len" = none) (hg2 : Gl X "set") (hm2 : X.mg "set" = none) (ha : PE X a ta)
    (na : starEach [a] X.env = (false, eval a X.env) :: starEach [] X.env := by rfl) : PE X (.Call (.Name "len" p) [.Call (.Name "set" p2) [a] [] q] [] pos) (tLenSet X.K ta) := by
  refine ⟨fun pins s σ H Q I h => ?_⟩
  refine Call_ (ld_blt I hg hm PySem.boot_len ?_)
  refine PyProof.Rows.callWith_builtin1 (PyProof.Rows.args_cons ?_ rfl) rfl rfl
  refine Call_ (ld_blt I hg2 hm2 PyProof.Rows.boot_set ?_)
  refine PyProof.Rows.callWith_type1 (PyProof.Rows.args_cons (thn (ha.run pins s σ H _ I h) fun v s1 ⟨x, H1, I1, r1, q1⟩ => PyProof.Rows.args_nil ?_) na) na rfl
  obtain ⟨l, ns, rfl, hq, hl3, q1⟩ := q1
  cases r1
  rcases hq with hq | hq
  · obtain ⟨its, r, pl, hz⟩ := I1.list hq
    have hl : its.toArray.size = ns.length := by rw [List.size_toArray, ← r.length, List.length_map]
    refine call_set_list (I1.ok.hd hc) pl.isList (ns := ns) (by simpa using r.ints) (by unfold scanBound; omega) fun h' tk hS hk => ?_
    rw [hl] at hS
    refine PyProof.Rows.args_nil ?_
    obtain ⟨o, es, ep, t, ho, hex, hd, _, _, _, hf, hn⟩ := hS
    have I2 : L2.Inv X pins σ H1 { s1 with heap := h', toks := tk } := I1.kept fun b o e => hk b o (Heap.lt_size e) e
    rw [firstMet_len] at hn
    have hle : (ded ns).length ≤ ns.length := len_le_of_sub (ded_nodup ns) fun x hx => mem_ded.mp hx
    exact call_len_set ho hex hd hf (by rw [hn]; omega) ⟨.int ((ded ns).length : Nat), H1, I2.tok _, ⟨_, by rw [hn]⟩, q1⟩
  · obtain ⟨its, r, pl, hz⟩ := I1.tuple hq
    refine call_set_tupI ns (I1.ok.hd hc) pl (by simpa using r.ints) (by unfold scanBound; omega) fun h' tk c hS hcn hk => ?_
    refine PyProof.Rows.args_nil ?_
    obtain ⟨o, es, ep, t, ho, hex, hd, _, hnd, hmem, _, hf, hn, _⟩ := hS
    have I2 : L2.Inv X pins σ H1 { s1 with heap := h', toks := tk } := I1.kept fun b o e => hk b o e
    have hcnt : es.size = (ded ns).length := by
      have e1 : (es.toList.map keyOf).length = (ded ns).length := len_eq_of_same hnd (ded_nodup ns) fun x => by
        rw [← hmem x, mem_ded]; exact decide_eq_true_iff
      rw [List.length_map, Array.length_toList] at e1
      exact e1
    have hle : (ded ns).length ≤ ns.length := len_le_of_sub (ded_nodup ns) fun x hx => mem_ded.mp hx
    exact call_len_set ho hex hd hf (by rw [hcnt]; omega) ⟨.int ((ded ns).length : Nat), H1, I2.tok _, ⟨_, by rw [hcnt]⟩, q1⟩
theorem je_lenSet {m : M D} (hc : X.calm = true) (hg : Gl X "len") (hm : X.mg "len" = none) (hg2 : Gl X "set") (hm2 : X.mg "set" = none) (ha : PE X a (tE X.K cA W m))
    (na : starEach [a] X.env = (false, eval a X.env) :: starEach [] X.env := by rfl) : PE X (.Call (.Name "len" p) [.Call (.Name "set" p2) [a] [] q] [] pos) (tE X.K cA W (e1 dLenSet m)) := by
  refine pe_imp (pe_lenSet hc hg hm hg2 hm2 ha na) ?_
  rintro σ H Q ⟨G, ρ, env, S, hE, hS, h⟩
  refine ⟨G, ρ, env, S, hE, hS, Ok.bind h fun x S1 v ρ1 H1 r1 x1 k1 h1 => ?_⟩
  unfold dLenSet at h1
  split at h1
  · rename_i xs ex
    split at h1
    · rename_i ns en
      obtain ⟨l, ws, rfl, q1, q2⟩ := rep_seq r1 x1 ex
      rw [ints_map en] at q2
      rw [rep_ints q2] at q1
      by_cases hl : ns.length < 1000
      · rw [if_pos hl] at h1
        refine ⟨l, ns, rfl, ?_, hl, h1.now r1 rfl⟩
        by_cases ht : isTup x = true
        · rw [if_pos ht] at q1; exact .inr q1
        · rw [if_neg ht] at q1; exact .inl q1
      · rw [if_neg hl] at h1; exact h1.elim
    · exact h1.elim
  · exact h1.elim
end
/-! ### sorted(set(a list of pairs of ints)) -/
abbrev PI2 := Int × Int
def pD (x : PI2) : D := .tup [.int x.1, .int x.2]
def prs : List D → Option (List PI2)
  | [] => some []
  | .tup [.int i, .int j] :: r => (prs r).map ((i, j) :: ·)
  | _ :: _ => none
theorem prs_map : ∀ {ds : List D} {xs : List PI2}, prs ds = some xs → ds = xs.map pD := by
  intro ds
  induction ds with
  | nil => intro xs h; cases h; rfl
  | cons d r ih =>
    intro xs h
    unfold prs at h
    split at h
    · cases ‹_ = []›
    · rename_i i j r' e
      cases e
      cases e2 : prs r with
      | none => rw [e2] at h; cases h
      | some ys =>
        rw [e2] at h
        have h : some ((i, j) :: ys) = some xs := h
        cases h
        rw [ih e2]; rfl
    · cases h
@[simp] theorem prs_of : ∀ xs : List PI2, prs (xs.map pD) = some xs
  | [] => rfl
  | x :: xs => by show (prs (xs.map pD)).map ((x.1, x.2) :: ·) = _; rw [prs_of]; rfl
/-- lexicographic order of pairs -/
def leP (x y : PI2) : Bool := decide (x.1 < y.1 ∨ (x.1 = y.1 ∧ x.2 ≤ y.2))
def dedP : List PI2 → List PI2
  | [] => []
  | x :: r => if x ∈ r then dedP r else x :: dedP r
theorem mem_dedP {y : PI2} : ∀ {l : List PI2}, y ∈ dedP l ↔ y ∈ l
  | [] => Iff.rfl
  | x :: r => by
    unfold dedP
    by_cases h : x ∈ r
    · rw [if_pos h, mem_dedP (l := r), List.mem_cons]
      exact ⟨.inr, fun q => q.elim (fun e => e ▸ h) id⟩
    · rw [if_neg h, List.mem_cons, List.mem_cons, mem_dedP (l := r)]
theorem dedP_nodup : ∀ l : List PI2, (dedP l).Nodup
  | [] => List.nodup_nil
  | x :: r => by
    unfold dedP
    by_cases h : x ∈ r
    · rw [if_pos h]; exact dedP_nodup r
    · rw [if_neg h]; exact List.nodup_cons.mpr ⟨fun q => h (mem_dedP.mp q), dedP_nodup r⟩
def sortU (l : List PI2) : List PI2 := (dedP l).mergeSort leP
theorem leP_total (a b : PI2) : (leP a b || leP b a) = true := by
  unfold leP
  rw [Bool.or_eq_true, decide_eq_true_iff, decide_eq_true_iff]
  omega
theorem leP_trans (a b c : PI2) (h1 : leP a b = true) (h2 : leP b c = true) : leP a c = true := by
  unfold leP at *
  rw [decide_eq_true_iff] at *
  omega
theorem leP_anti {a b : PI2} (h1 : leP a b = true) (h2 : leP b a = true) : a = b := by
  unfold leP at *
  rw [decide_eq_true_iff] at *
  obtain ⟨a1, a2⟩ := a
  obtain ⟨b1, b2⟩ := b
  simp only at *
  have : a1 = b1 ∧ a2 = b2 := by omega
  rw [this.1, this.2]
theorem sortU_pw (l : List PI2) : (sortU l).Pairwise (fun a b => leP a b = true) := List.pairwise_mergeSort leP_trans leP_total _
theorem sortU_nodup (l : List PI2) : (sortU l).Nodup := (List.mergeSort_perm _ _).nodup_iff.mpr (dedP_nodup l)
theorem mem_sortU {x : PI2} {l : List PI2} : x ∈ sortU l ↔ x ∈ l := by
  unfold sortU
  rw [(List.mergeSort_perm _ _).mem_iff, mem_dedP]
theorem sorted_one : ∀ {l m : List PI2}, l.Nodup → m.Nodup → (∀ x, x ∈ l ↔ x ∈ m) → l.Pairwise (fun a b => leP a b = true) → m.Pairwise (fun a b => leP a b = true) → l = m
  | [], [], _, _, _, _, _ => rfl
  | [], y :: m, _, _, h, _, _ => absurd ((h y).mpr List.mem_cons_self) (by simp)
  | x :: l, [], _, _, h, _, _ => absurd ((h x).mp List.mem_cons_self) (by simp)
  | x :: l, y :: m, n1, n2, h, p1, p2 => by
    obtain ⟨a1, a2⟩ := List.pairwise_cons.mp p1
    obtain ⟨b1, b2⟩ := List.pairwise_cons.mp p2
    obtain ⟨c1, c2⟩ := List.nodup_cons.mp n1
    obtain ⟨d1, d2⟩ := List.nodup_cons.mp n2
    have e : x = y := by
      rcases List.mem_cons.mp ((h x).mp List.mem_cons_self) with z | z
      · exact z
      · rcases List.mem_cons.mp ((h y).mpr List.mem_cons_self) with w | w
        · exact w.symm
        · exact leP_anti (a1 y w) (b1 x z)
    subst e
    congr 1
    refine sorted_one c2 d2 (fun z => ⟨fun hz => ?_, fun hz => ?_⟩) a2 b2
    · rcases List.mem_cons.mp ((h z).mp (List.mem_cons_of_mem _ hz)) with w | w
      · exact absurd (w ▸ hz) c1
      · exact w
    · rcases List.mem_cons.mp ((h z).mpr (List.mem_cons_of_mem _ hz)) with w | w
      · exact absurd (w ▸ hz) d1
      · exact w
def inB (x : PI2) : Bool := decide (0 ≤ x.1 ∧ x.1 < 64 ∧ 0 ≤ x.2 ∧ x.2 < 64)
def fSortSet (d : D) (S : Store) : Res (List D) := match d with
  | .lst ds => (match prs ds with
    | some xs => if xs.length < 64 ∧ xs.all inB = true then .ok ((sortU xs).map pD) S else .bad
    | none => .bad)
  | _ => .bad
section
variable {X : Cx} {a : Expr} {p p2 q pos : Pos} {cA : Nat → Addr} {W : WX}
/-- the addresses of a list of pairs -/
theorem rep_pairs {K : PySem.W.Frag} {G : Addr → Prop} {ρ : List Addr} {H : Hp} : ∀ {xs : List PI2} {vs : List V}, RepL K G ρ H (xs.map pD) vs → ∃ ks : List (Addr × List Int), vs = ks.map (fun p => V.ref p.1) ∧ ks.map (·.2) = xs.map (fun x => [x.1, x.2]) ∧ ∀ p ∈ ks, SqT K H p.1 (p.2.map V.int)
  | [], vs, h => ⟨[], h, rfl, fun p hp => nomatch hp⟩
  | x :: xs, vs, h => by
    obtain ⟨v, vs', rfl, h1, h2⟩ := h
    obtain ⟨ks, e1, e2, e3⟩ := rep_pairs h2
    obtain ⟨b, ws, rfl, q1, q2⟩ := h1
    have ew : ws = [V.int x.1, V.int x.2] := by
      obtain ⟨v1, _, rfl, z1, v2, _, rfl, z2, rfl⟩ := q2
      cases (show v1 = .int x.1 from z1)
      cases (show v2 = .int x.2 from z2)
      rfl
    subst ew
    refine ⟨(b, [x.1, x.2]) :: ks, by rw [e1]; rfl, by rw [List.map_cons, e2]; rfl, fun p hp => ?_⟩
    rcases List.mem_cons.mp hp with rfl | hp
    · exact q1
    · exact e3 p hp
theorem pairs_rep {K : PySem.W.Frag} {G : Addr → Prop} {ρ : List Addr} {H : Hp} : ∀ {ks : List (Addr × List Int)} {xs : List PI2}, ks.map (·.2) = xs.map (fun x => [x.1, x.2]) → (∀ p ∈ ks, SqT K H p.1 (p.2.map V.int)) → RepL K G ρ H (xs.map pD) (ks.map fun p => V.ref p.1)
  | [], [], _, _ => rfl
  | [], x :: xs, e, _ => by cases e
  | k :: ks, [], e, _ => by cases e
  | k :: ks, x :: xs, e, h => by
    rw [List.map_cons, List.map_cons] at e
    injection e with ea eb
    refine ⟨.ref k.1, ks.map fun p => V.ref p.1, rfl, ⟨k.1, k.2.map V.int, rfl, h k List.mem_cons_self, ?_⟩, pairs_rep eb fun p hp => h p (List.mem_cons_of_mem _ hp)⟩
    rw [ea]
    exact ⟨_, _, rfl, rfl, _, _, rfl, rfl, rfl⟩
theorem jf_sortSet {m : M D} (hc : X.calm = true) (hu : X.A.units + 64 < cLine) (hg : Gl X "sorted") (hm : X.mg "sorted" = none) (hg2 : Gl X "set") (hm2 : X.mg "set" = none) (ha : PE X a (tE X.K cA W m))
    (hs : starEach [a] X.env = (false, eval a X.env) :: starEach [] X.env := by rfl) (hs1 : starEach [.Call (.Name "set" p2) [a] [] q] X.env = (false, eval (.Call (.Name "set" p2) [a] [] q) X.env) :: starEach [] X.env := by rfl) :
    PE X (.Call (.Name "sorted" p) [.Call (.Name "set" p2) [a] [] q] [] pos) (tFr X.K cA W (fun env S => (m env S).bind fun d S1 => fSortSet d S1)) := by
  refine pe_imp (pe_callB (cr_sortedT hc) hg hm (by decide +kernel) (pa_cons (pe_callTy (cr_setOfT hc hu) hg2 hm2 (by decide +kernel) (pa_cons ha pa_nil hs) (he := hs)) pa_nil hs1) (he := hs1)) ?_
  rintro σ H Q ⟨G, ρ, env, S, hE, hS, h⟩
  refine ⟨G, ρ, env, S, hE, hS, OkF.bind h fun x S1 v ρ1 H1 r1 x1 k1 h1 => ?_⟩
  unfold fSortSet at h1
  split at h1
  · rename_i ds
    split at h1
    · rename_i xs ex
      by_cases hl : xs.length < 64 ∧ xs.all inB = true
      · rw [if_pos hl] at h1
        obtain ⟨b, vs, rfl, q1, q2⟩ := x1
        rw [prs_map ex] at q2
        obtain ⟨ks, e1, e2, e3⟩ := rep_pairs q2
        have hkl : ks.length = xs.length := by rw [← List.length_map (f := (·.2)), e2, List.length_map]
        refine ⟨b, ks, rfl, by rw [← e1]; exact q1.sq, e3, by rw [hkl]; exact hl.1, fun sA L hn hL1 hL2 => ?_⟩
        have kN : Keep G ρ1 H1 ρ1 (upd H1 sA (SetTO X.prog X.w sA L)) := Keep.new hn r1.gt
        have mem_xs : ∀ p ∈ ks, ∃ x ∈ xs, p.2 = [x.1, x.2] := fun p hp => by
          have : p.2 ∈ ks.map (·.2) := List.mem_map.mpr ⟨p, hp, rfl⟩
          rw [e2] at this
          obtain ⟨x, hx, ex⟩ := List.mem_map.mp this
          exact ⟨x, hx, ex.symm⟩
        have bnd : ∀ x ∈ xs, 0 ≤ x.1 ∧ x.1 < 64 ∧ 0 ≤ x.2 ∧ x.2 < 64 := fun x hx => of_decide_eq_true (List.all_eq_true.mp hl.2 x hx)
        refine ⟨sA, L, 2, 64, rfl, upd_same, fun p hp => kN.sqT (e3 p (hL1 p hp)), by decide, fun p hp => ?_, fun L' pA hperm hnd h64 hpw hn2 => ?_⟩
        · obtain ⟨x, hx, ep⟩ := mem_xs p (hL1 p hp)
          have hb := bnd x hx
          rw [ep]
          refine ⟨rfl, ?_⟩
          intro y hy
          simp at hy
          rcases hy with rfl | rfl
          · exact ⟨hb.1, hb.2.1⟩
          · exact ⟨hb.2.2.1, hb.2.2.2⟩
        · -- the list is the sorted one
          have hL'k : ∀ p ∈ L', p ∈ ks := fun p hp => hL1 p (hperm.mem_iff.mp hp)
          obtain ⟨ys, ey, hys⟩ : ∃ ys : List PI2, L'.map (·.2) = ys.map (fun x => [x.1, x.2]) ∧ ∀ y ∈ ys, y ∈ xs := by
            clear hpw h64 hnd hperm
            induction L' with
            | nil => exact ⟨[], rfl, fun y hy => nomatch hy⟩
            | cons p L' ih =>
              obtain ⟨ys, ey, hys⟩ := ih fun q hq => hL'k q (List.mem_cons_of_mem _ hq)
              obtain ⟨x, hx, ep⟩ := mem_xs p (hL'k p List.mem_cons_self)
              refine ⟨x :: ys, by rw [List.map_cons, List.map_cons, ey, ep], fun y hy => ?_⟩
              rcases List.mem_cons.mp hy with rfl | hy
              · exact hx
              · exact hys y hy
          have inj : ∀ x y : PI2, ([x.1, x.2] : List Int) = [y.1, y.2] → x = y := fun x y e => by
            injection e with e1 e2
            injection e2 with e2 _
            exact Prod.ext e1 e2
          have ynd : ys.Nodup := by
            rw [ey] at hnd
            exact List.Pairwise.of_map (fun x : PI2 => ([x.1, x.2] : List Int)) (fun a b hne e => hne (by rw [e])) hnd
          have ymem : ∀ x, x ∈ ys ↔ x ∈ xs := fun x => by
            refine ⟨hys x, fun hx => ?_⟩
            have h1 : ([x.1, x.2] : List Int) ∈ ks.map (·.2) := by rw [e2]; exact List.mem_map.mpr ⟨x, hx, rfl⟩
            obtain ⟨p, hp, ep⟩ := List.mem_map.mp h1
            have h2 := hL2 p hp
            rw [ep] at h2
            have h3 : ([x.1, x.2] : List Int) ∈ L'.map (·.2) := (hperm.map (·.2)).mem_iff.mpr h2
            rw [ey] at h3
            obtain ⟨y, hy, e⟩ := List.mem_map.mp h3
            rw [← inj y x e]; exact hy
          have ypw : ys.Pairwise (fun a b => leP a b = true) := by
            have hpw2 : (L'.map (·.2)).Pairwise (fun u v => TS.code 64 u ≤ TS.code 64 v) := List.pairwise_map.mpr hpw
            rw [ey, List.pairwise_map] at hpw2
            refine List.Pairwise.imp_of_mem (fun {a b} ha hb hab => ?_) hpw2
            have ba := bnd a (hys a ha)
            have bb := bnd b (hys b hb)
            rw [code_pair, code_pair] at hab
            unfold leP
            rw [decide_eq_true_iff]
            omega
          have eys : ys = sortU xs := sorted_one ynd (sortU_nodup xs) (fun x => by rw [ymem x, mem_sortU]) ypw (sortU_pw xs)
          refine h1 pA (L'.map fun q => V.ref q.1) ρ1 _ (r1.new hn) ?_ kN hn2
          rw [← eys]
          exact RepL.keep kN _ _ (pairs_rep ey fun p hp => e3 p (hL'k p hp))
      · rw [if_neg hl] at h1; exact h1.elim
    · exact h1.elim
  · exact h1.elim
/-! ### xs.append(e), and its like -/
def cellOf (S : Store) : D → Option (Nat × List D)
  | .cell n => match S[n]? with
    | some (.lst ds) => some (n, ds)
    | _ => none
  | _ => none
theorem cellOf_some {S : Store} {d : D} {n : Nat} {ds : List D} (h : cellOf S d = some (n, ds)) : d = .cell n ∧ S[n]? = some (.lst ds) := by
  cases d with
  | cell k =>
    unfold cellOf at h
    dsimp only at h
    cases e : S[k]? with
    | none => rw [e] at h; cases h
    | some o =>
      rw [e] at h
      cases o with
      | lst xs => cases h; exact ⟨rfl, e⟩
      | dK kvs => cases h
  | _ => cases h
def MtD (K : PySem.W.Frag) (r : V → List V → Hp → VK → Prop) (f : D → List D → Store → Res D) : Prop :=
  ∀ G ρ H S d ds v vs E Q, RelS K G ρ S H → Rep K G ρ H d v → RepL K G ρ H ds vs → Ok K G (Rep K G) ρ H (f d ds S) E Q → r v vs H Q
def eMt (f : D → List D → Store → Res D) (T : D → Store → Bool) (mo : M D) (ma : M (List D)) : M D := fun env S => (mo env S).bind fun o S1 => if T o S1 = true then (ma env S1).bind fun xs S2 => f o xs S2 else .bad
def isLst (d : D) (S : Store) : Bool := (seqOf S d).isSome && !isTup d
def isTupB (d : D) (_ : Store) : Bool := isTup d
def TyD (K : PySem.W.Frag) (T : String) (t : D → Store → Bool) : Prop := ∀ G ρ H S d v, RelS K G ρ S H → Rep K G ρ H d v → t d S = true → tyV K T v H
theorem tyd_list {K : PySem.W.Frag} : TyD K "list" isLst := by
  intro G ρ H S d v r x h
  unfold isLst at h
  rw [Bool.and_eq_true] at h
  cases e : seqOf S d with
  | none => rw [e] at h; cases h.1
  | some xs =>
    obtain ⟨a, vs, rfl, h1, h2⟩ := rep_seq r x e
    have ht : isTup d = false := by simpa using h.2
    rw [if_neg (by rw [ht]; decide)] at h1
    exact .inl ⟨rfl, _, h1⟩
theorem je_mt {o e : Expr} {es : List Expr} {T : String} {name : Str} {apos : Pos} {mo : M D} {ma : M (List D)} {r : V → List V → Hp → VK → Prop} {f : D → List D → Store → Res D} {t : D → Store → Bool} (hty' : TyD X.K T t) (hd : MtD X.K r f)
    (hpe : PE X (.Call (.Attribute o name apos) (e :: es) [] pos) (tBM X.K T r (tE X.K cA W mo) (tAr X.K cA W ma))) : PE X (.Call (.Attribute o name apos) (e :: es) [] pos) (tE X.K cA W (eMt f t mo ma)) := by
  refine pe_imp hpe ?_
  rintro σ H Q ⟨G, ρ, env, S, hE, hS, h⟩
  refine ⟨G, ρ, env, S, hE, hS, Ok.bind h fun x S1 v ρ1 H1 r1 x1 k1 h1 => ?_⟩
  by_cases ht : t x S1 = true
  · rw [if_pos ht] at h1
    refine ⟨hty' G ρ1 H1 S1 x v r1 x1 ht, G, ρ1, env, S1, hE.keep k1, r1, Ok.bind h1 fun xs S2 vs ρ2 H2 r2 x2 k2 h2 => ?_⟩
    exact hd G ρ2 H2 S2 x xs v vs _ Q r2 (Rep.keep k2 _ _ x1) x2 h2
  · rw [if_neg ht] at h1; exact h1.elim
def dAppend (d : D) (xs : List D) (S : Store) : Res D := match cellOf S d, xs with
  | some (n, ds), [y] => if ds.length < big then .ok .non (S.set n (.lst (ds ++ [y]))) else .bad
  | _, _ => .bad
theorem md_append {K : PySem.W.Frag} : MtD K rAppend dAppend := by
  intro G ρ H S d ds v vs E Q r x1 x2 h
  unfold dAppend at h
  split at h
  · rename_i n xs y ec
    obtain ⟨rfl, eS⟩ := cellOf_some ec
    obtain ⟨a, rfl, ha⟩ := x1
    obtain ⟨w, _, rfl, q1, rfl⟩ := x2
    obtain ⟨ws, h1, h2⟩ := r.ob n _ a eS ha
    by_cases hl : xs.length < big
    · rw [if_pos hl] at h
      refine ⟨a, ws, w, rfl, rfl, h1, by rw [h2.length]; exact big_lt hl, ?_⟩
      have k : Keep G ρ H ρ (upd H a (.lst (ws ++ [w]))) := Keep.write (List.mem_of_getElem? ha) (r.ng a (List.mem_of_getElem? ha)) (.inl ⟨_, h1⟩)
      obtain ⟨r', k'⟩ := r.write (o := .lst (xs ++ [y])) (u := .lst (ws ++ [w])) ha (.inl ⟨_, h1⟩) ⟨_, upd_same, RepL.keep k _ _ (h2.snoc q1)⟩
      exact h .non ρ _ r' rfl k'
    · rw [if_neg hl] at h; exact h.elim
  · exact h.elim
def dSetL (o i v : D) (S : Store) : Option Store := match cellOf S o, i with
  | some (n, ds), .int k => (match ixN ds.length k with
    | some j => some (S.set n (.lst (ds.set j v)))
    | none => none)
  | _, _ => none
theorem sd_setL {K : PySem.W.Frag} : SetD K rSetL dSetL := by
  intro G ρ H S do_ di dv o i v S' r x1 x2 x3 e Q q
  unfold dSetL at e
  split at e
  · rename_i n ds k ec
    obtain ⟨rfl, eS⟩ := cellOf_some ec
    obtain ⟨a, rfl, ha⟩ := x1
    cases (show i = .int k from x2)
    obtain ⟨ws, h1, h2⟩ := r.ob n _ a eS ha
    split at e
    · rename_i j ej
      cases e
      refine ⟨a, ws, k, j, rfl, rfl, h1, by rw [h2.length]; exact ej, ?_⟩
      have kk : Keep G ρ H ρ (upd H a (.lst (ws.set j v))) := Keep.write (List.mem_of_getElem? ha) (r.ng a (List.mem_of_getElem? ha)) (.inl ⟨_, h1⟩)
      obtain ⟨r', k'⟩ := r.write (o := .lst (ds.set j dv)) (u := .lst (ws.set j v)) ha (.inl ⟨_, h1⟩) ⟨_, upd_same, RepL.keep kk _ _ (h2.set j x3)⟩
      exact q _ r' k'
    · cases e
  · cases e
end
end Rf

namespace Rf
open PySem PySem.Spec PyProof.Rows L2
section
variable {X : Cx} {a b c d : Expr} {pos : Pos} {cA : Nat → Addr} {W : WX}
/-! ### chains of comparisons -/
def eChain (f g : D → D → Store → Res D) (ma mb mc : M D) : M D := fun env S => (ma env S).bind fun x S1 => (mb env S1).bind fun y S2 => (f x y S2).bind fun k S3 => match k with
  | .bl true => (mc env S3).bind fun z S4 => g y z S4
  | .bl false => .ok (.bl false) S3
  | _ => .bad
theorem chain_read {r r' : R2} {f g : D → D → Store → Res D} {ma mb mc : M D} (hd : OpD X.K r f) (hd' : OpD X.K r' g) : ∀ σ H Q, tE X.K cA W (eChain f g ma mb mc) σ H Q → tChain r r' (tE X.K cA W ma) (tE X.K cA W mb) (tE X.K cA W mc) σ H Q := by
  rintro σ H Q ⟨G, ρ, env, S, hE, hS, h⟩
  refine ⟨G, ρ, env, S, hE, hS, Ok.bind h fun x S1 v ρ1 H1 r1 x1 k1 h1 => ?_⟩
  refine ⟨G, ρ1, env, S1, hE.keep k1, r1, Ok.bind h1 fun y S2 u ρ2 H2 r2 x2 k2 h2 => ?_⟩
  refine hd G ρ2 H2 S2 x y v u (WE' cA W σ) _ r2 (Rep.keep k2 x v x1) x2 (Ok.bind h2 fun k S3 w ρ3 H3 r3 x3 k3 h3 => ?_)
  cases k with
  | bl k =>
    cases (show w = .bl k from x3)
    cases k with
    | true =>
      refine ⟨true, rfl, iteT ⟨G, ρ3, env, S3, ((hE.keep k1).keep k2).keep k3, r3, Ok.bind h3 fun z S4 t ρ4 H4 r4 x4 k4 h4 => ?_⟩⟩
      exact hd' G ρ4 H4 S4 y z u t _ Q r4 (Rep.keep (k3.trans k4) y u x2) x4 h4
    | false => exact ⟨false, rfl, iteF (h3.now r3 rfl)⟩
  | _ => exact h3.elim
theorem je_chain {op op' : CmpOp} {r r' : R2} {f g : D → D → Store → Res D} {ma mb mc : M D} (ho : OpR X (compareOp op) r) (hd : OpD X.K r f) (ho' : OpR X (compareOp op') r') (hd' : OpD X.K r' g) (ha : PE X a (tE X.K cA W ma)) (hb : PE X b (tE X.K cA W mb)) (hc : PE X c (tE X.K cA W mc))
    (hm : lastMarks [op, op'] [b, c] = false := by with_unfolding_all rfl) : PE X (.Compare a [op, op'] [b, c] pos) (tE X.K cA W (eChain f g ma mb mc)) :=
  pe_imp (pe_chain ho ho' ha hb hc hm) (chain_read hd hd')
theorem jt_chain {op op' : CmpOp} {r r' : R2} {f g : D → D → Store → Res D} {ma mb mc : M D} (ho : OpR X (compareOp op) r) (hd : OpD X.K r f) (ho' : OpR X (compareOp op') r') (hd' : OpD X.K r' g) (ha : PE X a (tE X.K cA W ma)) (hb : PE X b (tE X.K cA W mb)) (hc : PE X c (tE X.K cA W mc))
    (hm : lastMarks [op, op'] [b, c] = false := by with_unfolding_all rfl) : PT X (.Compare a [op, op'] [b, c] pos) (tT X.K cA W (tst (eChain f g ma mb mc))) :=
  pt_imp (pt_chain ho ho' ha hb hc hm) fun σ H Q h => chain_read hd hd' _ _ _ (test_read σ H Q h)
def tChain3 (r1 r2 r3 : R2) (ta tb tc td : TE) : TE := fun σ H Q => ta σ H fun x H1 => tb σ H1 fun y H2 => r1 x y H2 fun k1 H3 => ∃ b1, k1 = .bl b1 ∧
  (if b1 = true then tc σ H3 fun z H4 => r2 y z H4 fun k2 H5 => ∃ b2, k2 = .bl b2 ∧ (if b2 = true then td σ H5 fun w' H6 => r3 z w' H6 Q else Q (.bl false) H5) else Q (.bl false) H3)
theorem pe_chain3 {op1 op2 op3 : CmpOp} {r1 r2 r3 : R2} {ta tb tc td : TE} (h1 : OpR X (compareOp op1) r1) (h2 : OpR X (compareOp op2) r2) (h3 : OpR X (compareOp op3) r3) (ha : PE X a ta) (hb : PE X b tb) (hc : PE X c tc) (hd : PE X d td)
    (hm : lastMarks [op1, op2, op3] [b, c, d] = false := by with_unfolding_all rfl) (he : evalEach [d] X.env = [eval d X.env] := by rfl) : PE X (.Compare a [op1, op2, op3] [b, c, d] pos) (tChain3 r1 r2 r3 ta tb tc td) := by
  refine ⟨fun pins s σ H Q I h => ?_⟩
  refine Compare_chain (thn (ha.run pins s σ H _ I h) fun v s1 ⟨x, H1, I1, q1, h⟩ => ?_) hm
  rw [he]
  refine chain_link (thn (hb.run pins s1 σ H1 _ I1 h) fun u s2 ⟨y, H2, I2, q2, h⟩ => thn (h1 pins s2 σ H2 x y v u _ I2 q1 q2 h) fun k s3 ⟨z, H3, I3, q3, b1, e, h⟩ => ?_)
  subst e
  cases q3
  refine wpAny_truthy_bool ?_
  cases b1 with
  | false => exact ite_ff ⟨.bl false, H3, I3, rfl, h⟩
  | true =>
    refine ite_tt (chain_link (thn (hc.run pins s3 σ H3 _ I3 h) fun u2 s4 ⟨z2, H4, I4, q4, h⟩ => thn (h2 pins s4 σ H4 y z2 u u2 _ I4 q2 q4 h) fun k s5 ⟨z3, H5, I5, q5, b2, e, h⟩ => ?_))
    subst e
    cases q5
    refine wpAny_truthy_bool ?_
    cases b2 with
    | false => exact ite_ff ⟨.bl false, H5, I5, rfl, h⟩
    | true => exact ite_tt (chain_last (thn (hd.run pins s5 σ H5 _ I5 h) fun w' s6 ⟨z4, H6, I6, q6, h⟩ => h3 pins s6 σ H6 z2 z4 u2 w' Q I6 q4 q6 h))
def eChain3 (f g h : D → D → Store → Res D) (ma mb mc md : M D) : M D := fun env S => (ma env S).bind fun x S1 => (mb env S1).bind fun y S2 => (f x y S2).bind fun k S3 => match k with
  | .bl true => (mc env S3).bind fun z S4 => (g y z S4).bind fun k2 S5 => (match k2 with
    | .bl true => (md env S5).bind fun w S6 => h z w S6
    | .bl false => .ok (.bl false) S5
    | _ => .bad)
  | .bl false => .ok (.bl false) S3
  | _ => .bad
theorem je_chain3 {op1 op2 op3 : CmpOp} {r1 r2 r3 : R2} {f g h : D → D → Store → Res D} {ma mb mc md : M D} (h1 : OpR X (compareOp op1) r1) (d1 : OpD X.K r1 f) (h2 : OpR X (compareOp op2) r2) (d2 : OpD X.K r2 g) (h3 : OpR X (compareOp op3) r3) (d3 : OpD X.K r3 h) (ha : PE X a (tE X.K cA W ma)) (hb : PE X b (tE X.K cA W mb)) (hc : PE X c (tE X.K cA W mc)) (hd : PE X d (tE X.K cA W md))
    (hm : lastMarks [op1, op2, op3] [b, c, d] = false := by with_unfolding_all rfl) (he : evalEach [d] X.env = [eval d X.env] := by rfl) : PE X (.Compare a [op1, op2, op3] [b, c, d] pos) (tE X.K cA W (eChain3 f g h ma mb mc md)) := by
  refine pe_imp (pe_chain3 h1 h2 h3 ha hb hc hd hm he) ?_
  rintro σ H Q ⟨G, ρ, env, S, hE, hS, h⟩
  refine ⟨G, ρ, env, S, hE, hS, Ok.bind h fun x S1 v ρ1 H1 r1 x1 k1 h1 => ?_⟩
  refine ⟨G, ρ1, env, S1, hE.keep k1, r1, Ok.bind h1 fun y S2 u ρ2 H2 r2 x2 k2 h2 => ?_⟩
  refine d1 G ρ2 H2 S2 x y v u (WE' cA W σ) _ r2 (Rep.keep k2 x v x1) x2 (Ok.bind h2 fun k S3 w ρ3 H3 r3 x3 k3 h3 => ?_)
  cases k with
  | bl k =>
    cases (show w = .bl k from x3)
    cases k with
    | true =>
      refine ⟨true, rfl, iteT ⟨G, ρ3, env, S3, ((hE.keep k1).keep k2).keep k3, r3, Ok.bind h3 fun z S4 t ρ4 H4 r4 x4 k4 h4 => ?_⟩⟩
      refine d2 G ρ4 H4 S4 y z u t (WE' cA W σ) _ r4 (Rep.keep (k3.trans k4) y u x2) x4 (Ok.bind h4 fun k S5 w ρ5 H5 r5 x5 k5 h5 => ?_)
      cases k with
      | bl k =>
        cases (show w = .bl k from x5)
        cases k with
        | true =>
          refine ⟨true, rfl, iteT ⟨G, ρ5, env, S5, ((((hE.keep k1).keep k2).keep k3).keep k4).keep k5, r5, Ok.bind h5 fun z2 S6 t2 ρ6 H6 r6 x6 k6 h6 => ?_⟩⟩
          exact d3 G ρ6 H6 S6 z z2 t t2 _ Q r6 (Rep.keep (k5.trans k6) z t x4) x6 h6
        | false => exact ⟨false, rfl, iteF (h5.now r5 rfl)⟩
      | _ => exact h5.elim
    | false => exact ⟨false, rfl, iteF (h3.now r3 rfl)⟩
  | _ => exact h3.elim
/-! ### is None -/
def isNon : D → Bool
  | .non => true
  | _ => false
def dIsN (neg : Bool) (d e : D) (S : Store) : Res D := match e with
  | .non => .ok (.bl (if neg then !isNon d else isNon d)) S
  | _ => .bad
theorem rep_non {K : PySem.W.Frag} {G : Addr → Prop} {ρ : List Addr} {H : Hp} {d : D} {v : V} (h : Rep K G ρ H d v) : decide (v = .non) = isNon d := by
  cases d with
  | non => rw [show v = .non from h]; rfl
  | bl b => rw [show v = .bl b from h]; rfl
  | int b => rw [show v = .int b from h]; rfl
  | str b => rw [show v = .str b from h]; rfl
  | ty b => rw [show v = .ty b from h]; rfl
  | tup ds => obtain ⟨a, vs, rfl, _⟩ := h; rfl
  | lst ds => obtain ⟨a, vs, rfl, _⟩ := h; rfl
  | fz ds => obtain ⟨a, vs, rfl, _⟩ := h; rfl
  | cell n => obtain ⟨a, rfl, _⟩ := h; rfl
theorem od_isN {K : PySem.W.Frag} : OpD K (fun x y H Q => y = .non ∧ Q (.bl (decide (x = .non))) H) (dIsN false) := by
  intro G ρ H S d1 d2 v1 v2 E Q r x1 x2 h
  cases d2 with
  | non => exact ⟨x2, by rw [rep_non x1]; exact h.now r rfl⟩
  | _ => exact h.elim
theorem od_notN {K : PySem.W.Frag} : OpD K (fun x y H Q => y = .non ∧ Q (.bl (!decide (x = .non))) H) (dIsN true) := by
  intro G ρ H S d1 d2 v1 v2 E Q r x1 x2 h
  cases d2 with
  | non => exact ⟨x2, by rw [rep_non x1]; exact h.now r rfl⟩
  | _ => exact h.elim
/-! ### sum, all, any of a list -/
def dSum (ds : List D) (S : Store) : Res D := match ds with
  | [d] => (match isTup d, seqOf S d with
    | false, some xs => (match nums xs with
      | some ns => .ok (.int ns.sum) S
      | none => .bad)
    | _, _ => .bad)
  | _ => .bad
theorem cd_sum {K : PySem.W.Frag} : CallD K (rSum K) dSum := by
  intro G ρ H S ds vs E Q r x h
  unfold dSum at h
  split at h
  · rename_i d
    obtain ⟨v, _, rfl, q1, rfl⟩ := x
    split at h
    · rename_i xs ht es
      split at h
      · rename_i ns en
        obtain ⟨a, ws, rfl, h1, h2⟩ := rep_seq r q1 es
        rw [if_neg (by rw [ht]; decide), ] at h1
        rw [ints_map en] at h2
        rw [rep_ints h2] at h1
        exact ⟨a, ns, rfl, h1, h.now r rfl⟩
      · exact h.elim
    · exact h.elim
  · exact h.elim
def bls : List D → Option (List Bool)
  | [] => some []
  | .bl i :: r => (bls r).map (i :: ·)
  | _ :: _ => none
theorem bls_map : ∀ {ds : List D} {ns : List Bool}, bls ds = some ns → ds = ns.map .bl := by
  intro ds
  induction ds with
  | nil => intro ns h; cases h; rfl
  | cons d r ih =>
    intro ns h
    cases d with
    | bl i =>
      unfold bls at h
      cases e : bls r with
      | none => rw [e] at h; cases h
      | some ms =>
        rw [e] at h
        have h : some (i :: ms) = some ns := h
        cases h
        rw [ih e]; rfl
    | _ => cases h
@[simp] theorem bls_of : ∀ ns : List Bool, bls (ns.map .bl) = some ns
  | [] => rfl
  | n :: ns => by show (bls (ns.map .bl)).map (n :: ·) = _; rw [bls_of]; rfl
theorem rep_bls {K : PySem.W.Frag} {G : Addr → Prop} {ρ : List Addr} {H : Hp} : ∀ {ns : List Bool} {vs : List V}, RepL K G ρ H (ns.map .bl) vs → vs = ns.map V.bl
  | [], vs, h => h
  | n :: ns, vs, h => by
    obtain ⟨v, vs', rfl, h1, h2⟩ := h
    cases (show v = .bl n from h1)
    rw [rep_bls h2]; rfl
def dAll (any : Bool) (ds : List D) (S : Store) : Res D := match ds with
  | [d] => (match isTup d, seqOf S d with
    | false, some xs => (match bls xs with
      | some ns => .ok (.bl (if any = true then ns.any id else ns.all id)) S
      | none => .bad)
    | _, _ => .bad)
  | _ => .bad
theorem cd_all {K : PySem.W.Frag} : CallD K (rAll K) (dAll false) := by
  intro G ρ H S ds vs E Q r x h
  unfold dAll at h
  split at h
  · rename_i d
    obtain ⟨v, _, rfl, q1, rfl⟩ := x
    split at h
    · rename_i xs ht es
      split at h
      · rename_i ns en
        obtain ⟨a, ws, rfl, h1, h2⟩ := rep_seq r q1 es
        rw [if_neg (by rw [ht]; decide), ] at h1
        rw [bls_map en] at h2
        rw [rep_bls h2] at h1
        exact ⟨a, ns, rfl, h1, h.now r rfl⟩
      · exact h.elim
    · exact h.elim
  · exact h.elim
end
end Rf

namespace Rf
open PySem PySem.Spec PyProof.Rows L2
theorem hu65 {k : Nat} {A : Around} (hr : Room k A) : A.units + 65 < cLine := by have := hr.un; omega
def fuel0 : Nat := 1000000
theorem no_cx {P : Program} {w : World} {l : List Env} {H : Hp} {s : Shared} {e : Value} {s' : Shared} (h : L2.CX P w l H s (fun _ _ _ => False) e s') : False := by
  obtain ⟨_, _, _, _, _, _, _, _, _, _, _, _, z⟩ := h
  exact z
theorem rep_script {K : PySem.W.Frag} {G : Addr → Prop} {ρ : List Addr} {H : Hp} : ∀ ns : List Int, RepL K G ρ H (ns.map .int) (ns.map V.int)
  | [] => rfl
  | n :: ns => ⟨.int n, ns.map V.int, rfl, rfl, rep_script ns⟩
theorem law_sp {K : PySem.W.Frag} {cA : Nat → Addr} {m : List D → Store → Res D} {H : Hp} {a : Addr} {ns : List Int} {E : XK} (hm : ∃ S', m [.fz (ns.map .int)] [] = .ok (.bl true) S') (hO : Only H) (hS : SqL K H a (ns.map V.int)) :
    spF K cA 1 m [.ref a] H (fun v _ => v = .bl true) E := by
  obtain ⟨S', e⟩ := hm
  have hz : FzL K H a (ns.map V.int) := by
    rcases hS with (h | h) | h
    · rcases hO a with q | ⟨o, xs, q⟩
      · rw [h] at q; cases q
      · rw [h] at q; cases q
    · exact .inl h
    · exact .inr h
  refine ⟨rfl, fun _ => False, [], [], [.fz (ns.map .int)], ⟨rfl, List.nodup_nil, (fun _ h => nomatch h), (fun _ h => h.elim), fun i o b h => by simp at h⟩, ⟨.ref a, [], rfl, ⟨a, _, rfl, hz, rep_script ns⟩, rfl⟩, ?_⟩
  rw [e]
  intro v ρ' H' _ hv _
  exact hv
end Rf

namespace Rf
open PySem PySem.Spec PyProof.Rows L2
/-! ### how a def ends -/
theorem fin_val {S S' : Store} {d : D} (h : stOk S S') (hp : pureD d = true) : fin .val S d S' = .ok d (S'.take S.length) := by
  unfold fin
  rw [if_pos h]
  dsimp only
  rw [if_pos hp]
theorem run_pure {N : Nat} {body : MS} {ds : List D} {S : Store} {d : D} (h : body (ds.map some ++ List.replicate (N - ds.length) none) S = .ret d S) (hp : pureD d = true) : runFn .val N body ds S = .ok d S := by
  unfold runFn
  rw [h]
  show fin .val S d S = _
  rw [fin_val (stOk_refl S) hp, List.take_length]
/-- with lists of its own -/
theorem run_loc {N : Nat} {body : MS} {ds : List D} {S L : Store} {d : D} (h : body (ds.map some ++ List.replicate (N - ds.length) none) S = .ret d (S ++ L)) (hp : pureD d = true) : runFn .val N body ds S = .ok d S := by
  unfold runFn
  rw [h]
  show fin .val S d (S ++ L) = _
  rw [fin_val (stOk_app S L) hp, List.take_left]
theorem stOk_set {S L : Store} {k : Nat} {xs : List D} (hp : pureL xs = true) : stOk S (S.set k (.lst xs) ++ L) := by
  refine ⟨by simp, fun i hi => ?_⟩
  rw [List.getElem?_append_left (by simpa using hi)]
  by_cases e : i = k
  · subst e
    exact .inr ⟨.lst xs, by rw [List.getElem?_set_self hi], hp⟩
  · exact .inl (List.getElem?_set_ne (Ne.symm e))
/-- .. and one of the caller's changed -/
theorem run_set {N : Nat} {body : MS} {ds : List D} {S L : Store} {d : D} {k : Nat} {xs : List D} (h : body (ds.map some ++ List.replicate (N - ds.length) none) S = .ret d (S.set k (.lst xs) ++ L)) (hp : pureD d = true) (hx : pureL xs = true) : runFn .val N body ds S = .ok d (S.set k (.lst xs)) := by
  unfold runFn
  rw [h]
  show fin .val S d _ = _
  rw [fin_val (stOk_set hx) hp]
  have e : S.length = (S.set k (.lst xs)).length := by simp
  rw [e, List.take_left]
theorem run_own {N : Nat} {body : MS} {ds : List D} {S : Store} {xs : List D} (h : body (ds.map some ++ List.replicate (N - ds.length) none) S = .ret (.cell S.length) (S ++ [.lst xs])) (hx : pureL xs = true) : runFn .own N body ds S = .ok (.cell S.length) (S ++ [.lst xs]) := by
  unfold runFn
  rw [h]
  show fin .own S _ _ = _
  unfold fin
  rw [if_pos (stOk_app S _)]
  dsimp only
  rw [if_pos (Nat.le_refl _)]
  have e : (S ++ [Ob.lst xs])[S.length]? = some (.lst xs) := by rw [List.getElem?_append_right (Nat.le_refl _)]; simp
  rw [e]
  dsimp only
  rw [if_pos hx, List.take_left]
@[simp] theorem pureL_map {α : Type} {f : α → D} (h : ∀ x, pureD (f x) = true) : ∀ l : List α, pureL (l.map f) = true
  | [] => rfl
  | x :: l => by show (pureD (f x) && pureL (l.map f)) = true; rw [h x, pureL_map h l]; rfl
/-! ### loops -/
/-- a loop whose turn brings the slots back; the store by a fold -/
theorem loop_fold {p : Pat} {body : MS} {dead : List Nat} {env : En} {α : Type} (st : α → Store) (step : α → D → α) (I : α → Prop) : ∀ (ds : List D) (a : α), I a →
    (∀ d ∈ ds, ∀ a, I a → I (step a d) ∧ ∃ e1 e2, p d env = some e1 ∧ (body e1 (st a) = .next e2 (st (step a d)) ∨ body e1 (st a) = .cont e2 (st (step a d))) ∧ clr e2 dead = env) →
    loopD p body dead (fun _ => True) ds env (st a) = .next env (st (ds.foldl step a)) ∧ I (ds.foldl step a)
  | [], a, hI, _ => ⟨by unfold loopD; rw [if_pos trivial]; rfl, hI⟩
  | d :: ds, a, hI, h => by
    obtain ⟨hI2, e1, e2, q1, q2, q3⟩ := h d List.mem_cons_self a hI
    have ih := loop_fold st step I ds (step a d) hI2 fun d' hd => h d' (List.mem_cons_of_mem _ hd)
    refine ⟨?_, ih.2⟩
    unfold loopD
    rw [if_pos trivial, q1]
    dsimp only
    rcases q2 with q2 | q2
    · rw [q2]
      dsimp only
      rw [q3]
      exact ih.1
    · rw [q2]
      dsimp only
      rw [q3]
      exact ih.1
theorem chk_nil (ds : List D) : (IT.chk ⟨ds, []⟩) = fun _ => True := by
  funext S
  unfold IT.chk
  apply propext
  constructor
  · exact fun _ => trivial
  · intro _ p hp
    cases hp
/-- a loop by what holds of the store behind each part -/
theorem loop_inv {p : Pat} {body : MS} {dead : List Nat} {env : En} (I : List D → Store → Prop) : ∀ (post pre : List D) (S : Store), I pre S →
    (∀ pre1 d post1, pre ++ post = pre1 ++ d :: post1 → ∀ S, I pre1 S → ∃ e1 e2 S2, p d env = some e1 ∧ (body e1 S = .next e2 S2 ∨ body e1 S = .cont e2 S2) ∧ clr e2 dead = env ∧ I (pre1 ++ [d]) S2) →
    ∃ S', loopD p body dead (fun _ => True) post env S = .next env S' ∧ I (pre ++ post) S'
  | [], pre, S, h, _ => ⟨S, by unfold loopD; rw [if_pos trivial], by rw [List.append_nil]; exact h⟩
  | d :: post, pre, S, h, hs => by
    obtain ⟨e1, e2, S2, q1, q2, q3, q4⟩ := hs pre d post rfl S h
    obtain ⟨S', r1, r2⟩ := loop_inv I post (pre ++ [d]) S2 q4 fun pre1 d1 post1 e => hs pre1 d1 post1 (by rw [← e]; simp)
    refine ⟨S', ?_, by rw [← List.append_cons pre d post] at r2; exact r2⟩
    unfold loopD
    rw [if_pos trivial, q1]
    dsimp only
    rcases q2 with q2 | q2
    · rw [q2]
      dsimp only
      rw [q3]
      exact r1
    · rw [q2]
      dsimp only
      rw [q3]
      exact r1
/-- a loop that goes on or hands something back -/
theorem loop_ret {p : Pat} {body : MS} {dead : List Nat} {env : En} (I : List D → Store → Prop) (R : RS → Prop) : ∀ (post pre : List D) (S : Store), I pre S →
    (∀ pre1 d post1, pre ++ post = pre1 ++ d :: post1 → ∀ S, I pre1 S → ∃ e1, p d env = some e1 ∧ ((∃ e2 S2, (body e1 S = .next e2 S2 ∨ body e1 S = .cont e2 S2) ∧ clr e2 dead = env ∧ I (pre1 ++ [d]) S2) ∨ (∃ x S2, body e1 S = .ret x S2 ∧ R (.ret x S2)))) →
    (∃ S', loopD p body dead (fun _ => True) post env S = .next env S' ∧ I (pre ++ post) S') ∨ R (loopD p body dead (fun _ => True) post env S)
  | [], pre, S, h, _ => .inl ⟨S, by unfold loopD; rw [if_pos trivial], by rw [List.append_nil]; exact h⟩
  | d :: post, pre, S, h, hs => by
    obtain ⟨e1, q1, q⟩ := hs pre d post rfl S h
    rcases q with ⟨e2, S2, q2, q3, q4⟩ | ⟨x, S2, q2, q3⟩
    · have ih := loop_ret I R post (pre ++ [d]) S2 q4 fun pre1 d1 post1 e => hs pre1 d1 post1 (by rw [← e]; simp)
      have e : loopD p body dead (fun _ => True) (d :: post) env S = loopD p body dead (fun _ => True) post env S2 := by
        conv => lhs; unfold loopD
        rw [if_pos trivial, q1]
        dsimp only
        rcases q2 with q2 | q2
        · rw [q2]; dsimp only; rw [q3]
        · rw [q2]; dsimp only; rw [q3]
      rw [e]
      rcases ih with ⟨S', r1, r2⟩ | ih
      · exact .inl ⟨S', r1, by rw [← List.append_cons pre d post] at r2; exact r2⟩
      · exact .inr ih
    · refine .inr ?_
      have e : loopD p body dead (fun _ => True) (d :: post) env S = .ret x S2 := by
        conv => lhs; unfold loopD
        rw [if_pos trivial, q1]
        dsimp only
        rw [q2]
      rw [e]
      exact q3
/-! ### comprehensions -/
theorem cmp_map {p : Pat} {me : M D} {env : En} {S : Store} {α : Type} (g f : α → D) : ∀ l : List α, (∀ x ∈ l, ∃ e1, p (g x) env = some e1 ∧ me e1 S = .ok (f x) S) → compD p tYes' me (fun _ => True) env (l.map g) S = .ok (l.map f) S
  | [], _ => by rw [List.map_nil]; unfold compD; rw [if_pos trivial]; rfl
  | x :: l, h => by
    obtain ⟨e1, q1, q2⟩ := h x List.mem_cons_self
    rw [List.map_cons]
    unfold compD
    rw [if_pos trivial, q1]
    show (match me e1 S with | .ok x S2 => (compD p tYes' me (fun _ => True) env (l.map g) S2).bind fun xs S3 => Res.ok (x :: xs) S3 | _ => Res.bad) = _
    rw [q2]
    dsimp only
    rw [cmp_map g f l fun d' hd => h d' (List.mem_cons_of_mem _ hd)]
    rfl
theorem cmp_filter {p : Pat} {mt : M Bool} {me : M D} {env : En} {S : Store} {α : Type} (g : α → D) (t : α → Bool) (f : α → D) : ∀ l : List α, (∀ x ∈ l, ∃ e1, p (g x) env = some e1 ∧ mt e1 S = .ok (t x) S ∧ (t x = true → me e1 S = .ok (f x) S)) → compD p mt me (fun _ => True) env (l.map g) S = .ok ((l.filter t).map f) S
  | [], _ => by rw [List.map_nil]; unfold compD; rw [if_pos trivial]; rfl
  | x :: l, h => by
    obtain ⟨e1, q1, q2, q3⟩ := h x List.mem_cons_self
    rw [List.map_cons]
    unfold compD
    rw [if_pos trivial, q1]
    dsimp only
    rw [q2]
    have ih := cmp_filter g t f l fun d' hd => h d' (List.mem_cons_of_mem _ hd)
    cases ht : t x with
    | true =>
      dsimp only
      rw [q3 ht]
      dsimp only
      rw [ih, List.filter_cons_of_pos ht]
      rfl
    | false =>
      dsimp only
      rw [ih, List.filter_cons_of_neg (by rw [ht]; decide)]
/-- loops over mapped lists, the store a function of what is carried -/
theorem lp_fold {p : Pat} {body : MS} {dead : List Nat} {env : En} {α β : Type} (g : β → D) (st : α → Store) (step : α → β → α) (I : α → Prop) : ∀ (l : List β) (a : α), I a →
    (∀ x ∈ l, ∀ a, I a → I (step a x) ∧ ∃ e1 e2, p (g x) env = some e1 ∧ (body e1 (st a) = .next e2 (st (step a x)) ∨ body e1 (st a) = .cont e2 (st (step a x))) ∧ clr e2 dead = env) →
    loopD p body dead (fun _ => True) (l.map g) env (st a) = .next env (st (l.foldl step a)) ∧ I (l.foldl step a)
  | [], a, hI, _ => ⟨by rw [List.map_nil]; unfold loopD; rw [if_pos trivial]; rfl, hI⟩
  | x :: l, a, hI, h => by
    obtain ⟨hI2, e1, e2, q1, q2, q3⟩ := h x List.mem_cons_self a hI
    have ih := lp_fold g st step I l (step a x) hI2 fun d' hd => h d' (List.mem_cons_of_mem _ hd)
    refine ⟨?_, ih.2⟩
    rw [List.map_cons]
    unfold loopD
    rw [if_pos trivial, q1]
    dsimp only
    rcases q2 with q2 | q2
    · rw [q2]
      dsimp only
      rw [q3]
      exact ih.1
    · rw [q2]
      dsimp only
      rw [q3]
      exact ih.1
/-- what holds behind each turn, the items mapped -/
theorem lp_inv {p : Pat} {body : MS} {dead : List Nat} {env : En} {β : Type} (g : β → D) (I : List β → Store → Prop) : ∀ (post pre : List β) (S : Store), I pre S →
    (∀ pre1 x post1, pre ++ post = pre1 ++ x :: post1 → ∀ S, I pre1 S → ∃ e1 e2 S2, p (g x) env = some e1 ∧ (body e1 S = .next e2 S2 ∨ body e1 S = .cont e2 S2) ∧ clr e2 dead = env ∧ I (pre1 ++ [x]) S2) →
    ∃ S', loopD p body dead (fun _ => True) (post.map g) env S = .next env S' ∧ I (pre ++ post) S'
  | [], pre, S, h, _ => ⟨S, by rw [List.map_nil]; unfold loopD; rw [if_pos trivial], by rw [List.append_nil]; exact h⟩
  | d :: post, pre, S, h, hs => by
    obtain ⟨e1, e2, S2, q1, q2, q3, q4⟩ := hs pre d post rfl S h
    obtain ⟨S', r1, r2⟩ := lp_inv g I post (pre ++ [d]) S2 q4 fun pre1 d1 post1 e => hs pre1 d1 post1 (by rw [← e]; simp)
    refine ⟨S', ?_, by rw [← List.append_cons pre d post] at r2; exact r2⟩
    rw [List.map_cons]
    unfold loopD
    rw [if_pos trivial, q1]
    dsimp only
    rcases q2 with q2 | q2
    · rw [q2]
      dsimp only
      rw [q3]
      exact r1
    · rw [q2]
      dsimp only
      rw [q3]
      exact r1
theorem sortSet_of (xs : List PI2) (S : Store) (h1 : xs.length < 64) (h2 : xs.all inB = true) : fSortSet (.lst (xs.map pD)) S = .ok ((sortU xs).map pD) S := by
  unfold fSortSet
  dsimp only
  rw [prs_of]
  dsimp only
  rw [if_pos ⟨h1, h2⟩]
end Rf

namespace Law
open PySem PySem.Spec PyProof.Rows L2 Rf
/-! the text -/
def topS (i : Nat) : Stmt := PySem.Challenge.pw_leastcross_k03_pairs.main.body.getD i (.Pass ⟨0, 0, 0, 0⟩)
abbrev s_is_whole : Stmt := topS 6
theorem sc_is_whole : FnScope ["thing"] ["thing"] (defScope s_is_whole) := ⟨rfl, rfl, rfl, by decide +kernel, rfl, by decide +kernel, by decide +kernel⟩
abbrev s_tie_of : Stmt := topS 7
theorem sc_tie_of : FnScope ["thing", "n", "place"] ["thing", "n"] (defScope s_tie_of) := ⟨rfl, rfl, rfl, by decide +kernel, rfl, by decide +kernel, by decide +kernel⟩
abbrev s_web : Stmt := topS 8
theorem sc_web : FnScope ["n", "some", "ties", "one"] ["n", "some"] (defScope s_web) := ⟨rfl, rfl, rfl, by decide +kernel, rfl, by decide +kernel, by decide +kernel⟩
abbrev s_law_draw : Stmt := topS 14
theorem sc_law_draw : FnScope ["_law_feed_here", "_law_many", "_law_turn", "_law_digit", "_law_number"] ["_law_feed_here", "_law_many"] (defScope s_law_draw) := ⟨rfl, rfl, rfl, by decide +kernel, rfl, by decide +kernel, by decide +kernel⟩
abbrev s_law_web : Stmt := topS 15
theorem sc_law_web : FnScope ["_law_feed_here", "_law_n", "_law_some", "_law_k", "_law_one"] ["_law_feed_here"] (defScope s_law_web) := ⟨rfl, rfl, rfl, by decide +kernel, rfl, by decide +kernel, by decide +kernel⟩
abbrev s_meet : Stmt := topS 9
theorem sc_meet : FnScope ["one", "other"] ["one", "other"] (defScope s_meet) := ⟨rfl, rfl, rfl, by decide +kernel, rfl, by decide +kernel, by decide +kernel⟩
abbrev s_pairs : Stmt := topS 10
theorem sc_pairs : FnScope ["web_here", "ties", "found", "k", "one", "other"] ["web_here"] (defScope s_pairs) := ⟨rfl, rfl, rfl, by decide +kernel, rfl, by decide +kernel, by decide +kernel⟩
abbrev s_law_feed : Stmt := topS 13
theorem sc_law_feed : FnScope ["_law_cell"] ["_law_cell"] (defScope s_law_feed) := ⟨rfl, rfl, rfl, by decide +kernel, rfl, by decide +kernel, by decide +kernel⟩
abbrev s_by_turns : Stmt := topS 11
theorem sc_by_turns : FnScope ["one", "other"] ["one", "other"] (defScope s_by_turns) := ⟨rfl, rfl, rfl, by decide +kernel, rfl, by decide +kernel, by decide +kernel⟩
abbrev s_law_turns : Stmt := topS 16
theorem sc_law_turns : FnScope ["_law_one", "_law_other", "_law_four"] ["_law_one", "_law_other"] (defScope s_law_turns) := ⟨rfl, rfl, rfl, by decide +kernel, rfl, by decide +kernel, by decide +kernel⟩
abbrev s_law : Stmt := topS 17
theorem sc_law : FnScope ["_law_script", "_law_cell", "_law_here", "_law_found", "_law_due", "_law_one", "_law_other", "_law_turns_here"] ["_law_script"] (defScope s_law) := ⟨rfl, rfl, rfl, by decide +kernel, rfl, by decide +kernel, by decide +kernel⟩
/-! what the top has written -/
structure Top (P : Program) (w : World) (K : PySem.W.Frag) (mg : Str → Option Value) (base : Heap) where
  cA : Nat → Addr
  n_bool : mg "bool" = none
  n_enumerate : mg "enumerate" = none
  n_int : mg "int" = none
  n_isinstance : mg "isinstance" = none
  n_len : mg "len" = none
  n_max : mg "max" = none
  n_min : mg "min" = none
  n_range : mg "range" = none
  n_set : mg "set" = none
  n_sorted : mg "sorted" = none
  n_tuple : mg "tuple" = none
  t_MOST_PLACES : Tok
  c_MOST_PLACES : mg "MOST_PLACES" = some (.int 10 t_MOST_PLACES)
  t_MOST_TIES : Tok
  c_MOST_TIES : mg "MOST_TIES" = some (.int 18 t_MOST_TIES)
  a_is_whole : Addr
  fd_is_whole : FuncData
  F_is_whole : Fun K "is_whole" "is_whole" s_is_whole a_is_whole fd_is_whole
  g_is_whole : mg "is_whole" = some (.ref a_is_whole)
  b_is_whole : Binds K fd_is_whole ["thing"] []
  a_tie_of : Addr
  fd_tie_of : FuncData
  F_tie_of : Fun K "tie_of" "tie_of" s_tie_of a_tie_of fd_tie_of
  g_tie_of : mg "tie_of" = some (.ref a_tie_of)
  b_tie_of : Binds K fd_tie_of ["thing", "n"] []
  a_web : Addr
  fd_web : FuncData
  F_web : Fun K "web" "web" s_web a_web fd_web
  g_web : mg "web" = some (.ref a_web)
  b_web : Binds K fd_web ["n", "some"] []
  a_law_draw : Addr
  fd_law_draw : FuncData
  F_law_draw : Fun K "_law_draw" "_law_draw" s_law_draw a_law_draw fd_law_draw
  g_law_draw : mg "_law_draw" = some (.ref a_law_draw)
  b_law_draw : Binds K fd_law_draw ["_law_feed_here", "_law_many"] []
  a_law_web : Addr
  fd_law_web : FuncData
  F_law_web : Fun K "_law_web" "_law_web" s_law_web a_law_web fd_law_web
  g_law_web : mg "_law_web" = some (.ref a_law_web)
  b_law_web : Binds K fd_law_web ["_law_feed_here"] []
  a_meet : Addr
  fd_meet : FuncData
  F_meet : Fun K "meet" "meet" s_meet a_meet fd_meet
  g_meet : mg "meet" = some (.ref a_meet)
  b_meet : Binds K fd_meet ["one", "other"] []
  a_pairs : Addr
  fd_pairs : FuncData
  F_pairs : Fun K "pairs" "pairs" s_pairs a_pairs fd_pairs
  g_pairs : mg "pairs" = some (.ref a_pairs)
  b_pairs : Binds K fd_pairs ["web_here"] []
  a_law_feed : Addr
  fd_law_feed : FuncData
  F_law_feed : Fun K "_law_feed" "_law_feed" s_law_feed a_law_feed fd_law_feed
  g_law_feed : mg "_law_feed" = some (.ref a_law_feed)
  b_law_feed : Binds K fd_law_feed ["_law_cell"] []
  a_by_turns : Addr
  fd_by_turns : FuncData
  F_by_turns : Fun K "by_turns" "by_turns" s_by_turns a_by_turns fd_by_turns
  g_by_turns : mg "by_turns" = some (.ref a_by_turns)
  b_by_turns : Binds K fd_by_turns ["one", "other"] []
  a_law_turns : Addr
  fd_law_turns : FuncData
  F_law_turns : Fun K "_law_turns" "_law_turns" s_law_turns a_law_turns fd_law_turns
  g_law_turns : mg "_law_turns" = some (.ref a_law_turns)
  b_law_turns : Binds K fd_law_turns ["_law_one", "_law_other"] []
  a_law : Addr
  fd_law : FuncData
  F_law : Fun K "law" "law" s_law a_law fd_law
  g_law : mg "law" = some (.ref a_law)
  b_law : Binds K fd_law ["_law_script"] []
/-! mirrors -/
/- slots of is_whole: 0 thing -/
noncomputable def c_is_whole : MS := (sRet (eAnd (eB dIsi (aCons (eVar 0) (aCons (eC (.ty "int")) aNil))) (eNot (eB dIsi (aCons (eVar 0) (aCons (eC (.ty "bool")) aNil))))))
noncomputable def m_is_whole : List D → Store → Res D := runFn .val 1 c_is_whole
/- slots of tie_of: 0 thing, 1 n, 2 place -/
noncomputable def c_tie_of_b1 : MS := (sIf (tOr' (tNot' (tst (eCall 1 m_is_whole (aCons (eVar 2) aNil)))) (tOr' (tst (e2 dLt (eVar 2) (eC (.int 0)))) (tst (e2 dGe (eVar 2) (eVar 1))))) sBad sNil)
noncomputable def c_tie_of : MS := (sSeq (sIf (tOr' (tNot' (tst (eB dIsi (aCons (eVar 0) (aCons (eC (.ty "tuple")) aNil))))) (tst (e2 dNe (eB dLen (aCons (eVar 0) aNil)) (eC (.int 2))))) sBad sNil) (sSeq (sFor (iSeq (eVar 0)) (pName 2) c_tie_of_b1 [2]) (sSeq (sIf (tst (e2 dEq (e2 dIx (eVar 0) (eC (.int 0))) (e2 dIx (eVar 0) (eC (.int 1))))) sBad sNil) (sRet (eTup (aCons (eB (dMin2 false) (aCons (eVar 0) aNil)) (aCons (eB (dMin2 true) (aCons (eVar 0) aNil)) aNil)))))))
noncomputable def m_tie_of : List D → Store → Res D := runFn .val 3 c_tie_of
/- slots of web: 0 n, 1 some, 2 ties, 3 one -/
noncomputable def c_web : MS := (sSeq (sIf (tOr' (tNot' (tst (eCall 1 m_is_whole (aCons (eVar 0) aNil)))) (tOr' (tst (e2 dLt (eVar 0) (eC (.int 1)))) (tst (e2 dGt (eVar 0) (eC (.int 10)))))) sBad sNil) (sSeq (sIf (tNot' (tst (eB dIsi (aCons (eVar 1) (aCons (eC (.ty "tuple")) aNil))))) sBad sNil) (sSeq (sAsg (fz (fun env S => ((fz (fComp (iSeq (eVar 1)) (pName 3) tYes' (eCall 2 m_tie_of (aCons (eVar 3) (aCons (eVar 0) aNil))) [3])) env S).bind fun d S1 => fSortSet d S1)) (pName 2)) (sSeq (sIf (tst (e2 dGt (eB dLen (aCons (eVar 2) aNil)) (eC (.int 18)))) sBad sNil) (sRet (eTup (aCons (eVar 0) (aCons (eB dTuple (aCons (eVar 2) aNil)) aNil))))))))
noncomputable def m_web : List D → Store → Res D := runFn .val 4 c_web
/- slots of _law_draw: 0 _law_feed_here, 1 _law_many, 2 _law_turn, 3 _law_digit, 4 _law_number -/
noncomputable def c_law_draw : MS := (sSeq (sAsg (e2 dAdd (e2 dIx (eVar 0) (eC (.int 1))) (eC (.int 1))) (pName 2)) (sSeq (sSet (eVar 2) (eVar 0) (eC (.int 1)) dSetL) (sSeq (sCl [3] (sIf (tAnd' (tst (e2 dEq (e2 dIx (eVar 0) (eC (.int 2))) (eC (.int 1)))) (tst (e2 dGt (e2 dIx (eVar 0) (eC (.int 0))) (eC (.int 0))))) (sSeq (sAsg (e2 dMod (e2 dIx (eVar 0) (eC (.int 0))) (eVar 1)) (pName 3)) (sSeq (sSet (e2 dFdiv (e2 dIx (eVar 0) (eC (.int 0))) (eVar 1)) (eVar 0) (eC (.int 0)) dSetL) (sRet (eVar 3)))) sNil)) (sSeq (sAsg (e2 dAdd (e2 dAdd (e2 dMod (e2 dIx (eVar 0) (eC (.int 0))) (e2 dPow (eC (.int 10)) (eC (.int 18)))) (e2 dMulI (e2 dMulI (eC (.int 7919)) (eVar 2)) (eVar 2))) (eVar 2)) (pName 4)) (sSeq (sAsg (e2 dAdd (e2 dMulI (e2 dMod (e2 dMulI (eVar 4) (eC (.int 48271))) (eC (.int 2305843009213693951))) (eC (.int 1442695040888963407))) (eC (.int 4321))) (pName 4)) (sRet (e2 dMod (e2 dFdiv (e2 dMod (eVar 4) (eC (.int 2305843009213693921))) (eC (.int 16))) (eVar 1))))))))
noncomputable def m_law_draw : List D → Store → Res D := runFn .val 5 c_law_draw
/- slots of _law_web: 0 _law_feed_here, 1 _law_n, 2 _law_some, 3 _law_k, 4 _law_one -/
noncomputable def c_law_web_b1 : MS := (sSeq (sAsg (eCall 2 m_law_draw (aCons (eVar 0) (aCons (eVar 1) aNil))) (pName 4)) (sExpr (eMt dAppend isLst (eVar 2) (aCons (eTup (aCons (eVar 4) (aCons (e2 dMod (e2 dAdd (e2 dAdd (eVar 4) (eC (.int 1))) (eCall 2 m_law_draw (aCons (eVar 0) (aCons (e2 dSub (eVar 1) (eC (.int 1))) aNil)))) (eVar 1)) aNil))) aNil))))
noncomputable def c_law_web : MS := (sSeq (sAsg (e2 dAdd (eC (.int 1)) (eCall 2 m_law_draw (aCons (eVar 0) (aCons (eC (.int 10)) aNil)))) (pName 1)) (sSeq (sAsg (cel (fLst aNil)) (pName 2)) (sSeq (sFor (iR1 (aCons (e2 dMulI (eCall 2 m_law_draw (aCons (eVar 0) (aCons (eC (.int 19)) aNil))) (eB dInt (aCons (e2 dGt (eVar 1) (eC (.int 1))) aNil))) aNil)) (pName 3) c_law_web_b1 [3, 4]) (sRet (eCall 2 m_web (aCons (eVar 1) (aCons (eB dTuple (aCons (eVar 2) aNil)) aNil)))))))
noncomputable def m_law_web : List D → Store → Res D := runFn .val 5 c_law_web
/- slots of meet: 0 one, 1 other -/
noncomputable def c_meet : MS := (sRet (eOr (e2 (dInG false) (e2 dIx (eVar 0) (eC (.int 0))) (eVar 1)) (e2 (dInG false) (e2 dIx (eVar 0) (eC (.int 1))) (eVar 1))))
noncomputable def m_meet : List D → Store → Res D := runFn .val 2 c_meet
/- slots of pairs: 0 web_here, 1 ties, 2 found, 3 k, 4 one, 5 other -/
noncomputable def c_pairs_b1 : MS := (sIf (tNot' (tst (eCall 2 m_meet (aCons (eVar 4) (aCons (eVar 5) aNil))))) (sExpr (eMt dAppend isLst (eVar 2) (aCons (eTup (aCons (eVar 4) (aCons (eVar 5) aNil))) aNil))) sNil)
noncomputable def c_pairs_b2 : MS := (sFor (iSeq (eSl dSl (eVar 1) (oSome (e2 dAdd (eVar 3) (eC (.int 1)))) oNone)) (pName 5) c_pairs_b1 [5])
noncomputable def c_pairs : MS := (sSeq (sAsg (e2 dIx (eVar 0) (eC (.int 1))) (pName 1)) (sSeq (sAsg (cel (fLst aNil)) (pName 2)) (sSeq (sFor (iEnumM (aCons (eVar 1) aNil)) (pTup 2 (pCons (pName 3) (pCons (pName 4) pNil))) c_pairs_b2 [3, 4, 5]) (sRet (eB dTuple (aCons (eVar 2) aNil))))))
noncomputable def m_pairs : List D → Store → Res D := runFn .val 6 c_pairs
/- slots of _law_feed: 0 _law_cell -/
noncomputable def c_law_feed : MS := (sRet (cel (fLst (aCons (eVar 0) (aCons (eC (.int 0)) (aCons (eB dInt (aCons (e2 dGe (eVar 0) (e2 dPow (eC (.int 10)) (eC (.int 18)))) aNil)) aNil))))))
noncomputable def m_law_feed : List D → Store → Res D := runFn .own 1 c_law_feed
/- slots of by_turns: 0 one, 1 other -/
noncomputable def c_by_turns : MS := (sSeq (sIf (tst (e2 dLt (e2 dIx (eVar 1) (eC (.int 0))) (e2 dIx (eVar 0) (eC (.int 0))))) (sPar 0 1 (aCons (eVar 1) (aCons (eVar 0) aNil))) sNil) (sRet (eChain3 dLt dLt dLt (e2 dIx (eVar 0) (eC (.int 0))) (e2 dIx (eVar 1) (eC (.int 0))) (e2 dIx (eVar 0) (eC (.int 1))) (e2 dIx (eVar 1) (eC (.int 1))))))
noncomputable def m_by_turns : List D → Store → Res D := runFn .val 2 c_by_turns
/- slots of _law_turns: 0 _law_one, 1 _law_other, 2 _law_four -/
noncomputable def c_law_turns : MS := (sSeq (sAsg (fz (eB fSorted (aCons (e2 dAdd (eVar 0) (eVar 1)) aNil))) (pName 2)) (sSeq (sIf (tst (e2 dLt (e1 dLenSet (eVar 2)) (eC (.int 4)))) (sRet (eC (.bl false))) sNil) (sRet (e2 (dInG false) (eTup (aCons (e2 dIx (eVar 2) (eC (.int 0))) (aCons (e2 dIx (eVar 2) (eC (.int 2))) aNil))) (eTup (aCons (eVar 0) (aCons (eVar 1) aNil)))))))
noncomputable def m_law_turns : List D → Store → Res D := runFn .val 3 c_law_turns
/- slots of law: 0 _law_script, 1 _law_cell, 2 _law_here, 3 _law_found, 4 _law_due, 5 _law_one, 6 _law_other, 7 _law_turns_here -/
noncomputable def c_law_b1 : MS := (sSeq (sAsg (eCall 2 m_by_turns (aCons (eVar 5) (aCons (eVar 6) aNil))) (pName 7)) (sSeq (sIf (tOr' (tNot' (tst (eB dIsi (aCons (eVar 7) (aCons (eC (.ty "bool")) aNil))))) (tst (e2 dNe (eVar 7) (eCall 2 m_law_turns (aCons (eVar 5) (aCons (eVar 6) aNil)))))) (sRet (eC (.bl false))) sNil) (sIf (tAnd' (tst (e2 dLt (eVar 5) (eVar 6))) (tst (e2 dEq (e1 dLenSet (e2 dAdd (eVar 5) (eVar 6))) (eC (.int 4))))) (sExpr (eMt dAppend isLst (eVar 4) (aCons (eTup (aCons (eVar 5) (aCons (eVar 6) aNil))) aNil))) sNil)))
noncomputable def c_law_b2 : MS := (sFor (iSeq (e2 dIx (eVar 2) (eC (.int 1)))) (pName 6) c_law_b1 [6, 7])
noncomputable def c_law_b3 : MS := (sSeq (sAsg (eCall 1 m_law_web (aCons (eCall 1 m_law_feed (aCons (eVar 1) aNil)) aNil)) (pName 2)) (sSeq (sAsg (eCall 1 m_pairs (aCons (eVar 2) aNil)) (pName 3)) (sSeq (sAsg (cel (fLst aNil)) (pName 4)) (sSeq (sFor (iSeq (e2 dIx (eVar 2) (eC (.int 1)))) (pName 5) c_law_b2 [5, 6, 7]) (sIf (tOr' (tNot' (tst (eB dIsi (aCons (eVar 3) (aCons (eC (.ty "tuple")) aNil))))) (tOr' (tst (e2 dNe (eVar 3) (eB dTuple (aCons (eVar 4) aNil)))) (tst (e2 dNe (eVar 3) (eB dTuple (aCons (fz (eB fSorted (aCons (eVar 4) aNil))) aNil)))))) (sRet (eC (.bl false))) sNil)))))
noncomputable def c_law : MS := (sSeq (sFor (iSeq (eSl dSl (eVar 0) oNone (oSome (eC (.int 12))))) (pName 1) c_law_b3 [1, 2, 3, 4, 5, 6, 7]) (sRet (eC (.bl true))))
noncomputable def m_law : List D → Store → Res D := runFn .val 8 c_law
section
variable {P : Program} {w : World} {K : PySem.W.Frag} {mg : Str → Option Value} {base : Heap}
theorem ok_is_whole (T : Top P w K mg base) : FnOk P w K mg base (L2.CX P w) 1 T.a_is_whole T.fd_is_whole ["thing"] (spF K T.cA 1 m_is_whole) :=
  fn_ok T.F_is_whole sc_is_whole fun cdv A outer s H E hr => by
    have nd := sc_is_whole.nd
    have tk : Takes (cxOf (L2.CX P w) P w K mg base ["thing"] "is_whole" (defScope s_is_whole) T.a_is_whole cdv A outer s H E) (WF E) := takes_of rfl rfl rfl rfl
    have hp : PassesOwn (model P w) (cxOf (L2.CX P w) P w K mg base ["thing"] "is_whole" (defScope s_is_whole) T.a_is_whole cdv A outer s H E).A (cxOf (L2.CX P w) P w K mg base ["thing"] "is_whole" (defScope s_is_whole) T.a_is_whole cdv A outer s H E).env (cxOf (L2.CX P w) P w K mg base ["thing"] "is_whole" (defScope s_is_whole) T.a_is_whole cdv A outer s H E).xe := passes_of rfl
    exact (js_one (js_ret (je_and (je_B call_isi cd_isi rfl T.n_isinstance (by decide +kernel) (ja_cons (je_var 0) (ja_cons (je_ty rfl T.n_int (by decide +kernel)) ja_nil))) (je_one (je_not (je_B call_isi cd_isi rfl T.n_isinstance (by decide +kernel) (ja_cons (je_var 0) (ja_cons (je_ty rfl T.n_bool (by decide +kernel)) ja_nil))))))))
theorem ok_tie_of (T : Top P w K mg base) : FnOk P w K mg base (L2.CX P w) 2 T.a_tie_of T.fd_tie_of ["thing", "n"] (spF K T.cA 2 m_tie_of) :=
  fn_ok T.F_tie_of sc_tie_of fun cdv A outer s H E hr => by
    have nd := sc_tie_of.nd
    have tk : Takes (cxOf (L2.CX P w) P w K mg base ["thing", "n", "place"] "tie_of" (defScope s_tie_of) T.a_tie_of cdv A outer s H E) (WF E) := takes_of rfl rfl rfl rfl
    have hp : PassesOwn (model P w) (cxOf (L2.CX P w) P w K mg base ["thing", "n", "place"] "tie_of" (defScope s_tie_of) T.a_tie_of cdv A outer s H E).A (cxOf (L2.CX P w) P w K mg base ["thing", "n", "place"] "tie_of" (defScope s_tie_of) T.a_tie_of cdv A outer s H E).env (cxOf (L2.CX P w) P w K mg base ["thing", "n", "place"] "tie_of" (defScope s_tie_of) T.a_tie_of cdv A outer s H E).xe := passes_of rfl
    exact (js_cons (js_if (PW.pt (jw_or (jt_not (jt_val (je_B call_isi cd_isi rfl T.n_isinstance (by decide +kernel) (ja_cons (je_var 0) (ja_cons (je_ty rfl T.n_tuple (by decide +kernel)) ja_nil))))) (jw_or1 (jt_cmp (op_neD hr.units) od_ne (je_B call_len_seq cd_len rfl T.n_len (by decide +kernel) (ja_cons (je_var 0) ja_nil)) je_int (nomark _))))) (js_one js_bad) js_nil)
      (js_cons (js_for [2] hp rfl (ji_seq (je_var 0)) (jg_name 2 nd)
      (js_one (js_if (PW.pt (jw_or (jt_not (jt_val (je_call (ok_is_whole T) (hr.mono (by decide)) rfl T.g_is_whole T.F_is_whole.kp T.b_is_whole tk (ja_cons (je_var 2) ja_nil)))) (jw_or (jt_cmp (op_lt2 hr.units0) od_lt (je_var 2) je_int (nomark _)) (jw_or1 (jt_cmp op_ge od_ge (je_var 2) (je_var 1) (nomark _)))))) (js_one js_bad) js_nil)))
      (js_cons (js_if (jt_cmp (op_eqD hr.units) od_eq (je_ix (je_var 0) je_int) (je_ix (je_var 0) je_int) (nomark _)) (js_one js_bad) js_nil)
      (js_one (js_ret (je_tup (ja_cons (je_B (cr_mm (mx := false) rfl hr.units) cd_mm rfl T.n_min (by decide +kernel) (ja_cons (je_var 0) ja_nil)) (ja_cons (je_B (cr_mm (mx := true) rfl hr.units) cd_mm rfl T.n_max (by decide +kernel) (ja_cons (je_var 0) ja_nil)) ja_nil))))))))
theorem ok_web (T : Top P w K mg base) : FnOk P w K mg base (L2.CX P w) 3 T.a_web T.fd_web ["n", "some"] (spF K T.cA 2 m_web) :=
  fn_ok T.F_web sc_web fun cdv A outer s H E hr => by
    have nd := sc_web.nd
    have tk : Takes (cxOf (L2.CX P w) P w K mg base ["n", "some", "ties", "one"] "web" (defScope s_web) T.a_web cdv A outer s H E) (WF E) := takes_of rfl rfl rfl rfl
    have hp : PassesOwn (model P w) (cxOf (L2.CX P w) P w K mg base ["n", "some", "ties", "one"] "web" (defScope s_web) T.a_web cdv A outer s H E).A (cxOf (L2.CX P w) P w K mg base ["n", "some", "ties", "one"] "web" (defScope s_web) T.a_web cdv A outer s H E).env (cxOf (L2.CX P w) P w K mg base ["n", "some", "ties", "one"] "web" (defScope s_web) T.a_web cdv A outer s H E).xe := passes_of rfl
    exact (js_cons (js_if (PW.pt (jw_or (jt_not (jt_val (je_call (ok_is_whole T) (hr.mono (by decide)) rfl T.g_is_whole T.F_is_whole.kp T.b_is_whole tk (ja_cons (je_var 0) ja_nil)))) (jw_or (jt_cmp (op_lt2 hr.units0) od_lt (je_var 0) je_int (nomark _)) (jw_or1 (jt_cmp op_gt od_gt (je_var 0) (je_gint rfl T.c_MOST_PLACES) (nomark _)))))) (js_one js_bad) js_nil)
      (js_cons (js_if (jt_not (jt_val (je_B call_isi cd_isi rfl T.n_isinstance (by decide +kernel) (ja_cons (je_var 1) (ja_cons (je_ty rfl T.n_tuple (by decide +kernel)) ja_nil))))) (js_one js_bad) js_nil)
      (js_cons (js_set 2 nd (je_fz (jf_sortSet rfl hr.units rfl T.n_sorted rfl T.n_set (je_fz (jf_lc [("one", 3)] rfl nd (ji_seq (je_var 1)) (blkOk_by (N := ["n", "some", "ties", "one"]) (sc := defScope s_web) (own := [("one", 3)]) (by decide +kernel)) (fun _ _ _ _ _ => (jgo_name 3 nd)) (fun _ _ _ _ _ => jts_nil) (fun _ _ _ _ _ => (je_call (ok_tie_of T) (hr.mono (by decide)) rfl T.g_tie_of T.F_tie_of.kp T.b_tie_of takes0 (ja_cons (je_var 3) (ja_cons (je_var 0) ja_nil)))))))))
      (js_cons (js_if (jt_cmp op_gt od_gt (je_B call_len_seq cd_len rfl T.n_len (by decide +kernel) (ja_cons (je_var 2) ja_nil)) (je_gint rfl T.c_MOST_TIES) (nomark _)) (js_one js_bad) js_nil)
      (js_one (js_ret (je_tup (ja_cons (je_var 0) (ja_cons (je_Ty call_tuple_of cd_tuple rfl T.n_tuple (by decide +kernel) (ja_cons (je_var 2) ja_nil)) ja_nil)))))))))
theorem ok_law_draw (T : Top P w K mg base) : FnOk P w K mg base (L2.CX P w) 1 T.a_law_draw T.fd_law_draw ["_law_feed_here", "_law_many"] (spF K T.cA 2 m_law_draw) :=
  fn_ok T.F_law_draw sc_law_draw fun cdv A outer s H E hr => by
    have nd := sc_law_draw.nd
    have tk : Takes (cxOf (L2.CX P w) P w K mg base ["_law_feed_here", "_law_many", "_law_turn", "_law_digit", "_law_number"] "_law_draw" (defScope s_law_draw) T.a_law_draw cdv A outer s H E) (WF E) := takes_of rfl rfl rfl rfl
    have hp : PassesOwn (model P w) (cxOf (L2.CX P w) P w K mg base ["_law_feed_here", "_law_many", "_law_turn", "_law_digit", "_law_number"] "_law_draw" (defScope s_law_draw) T.a_law_draw cdv A outer s H E).A (cxOf (L2.CX P w) P w K mg base ["_law_feed_here", "_law_many", "_law_turn", "_law_digit", "_law_number"] "_law_draw" (defScope s_law_draw) T.a_law_draw cdv A outer s H E).env (cxOf (L2.CX P w) P w K mg base ["_law_feed_here", "_law_many", "_law_turn", "_law_digit", "_law_number"] "_law_draw" (defScope s_law_draw) T.a_law_draw cdv A outer s H E).xe := passes_of rfl
    exact (js_cons (js_set 2 nd (je_op op_add3 od_add (je_ix (je_var 0) je_int) je_int))
      (js_cons (js_sub (je_var 2) (je_var 0) je_int set_list sd_setL)
      (js_cons (js_cl [3] (js_if (PW.pt (jw_and (jt_cmp (op_eqD hr.units) od_eq (je_ix (je_var 0) je_int) je_int (nomark _)) (jw_and1 (jt_cmp op_gt od_gt (je_ix (je_var 0) je_int) je_int (nomark _))))) (js_cons (js_set 3 nd (je_op op_mod od_mod (je_ix (je_var 0) je_int) (je_var 1)))
      (js_cons (js_sub (je_op op_fdiv od_fdiv (je_ix (je_var 0) je_int) (je_var 1)) (je_var 0) je_int set_list sd_setL)
      (js_one (js_ret (je_var 3))))) js_nil))
      (js_cons (js_set 4 nd (je_op op_add3 od_add (je_op op_add3 od_add (je_op op_mod od_mod (je_ix (je_var 0) je_int) (je_op op_pow od_pow je_int je_int)) (je_op op_mul od_mulI (je_op op_mul od_mulI je_int (je_var 2)) (je_var 2))) (je_var 2)))
      (js_cons (js_set 4 nd (je_op op_add3 od_add (je_op op_mul od_mulI (je_op op_mod od_mod (je_op op_mul od_mulI (je_var 4) je_int) je_int) je_int) je_int))
      (js_one (js_ret (je_op op_mod od_mod (je_op op_fdiv od_fdiv (je_op op_mod od_mod (je_var 4) je_int) je_int) (je_var 1)))))))))
theorem ok_law_web (T : Top P w K mg base) : FnOk P w K mg base (L2.CX P w) 4 T.a_law_web T.fd_law_web ["_law_feed_here"] (spF K T.cA 1 m_law_web) :=
  fn_ok T.F_law_web sc_law_web fun cdv A outer s H E hr => by
    have nd := sc_law_web.nd
    have tk : Takes (cxOf (L2.CX P w) P w K mg base ["_law_feed_here", "_law_n", "_law_some", "_law_k", "_law_one"] "_law_web" (defScope s_law_web) T.a_law_web cdv A outer s H E) (WF E) := takes_of rfl rfl rfl rfl
    have hp : PassesOwn (model P w) (cxOf (L2.CX P w) P w K mg base ["_law_feed_here", "_law_n", "_law_some", "_law_k", "_law_one"] "_law_web" (defScope s_law_web) T.a_law_web cdv A outer s H E).A (cxOf (L2.CX P w) P w K mg base ["_law_feed_here", "_law_n", "_law_some", "_law_k", "_law_one"] "_law_web" (defScope s_law_web) T.a_law_web cdv A outer s H E).env (cxOf (L2.CX P w) P w K mg base ["_law_feed_here", "_law_n", "_law_some", "_law_k", "_law_one"] "_law_web" (defScope s_law_web) T.a_law_web cdv A outer s H E).xe := passes_of rfl
    exact (js_cons (js_set 1 nd (je_op op_add3 od_add je_int (je_call (ok_law_draw T) (hr.mono (by decide)) rfl T.g_law_draw T.F_law_draw.kp T.b_law_draw tk (ja_cons (je_var 0) (ja_cons je_int ja_nil)))))
      (js_cons (js_set 2 nd (je_cel (jf_lst ja_nil)))
      (js_cons (js_for [3, 4] hp rfl (ji_range1 rfl T.n_range (ja_cons (je_op op_mul od_mulI (je_call (ok_law_draw T) (hr.mono (by decide)) rfl T.g_law_draw T.F_law_draw.kp T.b_law_draw tk (ja_cons (je_var 0) (ja_cons je_int ja_nil))) (je_Ty call_int1 cd_int rfl T.n_int (by decide +kernel) (ja_cons (je_cmp op_gt od_gt (je_var 1) je_int (nomark _)) ja_nil))) ja_nil)) (jg_name 3 nd)
      (js_cons (js_set 4 nd (je_call (ok_law_draw T) (hr.mono (by decide)) rfl T.g_law_draw T.F_law_draw.kp T.b_law_draw tk (ja_cons (je_var 0) (ja_cons (je_var 1) ja_nil))))
      (js_one (js_expr (je_mt tyd_list md_append (pe_bm PySem.F.plainAttrs_list PySem.F.slot_list_append PySem.F.type_list_append mt_append (je_var 2) (ja_cons (je_tup (ja_cons (je_var 4) (ja_cons (je_op op_mod od_mod (je_op op_add3 od_add (je_op op_add3 od_add (je_var 4) je_int) (je_call (ok_law_draw T) (hr.mono (by decide)) rfl T.g_law_draw T.F_law_draw.kp T.b_law_draw tk (ja_cons (je_var 0) (ja_cons (je_op op_sub od_sub (je_var 1) je_int) ja_nil)))) (je_var 1)) ja_nil))) ja_nil)))))))
      (js_one (js_ret (je_call (ok_web T) (hr.mono (by decide)) rfl T.g_web T.F_web.kp T.b_web tk (ja_cons (je_var 1) (ja_cons (je_Ty call_tuple_of cd_tuple rfl T.n_tuple (by decide +kernel) (ja_cons (je_var 2) ja_nil)) ja_nil))))))))
theorem ok_meet (T : Top P w K mg base) : FnOk P w K mg base (L2.CX P w) 1 T.a_meet T.fd_meet ["one", "other"] (spF K T.cA 2 m_meet) :=
  fn_ok T.F_meet sc_meet fun cdv A outer s H E hr => by
    have nd := sc_meet.nd
    have tk : Takes (cxOf (L2.CX P w) P w K mg base ["one", "other"] "meet" (defScope s_meet) T.a_meet cdv A outer s H E) (WF E) := takes_of rfl rfl rfl rfl
    have hp : PassesOwn (model P w) (cxOf (L2.CX P w) P w K mg base ["one", "other"] "meet" (defScope s_meet) T.a_meet cdv A outer s H E).A (cxOf (L2.CX P w) P w K mg base ["one", "other"] "meet" (defScope s_meet) T.a_meet cdv A outer s H E).env (cxOf (L2.CX P w) P w K mg base ["one", "other"] "meet" (defScope s_meet) T.a_meet cdv A outer s H E).xe := passes_of rfl
    exact (js_one (js_ret (je_or (je_cmp (op_inU (hu65 hr)) od_in (je_ix (je_var 0) je_int) (je_var 1) (by rfl)) (je_one (je_cmp (op_inU (hu65 hr)) od_in (je_ix (je_var 0) je_int) (je_var 1) (by rfl))))))
theorem ok_pairs (T : Top P w K mg base) : FnOk P w K mg base (L2.CX P w) 2 T.a_pairs T.fd_pairs ["web_here"] (spF K T.cA 1 m_pairs) :=
  fn_ok T.F_pairs sc_pairs fun cdv A outer s H E hr => by
    have nd := sc_pairs.nd
    have tk : Takes (cxOf (L2.CX P w) P w K mg base ["web_here", "ties", "found", "k", "one", "other"] "pairs" (defScope s_pairs) T.a_pairs cdv A outer s H E) (WF E) := takes_of rfl rfl rfl rfl
    have hp : PassesOwn (model P w) (cxOf (L2.CX P w) P w K mg base ["web_here", "ties", "found", "k", "one", "other"] "pairs" (defScope s_pairs) T.a_pairs cdv A outer s H E).A (cxOf (L2.CX P w) P w K mg base ["web_here", "ties", "found", "k", "one", "other"] "pairs" (defScope s_pairs) T.a_pairs cdv A outer s H E).env (cxOf (L2.CX P w) P w K mg base ["web_here", "ties", "found", "k", "one", "other"] "pairs" (defScope s_pairs) T.a_pairs cdv A outer s H E).xe := passes_of rfl
    exact (js_cons (js_set 1 nd (je_ix (je_var 0) je_int))
      (js_cons (js_set 2 nd (je_cel (jf_lst ja_nil)))
      (js_cons (js_for [3, 4, 5] hp rfl (ji_enum rfl T.n_enumerate (ja_cons (je_var 1) ja_nil)) (jg_tup rfl (jgs_cons (jg_name 3 nd) (jgs_cons (jg_name 4 nd) jgs_nil)))
      (js_one (js_for [5] hp rfl (ji_seq (je_sl (je_var 1) (jo_some (je_op op_add3 od_add (je_var 3) je_int)) jo_none)) (jg_name 5 nd)
      (js_one (js_if (jt_not (jt_val (je_call (ok_meet T) (hr.mono (by decide)) rfl T.g_meet T.F_meet.kp T.b_meet tk (ja_cons (je_var 4) (ja_cons (je_var 5) ja_nil))))) (js_one (js_expr (je_mt tyd_list md_append (pe_bm PySem.F.plainAttrs_list PySem.F.slot_list_append PySem.F.type_list_append mt_append (je_var 2) (ja_cons (je_tup (ja_cons (je_var 4) (ja_cons (je_var 5) ja_nil))) ja_nil))))) js_nil)))))
      (js_one (js_ret (je_Ty call_tuple_of cd_tuple rfl T.n_tuple (by decide +kernel) (ja_cons (je_var 2) ja_nil)))))))
theorem ok_law_feed (T : Top P w K mg base) : FnOk P w K mg base (L2.CX P w) 1 T.a_law_feed T.fd_law_feed ["_law_cell"] (spF K T.cA 1 m_law_feed) :=
  fn_ok T.F_law_feed sc_law_feed fun cdv A outer s H E hr => by
    have nd := sc_law_feed.nd
    have tk : Takes (cxOf (L2.CX P w) P w K mg base ["_law_cell"] "_law_feed" (defScope s_law_feed) T.a_law_feed cdv A outer s H E) (WF E) := takes_of rfl rfl rfl rfl
    have hp : PassesOwn (model P w) (cxOf (L2.CX P w) P w K mg base ["_law_cell"] "_law_feed" (defScope s_law_feed) T.a_law_feed cdv A outer s H E).A (cxOf (L2.CX P w) P w K mg base ["_law_cell"] "_law_feed" (defScope s_law_feed) T.a_law_feed cdv A outer s H E).env (cxOf (L2.CX P w) P w K mg base ["_law_cell"] "_law_feed" (defScope s_law_feed) T.a_law_feed cdv A outer s H E).xe := passes_of rfl
    exact (js_one (js_ret (je_cel (jf_lst (ja_cons (je_var 0) (ja_cons je_int (ja_cons (je_Ty call_int1 cd_int rfl T.n_int (by decide +kernel) (ja_cons (je_cmp op_ge od_ge (je_var 0) (je_op op_pow od_pow je_int je_int) (nomark _)) ja_nil)) ja_nil)))))))
theorem ok_by_turns (T : Top P w K mg base) : FnOk P w K mg base (L2.CX P w) 1 T.a_by_turns T.fd_by_turns ["one", "other"] (spF K T.cA 2 m_by_turns) :=
  fn_ok T.F_by_turns sc_by_turns fun cdv A outer s H E hr => by
    have nd := sc_by_turns.nd
    have tk : Takes (cxOf (L2.CX P w) P w K mg base ["one", "other"] "by_turns" (defScope s_by_turns) T.a_by_turns cdv A outer s H E) (WF E) := takes_of rfl rfl rfl rfl
    have hp : PassesOwn (model P w) (cxOf (L2.CX P w) P w K mg base ["one", "other"] "by_turns" (defScope s_by_turns) T.a_by_turns cdv A outer s H E).A (cxOf (L2.CX P w) P w K mg base ["one", "other"] "by_turns" (defScope s_by_turns) T.a_by_turns cdv A outer s H E).env (cxOf (L2.CX P w) P w K mg base ["one", "other"] "by_turns" (defScope s_by_turns) T.a_by_turns cdv A outer s H E).xe := passes_of rfl
    exact (js_cons (js_if (jt_cmp (op_lt2 hr.units0) od_lt (je_ix (je_var 1) je_int) (je_ix (je_var 0) je_int) (nomark _)) (js_one (js_par 0 1 rfl nd (ja_cons (je_var 1) (ja_cons (je_var 0) ja_nil)))) js_nil)
      (js_one (js_ret (je_chain3 (op_lt2 hr.units0) od_lt (op_lt2 hr.units0) od_lt (op_lt2 hr.units0) od_lt (je_ix (je_var 0) je_int) (je_ix (je_var 1) je_int) (je_ix (je_var 0) je_int) (je_ix (je_var 1) je_int)))))
theorem ok_law_turns (T : Top P w K mg base) : FnOk P w K mg base (L2.CX P w) 1 T.a_law_turns T.fd_law_turns ["_law_one", "_law_other"] (spF K T.cA 2 m_law_turns) :=
  fn_ok T.F_law_turns sc_law_turns fun cdv A outer s H E hr => by
    have nd := sc_law_turns.nd
    have tk : Takes (cxOf (L2.CX P w) P w K mg base ["_law_one", "_law_other", "_law_four"] "_law_turns" (defScope s_law_turns) T.a_law_turns cdv A outer s H E) (WF E) := takes_of rfl rfl rfl rfl
    have hp : PassesOwn (model P w) (cxOf (L2.CX P w) P w K mg base ["_law_one", "_law_other", "_law_four"] "_law_turns" (defScope s_law_turns) T.a_law_turns cdv A outer s H E).A (cxOf (L2.CX P w) P w K mg base ["_law_one", "_law_other", "_law_four"] "_law_turns" (defScope s_law_turns) T.a_law_turns cdv A outer s H E).env (cxOf (L2.CX P w) P w K mg base ["_law_one", "_law_other", "_law_four"] "_law_turns" (defScope s_law_turns) T.a_law_turns cdv A outer s H E).xe := passes_of rfl
    exact (js_cons (js_set 2 nd (je_fz (jf_B (cr_sortD hr.units) cf_sorted rfl T.n_sorted (by decide +kernel) (ja_cons (je_op op_add3 od_add (je_var 0) (je_var 1)) ja_nil))))
      (js_cons (js_if (jt_cmp (op_lt2 hr.units0) od_lt (je_lenSet rfl rfl T.n_len rfl T.n_set (je_var 2)) je_int (nomark _)) (js_one (js_ret je_bl)) js_nil)
      (js_one (js_ret (je_cmp (op_inU (hu65 hr)) od_in (je_tup (ja_cons (je_ix (je_var 2) je_int) (ja_cons (je_ix (je_var 2) je_int) ja_nil))) (je_tup (ja_cons (je_var 0) (ja_cons (je_var 1) ja_nil))) (by rfl))))))
theorem ok_law (T : Top P w K mg base) : FnOk P w K mg base (L2.CX P w) 5 T.a_law T.fd_law ["_law_script"] (spF K T.cA 1 m_law) :=
  fn_ok T.F_law sc_law fun cdv A outer s H E hr => by
    have nd := sc_law.nd
    have tk : Takes (cxOf (L2.CX P w) P w K mg base ["_law_script", "_law_cell", "_law_here", "_law_found", "_law_due", "_law_one", "_law_other", "_law_turns_here"] "law" (defScope s_law) T.a_law cdv A outer s H E) (WF E) := takes_of rfl rfl rfl rfl
    have hp : PassesOwn (model P w) (cxOf (L2.CX P w) P w K mg base ["_law_script", "_law_cell", "_law_here", "_law_found", "_law_due", "_law_one", "_law_other", "_law_turns_here"] "law" (defScope s_law) T.a_law cdv A outer s H E).A (cxOf (L2.CX P w) P w K mg base ["_law_script", "_law_cell", "_law_here", "_law_found", "_law_due", "_law_one", "_law_other", "_law_turns_here"] "law" (defScope s_law) T.a_law cdv A outer s H E).env (cxOf (L2.CX P w) P w K mg base ["_law_script", "_law_cell", "_law_here", "_law_found", "_law_due", "_law_one", "_law_other", "_law_turns_here"] "law" (defScope s_law) T.a_law cdv A outer s H E).xe := passes_of rfl
    exact (js_cons (js_for [1, 2, 3, 4, 5, 6, 7] hp rfl (ji_seq (je_sl (je_var 0) jo_none (jo_some je_int))) (jg_name 1 nd)
      (js_cons (js_set 2 nd (je_call (ok_law_web T) (hr.mono (by decide)) rfl T.g_law_web T.F_law_web.kp T.b_law_web tk (ja_cons (je_call (ok_law_feed T) (hr.mono (by decide)) rfl T.g_law_feed T.F_law_feed.kp T.b_law_feed tk (ja_cons (je_var 1) ja_nil)) ja_nil)))
      (js_cons (js_set 3 nd (je_call (ok_pairs T) (hr.mono (by decide)) rfl T.g_pairs T.F_pairs.kp T.b_pairs tk (ja_cons (je_var 2) ja_nil)))
      (js_cons (js_set 4 nd (je_cel (jf_lst ja_nil)))
      (js_cons (js_for [5, 6, 7] hp rfl (ji_seq (je_ix (je_var 2) je_int)) (jg_name 5 nd)
      (js_one (js_for [6, 7] hp rfl (ji_seq (je_ix (je_var 2) je_int)) (jg_name 6 nd)
      (js_cons (js_set 7 nd (je_call (ok_by_turns T) (hr.mono (by decide)) rfl T.g_by_turns T.F_by_turns.kp T.b_by_turns tk (ja_cons (je_var 5) (ja_cons (je_var 6) ja_nil))))
      (js_cons (js_if (PW.pt (jw_or (jt_not (jt_val (je_B call_isi cd_isi rfl T.n_isinstance (by decide +kernel) (ja_cons (je_var 7) (ja_cons (je_ty rfl T.n_bool (by decide +kernel)) ja_nil))))) (jw_or1 (jt_cmp (op_neD hr.units) od_ne (je_var 7) (je_call (ok_law_turns T) (hr.mono (by decide)) rfl T.g_law_turns T.F_law_turns.kp T.b_law_turns tk (ja_cons (je_var 5) (ja_cons (je_var 6) ja_nil))) (nomark _))))) (js_one (js_ret je_bl)) js_nil)
      (js_one (js_if (PW.pt (jw_and (jt_cmp (op_lt2 hr.units0) od_lt (je_var 5) (je_var 6) (nomark _)) (jw_and1 (jt_cmp (op_eqD hr.units) od_eq (je_lenSet rfl rfl T.n_len rfl T.n_set (je_op op_add3 od_add (je_var 5) (je_var 6))) je_int (nomark _))))) (js_one (js_expr (je_mt tyd_list md_append (pe_bm PySem.F.plainAttrs_list PySem.F.slot_list_append PySem.F.type_list_append mt_append (je_var 4) (ja_cons (je_tup (ja_cons (je_var 5) (ja_cons (je_var 6) ja_nil))) ja_nil))))) js_nil)))))))
      (js_one (js_if (PW.pt (jw_or (jt_not (jt_val (je_B call_isi cd_isi rfl T.n_isinstance (by decide +kernel) (ja_cons (je_var 3) (ja_cons (je_ty rfl T.n_tuple (by decide +kernel)) ja_nil))))) (jw_or (jt_cmp (op_neD hr.units) od_ne (je_var 3) (je_Ty call_tuple_of cd_tuple rfl T.n_tuple (by decide +kernel) (ja_cons (je_var 4) ja_nil)) (nomark _)) (jw_or1 (jt_cmp (op_neD hr.units) od_ne (je_var 3) (je_Ty call_tuple_of cd_tuple rfl T.n_tuple (by decide +kernel) (ja_cons (je_fz (jf_B (cr_sortD hr.units) cf_sorted rfl T.n_sorted (by decide +kernel) (ja_cons (je_var 4) ja_nil))) ja_nil)) (nomark _)))))) (js_one (js_ret je_bl)) js_nil)))))))
      (js_one (js_ret je_bl)))
end
theorem is_whole_int (i : Int) (S : Store) : m_is_whole [.int i] S = .ok (.bl true) S := run_pure (by rfl) rfl
theorem feed_spec (c : Int) (S : Store) : m_law_feed [.int c] S = .ok (.cell S.length) (S ++ [.lst [.int c, .int 0, .int (if c ≥ 10 ^ 18 then 1 else 0)]]) := by
  refine run_own ?_ rfl
  simp [c_law_feed, sRet, cel, fLst, aCons, aNil, eVar, eC, eB, dInt, e2, dGe, i2, cT, dPow, CPow, big]
def drawN (c t many : Int) : Int := (((c % 10 ^ 18 + 7919 * t * t + t) * 48271 % 2305843009213693951 * 1442695040888963407 + 4321) % 2305843009213693921 / 16) % many
theorem draw_spec (S : Store) (n : Nat) (c t f many : Int) (hS : S[n]? = some (.lst [.int c, .int t, .int f])) (h1 : 0 < many) (h2 : many < 1000) (ht : 0 ≤ t) (ht2 : t < 1000000) :
    ∃ c' r, m_law_draw [.cell n, .int many] S = .ok (.int r) (S.set n (.lst [.int c', .int (t + 1), .int f])) ∧ 0 ≤ r ∧ r < many := by
  have hn : n < S.length := (List.getElem?_eq_some_iff.mp hS).1
  have hset : ∀ x, (List.set S n x)[n]? = some x := fun x => List.getElem?_set_self hn
  have hd1 : CDiv c many := ⟨h1, by omega⟩
  have hm1 : CMul (7919 : Int) (t + 1) := .inl (by decide)
  have hm2 : CMul (7919 * (t + 1)) (t + 1) := .inr (by omega)
  have hm3 : ∀ x : Int, CMul x (48271 : Int) := fun x => .inr (by decide)
  have hm4 : ∀ x : Int, CMul x (1442695040888963407 : Int) := fun x => .inr (by decide)
  have hd2 : ∀ x : Int, CDiv x 16 := fun x => by unfold CDiv; decide
  have hp1 : CPow (10 : Int) (18 : Int) := by unfold CPow; decide
  by_cases hf : f = 1 ∧ 0 < c
  · refine ⟨c / many, c % many, ?_, Int.emod_nonneg _ (by omega), Int.emod_lt_of_pos _ h1⟩
    refine run_set (L := []) ?_ rfl rfl
    simp [c_law_draw, sSeq, sAsg, e2, dAdd, dIx, eVar, eC, pName, seqOf, hS, hset, atI, ixN, sSet, dSetL, Rf.cellOf, sCl, sIf, tAnd', tst, dEq, dGt, i2, cT, hf.1, hf.2, dMod, dFdiv, h1, hd1, sRet]
  · refine ⟨c, drawN c (t + 1) many, run_set (L := []) ?_ rfl rfl, Int.emod_nonneg _ (by omega), Int.emod_lt_of_pos _ h1⟩
    by_cases hf1 : f = 1
    · have hc : ¬ 0 < c := fun z => hf ⟨hf1, z⟩
      simp [c_law_draw, sSeq, sAsg, e2, dAdd, dIx, eVar, eC, pName, seqOf, hS, hset, atI, ixN, sSet, dSetL, Rf.cellOf, sCl, sIf, tAnd', tst, dEq, dGt, i2, cT, hf1, hc, dMod, dFdiv, h1, hd1, sRet, sNil, clr, dMulI, hm1, hm2, hm3, hm4, hd2, dPow, hp1, drawN]
    · simp [c_law_draw, sSeq, sAsg, e2, dAdd, dIx, eVar, eC, pName, seqOf, hS, hset, atI, ixN, sSet, dSetL, Rf.cellOf, sCl, sIf, tAnd', tst, dEq, dGt, i2, cT, hf1, dMod, dFdiv, h1, hd1, sRet, sNil, clr, dMulI, hm1, hm2, hm3, hm4, hd2, dPow, hp1, drawN]

def norm (x : PI2) : PI2 := if x.1 < x.2 then x else (x.2, x.1)
theorem tie_of_spec (x : PI2) (n : Int) (S : Store) (h1 : 0 ≤ x.1 ∧ x.1 < n) (h2 : 0 ≤ x.2 ∧ x.2 < n) (h3 : x.1 ≠ x.2) : m_tie_of [pD x, .int n] S = .ok (pD (norm x)) S := by
  obtain ⟨i, j⟩ := x
  simp only at h1 h2 h3
  have a1 : ¬ i < 0 := by omega
  have a2 : ¬ n ≤ i := by omega
  have a3 : ¬ j < 0 := by omega
  have a4 : ¬ n ≤ j := by omega
  refine run_pure ?_ rfl
  by_cases h : i < j
  · have b1 : min i j = i := by omega
    have b2 : max i j = j := by omega
    simp [c_tie_of, c_tie_of_b1, sSeq, sIf, sFor, sRet, sAsg, sExpr, sCl, sNil, sSet, sPar, sAug, tOr', tAnd', tNot', tYes', tst, eB, e1, Rf.e2, eNot, eAnd, eOr, eIf, aCons, aNil, eVar, eC, eTup, eCall, cel, Rf.fz, fLst, eMt, eSl, oNone, oSome, dIsi, tyN, isiT, dLen, seqOf, isTup, dNe, dEq, dLt, dLe, dGt, dGe, dAdd, dSub, dMod, dFdiv, dMulI, dPow, i2, cT, iSeq, fIt, iR1, IT.chk, pName, pTup, pCons, pNil, clr, dIx, atI, ixN, dSl, big, dMin2, nums, dInt, dTuple, dAppend, isLst, Rf.cellOf, dSetL, sBad, loopD, is_whole_int, pD, norm, a1, a2, a3, a4, h3, h, b1, b2]
  · have b1 : min i j = j := by omega
    have b2 : max i j = i := by omega
    simp [c_tie_of, c_tie_of_b1, sSeq, sIf, sFor, sRet, sAsg, sExpr, sCl, sNil, sSet, sPar, sAug, tOr', tAnd', tNot', tYes', tst, eB, e1, Rf.e2, eNot, eAnd, eOr, eIf, aCons, aNil, eVar, eC, eTup, eCall, cel, Rf.fz, fLst, eMt, eSl, oNone, oSome, dIsi, tyN, isiT, dLen, seqOf, isTup, dNe, dEq, dLt, dLe, dGt, dGe, dAdd, dSub, dMod, dFdiv, dMulI, dPow, i2, cT, iSeq, fIt, iR1, IT.chk, pName, pTup, pCons, pNil, clr, dIx, atI, ixN, dSl, big, dMin2, nums, dInt, dTuple, dAppend, isLst, Rf.cellOf, dSetL, sBad, loopD, is_whole_int, pD, norm, a1, a2, a3, a4, h3, h, b1, b2]
def webD (n : Int) (ts : List PI2) : D := .tup [.int n, .tup (ts.map pD)]
/-- a pair of unlike places below n -/
def okP (n : Int) (x : PI2) : Prop := (0 ≤ x.1 ∧ x.1 < n) ∧ (0 ≤ x.2 ∧ x.2 < n) ∧ x.1 ≠ x.2
theorem pD_pure (x : PI2) : pureD (pD x) = true := rfl
theorem webD_pure (n : Int) (ts : List PI2) : pureD (webD n ts) = true := by
  show (true && (pureL (ts.map pD) && true)) = true
  rw [pureL_map pD_pure]
  rfl
theorem norm_in {n : Int} {x : PI2} (hn : n ≤ 10) (h : okP n x) : inB (norm x) = true := by
  obtain ⟨⟨a1, a2⟩, ⟨a3, a4⟩, a5⟩ := h
  unfold inB norm
  rw [decide_eq_true_iff]
  split
  · omega
  · dsimp only
    omega
theorem web_spec (n : Int) (xs : List PI2) (S : Store) (hn : 1 ≤ n ∧ n ≤ 10) (hx : ∀ x ∈ xs, okP n x) (hl : xs.length < 64) (h18 : (sortU (xs.map norm)).length ≤ 18) :
    m_web [.int n, .tup (xs.map pD)] S = .ok (webD n (sortU (xs.map norm))) S := by
  have a1 : ¬ n < 1 := by omega
  have a2 : ¬ 10 < n := by omega
  have a3 : ¬ (18 : Int) < ((sortU (xs.map norm)).length : Nat) := by omega
  refine run_pure ?_ (webD_pure _ _)
  have hall : (xs.map norm).all inB = true := List.all_eq_true.mpr fun y hy => by
    obtain ⟨x, h1, rfl⟩ := List.mem_map.mp hy
    exact norm_in hn.2 (hx x h1)
  have hc : compD (pName 3) tYes' (eCall 2 m_tie_of (aCons (eVar 3) (aCons (eVar 0) aNil))) (fun _ => True) [some (.int n), some (.tup (xs.map pD)), none, none] (xs.map pD) S = .ok (xs.map fun x => pD (norm x)) S := by
    refine cmp_map pD (fun x => pD (norm x)) xs fun x h1 => ⟨_, rfl, ?_⟩
    simp [sSeq, sIf, sFor, sRet, sAsg, sExpr, sCl, sNil, sSet, sPar, sAug, tOr', tAnd', tNot', tYes', tst, eB, e1, Rf.e2, eNot, eAnd, eOr, eIf, aCons, aNil, eVar, eC, eTup, eCall, cel, Rf.fz, fLst, eMt, eSl, oNone, oSome, dIsi, tyN, isiT, dLen, seqOf, isTup, dNe, dEq, dLt, dLe, dGt, dGe, dAdd, dSub, dMod, dFdiv, dMulI, dPow, i2, cT, iSeq, fIt, iR1, IT.chk, pName, pTup, pCons, pNil, clr, dIx, atI, ixN, dSl, big, dMin2, nums, dInt, dTuple, dAppend, isLst, Rf.cellOf, dSetL, sBad]
    rw [tie_of_spec x n S (hx x h1).1 (hx x h1).2.1 (hx x h1).2.2]
  have hm : (xs.map fun x => pD (norm x)) = (xs.map norm).map pD := by rw [List.map_map]; rfl
  have hs := sortSet_of (xs.map norm) S (by rw [List.length_map]; exact hl) hall
  have hb : xs.length ≤ 1000000 := by omega
  rw [hm] at hc
  generalize (xs.map norm).map pD = zs at hc hs
  simp [c_web, sSeq, sIf, sFor, sRet, sAsg, sExpr, sCl, sNil, sSet, sPar, sAug, tOr', tAnd', tNot', tYes', tst, eB, e1, Rf.e2, eNot, eAnd, eOr, eIf, aCons, aNil, eVar, eC, eTup, eCall, cel, Rf.fz, fLst, eMt, eSl, oNone, oSome, dIsi, tyN, isiT, dLen, seqOf, isTup, dNe, dEq, dLt, dLe, dGt, dGe, dAdd, dSub, dMod, dFdiv, dMulI, dPow, i2, cT, iSeq, fIt, iR1, IT.chk, pName, pTup, pCons, pNil, clr, dIx, atI, ixN, dSl, big, dMin2, nums, dInt, dTuple, dAppend, isLst, Rf.cellOf, dSetL, sBad, is_whole_int, a1, a2, fComp, chk_nil, hb]
  rw [hc]
  simp only [bind_ok]
  rw [hs]
  simp [a3, webD]

def fdD (c t f : Int) : Ob := .lst [.int c, .int t, .int f]
/-- a web's ties: rising, lesser place first -/
structure goodW (n : Int) (ts : List PI2) : Prop where
  n1 : 1 ≤ n
  n10 : n ≤ 10
  tie : ∀ x ∈ ts, 0 ≤ x.1 ∧ x.1 < x.2 ∧ x.2 < n
  pw : ts.Pairwise (fun a b => leP a b = true)
  nd : ts.Nodup
  len : ts.length ≤ 18
theorem dedP_len : ∀ l : List PI2, (dedP l).length ≤ l.length
  | [] => Nat.le_refl _
  | x :: r => by
    unfold dedP
    have := dedP_len r
    split
    · show _ ≤ r.length + 1
      omega
    · show (dedP r).length + 1 ≤ r.length + 1
      omega
theorem sortU_len (l : List PI2) : (sortU l).length ≤ l.length := by
  unfold sortU
  rw [List.length_mergeSort]
  exact dedP_len l
theorem good_sortU {n : Int} {xs : List PI2} (h1 : 1 ≤ n) (h2 : n ≤ 10) (hx : ∀ x ∈ xs, okP n x) (hl : (sortU (xs.map norm)).length ≤ 18) : goodW n (sortU (xs.map norm)) := by
  refine ⟨h1, h2, fun x hx' => ?_, sortU_pw _, sortU_nodup _, hl⟩
  rw [mem_sortU] at hx'
  obtain ⟨y, hy, rfl⟩ := List.mem_map.mp hx'
  obtain ⟨⟨a1, a2⟩, ⟨a3, a4⟩, a5⟩ := hx y hy
  unfold norm
  split
  · omega
  · dsimp only
    omega
theorem set_app (S : Store) (q : Nat) (o : Ob) (L : Store) (hq : q < S.length) : (S ++ L).set q o = S.set q o ++ L := List.set_append_left _ _ hq
theorem draw_app (S L : Store) (q : Nat) (c t f many : Int) (hq : q < S.length) (h1 : 0 < many) (h2 : many < 1000) (ht : 0 ≤ t) (ht2 : t < 1000000) :
    ∃ c' r, m_law_draw [.cell q, .int many] (S.set q (fdD c t f) ++ L) = .ok (.int r) (S.set q (fdD c' (t + 1) f) ++ L) ∧ 0 ≤ r ∧ r < many := by
  have hq' : q < (S.set q (fdD c t f)).length := by rw [List.length_set]; exact hq
  obtain ⟨c', r, e, h3, h4⟩ := draw_spec (S.set q (fdD c t f) ++ L) q c t f many (by rw [List.getElem?_append_left hq', List.getElem?_set_self hq]; rfl) h1 h2 ht ht2
  refine ⟨c', r, ?_, h3, h4⟩
  rw [e, set_app _ _ _ _ hq', List.set_set]
  rfl
theorem law_web_spec (S : Store) (q : Nat) (c t f : Int) (hS : S[q]? = some (fdD c t f)) (ht : 0 ≤ t) (ht2 : t < 1000) :
    ∃ c' t' n ts, m_law_web [.cell q] S = .ok (webD n ts) (S.set q (fdD c' t' f)) ∧ goodW n ts := by
  have hq : q < S.length := (List.getElem?_eq_some_iff.mp hS).1
  have hself : S = S.set q (fdD c t f) ++ [] := by
    rw [List.append_nil]
    apply List.ext_getElem?
    intro i
    by_cases e : i = q
    · subst e; rw [List.getElem?_set_self hq, hS]
    · rw [List.getElem?_set_ne (Ne.symm e)]
  obtain ⟨c1, r1, e1, a1, a2⟩ := draw_app S [] q c t f 10 hq (by decide) (by decide) ht (by omega)
  rw [← hself] at e1
  rw [List.append_nil] at e1
  obtain ⟨c2, r2, e2, b1, b2⟩ := draw_app S [.lst []] q c1 (t + 1) f 19 hq (by decide) (by decide) (by omega) (by omega)
  obtain ⟨n, hn⟩ : ∃ n : Int, n = 1 + r1 := ⟨_, rfl⟩
  obtain ⟨g, hg⟩ : ∃ g : Int, g = r2 * (if 1 < n then 1 else 0) := ⟨_, rfl⟩
  have hg1 : 0 ≤ g ∧ g ≤ 18 ∧ (¬ 1 < n → g = 0) := by rw [hg]; split <;> omega
  have law_web_turn : ∃ S', loopD (pName 3) c_law_web_b1 [3, 4] (fun _ => True) ((List.range g.toNat).map fun i => D.int (i : Nat)) [some (.cell q), some (.int n), some (.cell S.length), none, none] (S.set q (fdD c2 (t + 1 + 1) f) ++ [.lst []]) = .next [some (.cell q), some (.int n), some (.cell S.length), none, none] S' ∧
      ∃ (c' t' : Int) (xs : List PI2), S' = S.set q (fdD c' t' f) ++ [.lst (xs.map pD)] ∧ xs.length = ([] ++ List.range g.toNat).length ∧ t' = t + 2 + 2 * (([] ++ List.range g.toNat).length : Nat) ∧ ∀ x ∈ xs, okP n x := by
    refine lp_inv (fun i : Nat => D.int (i : Nat)) (fun pre S' => ∃ (c' t' : Int) (xs : List PI2), S' = S.set q (fdD c' t' f) ++ [.lst (xs.map pD)] ∧ xs.length = pre.length ∧ t' = t + 2 + 2 * (pre.length : Nat) ∧ ∀ x ∈ xs, okP n x) (List.range g.toNat) [] _ ⟨c2, t + 1 + 1, [], rfl, rfl, by simp; omega, fun x hx => nomatch hx⟩ ?_
    rintro pre x post hpre S' ⟨c', t', xs, rfl, hl, ht', hx⟩
    have hlen : pre.length < g.toNat := by
      have := congrArg List.length hpre
      simp at this
      omega
    have h1n : 1 < n := by
      by_cases h : 1 < n
      · exact h
      · have := hg1.2.2 h
        omega
    obtain ⟨c3, r3, e3, d1, d2⟩ := draw_app S [.lst (xs.map pD)] q c' t' f n hq (by omega) (by omega) (by omega) (by omega)
    obtain ⟨c4, r4, e4, d3, d4⟩ := draw_app S [.lst (xs.map pD)] q c3 (t' + 1) f (n - 1) hq (by omega) (by omega) (by omega) (by omega)
    have hcell2 : ∀ c5 t5, (S.set q (fdD c5 t5 f) ++ [Ob.lst (xs.map pD)])[S.length]? = some (.lst (xs.map pD)) := fun c5 t5 => by
      rw [List.getElem?_append_right (by rw [List.length_set]; exact Nat.le_refl _)]
      simp
    have hset : (S.set q (fdD c4 (t' + 1 + 1) f) ++ [Ob.lst (xs.map pD)]).set S.length (.lst (xs.map pD ++ [pD (r3, (r3 + 1 + r4) % n)])) = S.set q (fdD c4 (t' + 1 + 1) f) ++ [.lst ((xs ++ [(r3, (r3 + 1 + r4) % n)]).map pD)] := by
      rw [List.set_append_right _ _ (by rw [List.length_set]; exact Nat.le_refl _), List.length_set, Nat.sub_self, List.map_append]
      rfl
    have hbig : xs.length < 1000000 := by omega
    have hn0 : 0 < n := by omega
    refine ⟨_, [some (.cell q), some (.int n), some (.cell S.length), some (.int (x : Nat)), some (.int r3)], _, rfl, .inl ?_, rfl, c4, t' + 1 + 1, xs ++ [(r3, (r3 + 1 + r4) % n)], rfl, by simp [hl], by simp; omega, fun y hy => ?_⟩
    · rw [← hset]
      simp [c_law_web_b1, sSeq, sIf, sFor, sRet, sAsg, sExpr, sCl, sNil, sSet, sPar, sAug, tOr', tAnd', tNot', tYes', tst, eB, e1, Rf.e2, eNot, eAnd, eOr, eIf, aCons, aNil, eVar, eC, eTup, eCall, cel, Rf.fz, fLst, eMt, eSl, oNone, oSome, dIsi, tyN, isiT, dLen, seqOf, isTup, dNe, dEq, dLt, dLe, dGt, dGe, dAdd, dSub, dMod, dFdiv, dMulI, dPow, i2, cT, iSeq, fIt, iR1, IT.chk, pName, pTup, pCons, pNil, clr, dIx, atI, ixN, dSl, big, dMin2, nums, dInt, dTuple, dAppend, isLst, Rf.cellOf, dSetL, sBad, e3, e4, hcell2, hbig, hn0, pD]
    · rcases List.mem_append.mp hy with hy | hy
      · exact hx y hy
      · simp at hy
        subst hy
        have p1 := Int.emod_nonneg (r3 + 1 + r4) (show n ≠ 0 by omega)
        have p2 := Int.emod_lt_of_pos (r3 + 1 + r4) hn0
        refine ⟨⟨d1, d2⟩, ⟨p1, p2⟩, ?_⟩
        show r3 ≠ (r3 + 1 + r4) % n
        by_cases hlt : r3 + 1 + r4 < n
        · rw [Int.emod_eq_of_lt (by omega) hlt]; omega
        · have : (r3 + 1 + r4) % n = r3 + 1 + r4 - n := by
            have h2 : (r3 + 1 + r4 - n) % n = (r3 + 1 + r4) % n := Int.sub_emod_right _ _
            rw [← h2, Int.emod_eq_of_lt (by omega) (by omega)]
          rw [this]; omega
  obtain ⟨S', hl1, c', t', xs, rfl, hxl, _, hxs⟩ := law_web_turn
  have hxlen : xs.length ≤ 18 := by simp at hxl; omega
  have h18 : (sortU (xs.map norm)).length ≤ 18 := by
    have := sortU_len (xs.map norm)
    rw [List.length_map] at this
    omega
  have hw := web_spec n xs (S.set q (fdD c' t' f) ++ [.lst (xs.map pD)]) ⟨by omega, by omega⟩ hxs (by omega) h18
  refine ⟨c', t', n, sortU (xs.map norm), ?_, good_sortU (by omega) (by omega) hxs h18⟩
  refine run_set (L := [.lst (xs.map pD)]) ?_ (webD_pure _ _) rfl
  have hcell : (S.set q (fdD c' t' f) ++ [Ob.lst (xs.map pD)])[S.length]? = some (.lst (xs.map pD)) := by
    rw [List.getElem?_append_right (by rw [List.length_set]; exact Nat.le_refl _)]
    simp
  have hr : -4611686018427387904 ≤ g ∧ g < 4611686018427387904 := by omega
  have hmul : CMul r2 (if 1 < n then 1 else 0) := .inl (by omega)
  have hlenS : (S.set q (fdD c1 (t + 1) f)).length = S.length := List.length_set
  simp only [c_law_web, sSeq, sIf, sFor, sRet, sAsg, sExpr, sCl, sNil, sSet, sPar, sAug, tOr', tAnd', tNot', tYes', tst, eB, e1, Rf.e2, eNot, eAnd, eOr, eIf, aCons, aNil, eVar, eC, eTup, eCall, cel, Rf.fz, fLst, eMt, eSl, oNone, oSome, dIsi, tyN, isiT, dLen, seqOf, isTup, dNe, dEq, dLt, dLe, dGt, dGe, dAdd, dSub, dMod, dFdiv, dMulI, dPow, i2, cT, iSeq, fIt, iR1, IT.chk, pName, pTup, pCons, pNil, clr, dIx, atI, ixN, dSl, big, dMin2, nums, dInt, dTuple, dAppend, isLst, Rf.cellOf, dSetL, sBad] at hl1 ⊢
  simp [e1, ← hn, hlenS, e2, hmul, ← hg, hr, chk_nil]
  rw [hl1]
  simp [hcell, hw]
  rfl

/-! pairs, by_turns -/
def meetP (x y : PI2) : Bool := decide (x.1 = y.1 ∨ x.1 = y.2 ∨ x.2 = y.1 ∨ x.2 = y.2)
theorem isIn2 (a b c : Int) : isIn (.int a) [.int b, .int c] = decide (a = b ∨ a = c) := by
  unfold isIn
  simp only [List.any_cons, List.any_nil, Bool.or_false]
  show (PyData.eqv (.int b) (.int a) || PyData.eqv (.int c) (.int a)) = _
  rw [eqv_int, eqv_int]
  by_cases h1 : a = b <;> by_cases h2 : a = c <;> simp [h1, h2, eq_comm]
theorem meet_spec (x y : PI2) (S : Store) : m_meet [pD x, pD y] S = .ok (.bl (meetP x y)) S := by
  obtain ⟨a, b⟩ := x
  obtain ⟨c, d⟩ := y
  refine run_pure ?_ rfl
  have e1 : (isIn (.int a) [.int c, .int d] || isIn (.int b) [.int c, .int d]) = meetP (a, b) (c, d) := by
    rw [isIn2, isIn2]
    unfold meetP
    by_cases h1 : a = c <;> by_cases h2 : a = d <;> by_cases h3 : b = c <;> by_cases h4 : b = d <;> simp [h1, h2, h3, h4]
  rw [← e1]
  cases h1 : isIn (.int a) [.int c, .int d] <;> simp [c_meet, sSeq, sIf, sFor, sRet, sAsg, sExpr, sCl, sNil, sSet, sPar, sAug, tOr', tAnd', tNot', tYes', tst, eB, e1, Rf.e2, eNot, eAnd, eOr, eIf, aCons, aNil, eVar, eC, eTup, eCall, cel, Rf.fz, fLst, eMt, eSl, oNone, oSome, dIsi, tyN, isiT, dLen, seqOf, isTup, dNe, dEq, dLt, dLe, dGt, dGe, dAdd, dSub, dMod, dFdiv, dMulI, dPow, i2, cT, iSeq, fIt, iR1, IT.chk, pName, pTup, pCons, pNil, clr, dIx, atI, ixN, dSl, big, dMin2, nums, dInt, dTuple, dAppend, isLst, Rf.cellOf, dSetL, sBad, pD, dInG, val, shD, dpt, h1]
def pairD (z : PI2 × PI2) : D := .tup [pD z.1, pD z.2]
def pairsL : List PI2 → List (PI2 × PI2)
  | [] => []
  | x :: r => (r.filter fun y => !meetP x y).map (fun y => (x, y)) ++ pairsL r
theorem cutD_from (ds : List D) (k : Nat) : Rf.cutD ds (some ((k : Nat) : Int)) none = ds.drop k := by
  unfold Rf.cutD
  rw [HT.sIx_nat, HT.sIx_none]
  by_cases h : k ≤ ds.length
  · rw [Nat.min_eq_left h]
    exact List.take_of_length_le (by rw [List.length_drop]; exact Nat.le_refl _)
  · rw [Nat.min_eq_right (by omega), List.drop_eq_nil_of_le (Nat.le_refl _), List.drop_eq_nil_of_le (by omega)]
    simp
theorem pairsL_len : ∀ l : List PI2, (pairsL l).length ≤ l.length * l.length
  | [] => Nat.le_refl _
  | x :: r => by
    unfold pairsL
    have h1 := pairsL_len r
    have h2 := List.length_filter_le (fun y => !meetP x y) r
    rw [List.length_append, List.length_map, List.length_cons]
    have : (r.length + 1) * (r.length + 1) = r.length * r.length + 2 * r.length + 1 := by
      rw [Nat.add_mul, Nat.mul_add]; omega
    omega
theorem enumD_map (xs : List PI2) : ∀ n : Nat, enumD n (xs.map pD) = (xs.zipIdx n).map fun p => D.tup [.int (p.2 : Nat), pD p.1] := by
  induction xs with
  | nil => intro n; rfl
  | cons x xs ih => intro n; rw [List.map_cons, List.zipIdx_cons, List.map_cons]; show _ :: enumD (n + 1) (xs.map pD) = _; rw [ih]
theorem pairs_spec (n : Int) (ts : List PI2) (S : Store) (hl : ts.length ≤ 18) : m_pairs [webD n ts] S = .ok (.tup ((pairsL ts).map pairD)) S := by
  refine run_loc (L := [.lst ((pairsL ts).map pairD)]) ?_ (show pureL ((pairsL ts).map pairD) = true from pureL_map (fun _ => rfl) _)
  have hcell : ∀ l, (S ++ [Ob.lst l])[S.length]? = some (.lst l) := fun l => by rw [List.getElem?_append_right (Nat.le_refl _)]; simp
  have hsetc : ∀ l l', (S ++ [Ob.lst l]).set S.length (.lst l') = S ++ [Ob.lst l'] := fun l l' => by rw [List.set_append_right _ _ (Nat.le_refl _), Nat.sub_self]; rfl
  -- the inner loop
  have bdy : ∀ (k : Nat) (x y : PI2) (acc : List D), acc.length < 1000000 → c_pairs_b1 [some (webD n ts), some (.tup (ts.map pD)), some (.cell S.length), some (.int (k : Nat)), some (pD x), some (pD y)] (S ++ [.lst acc]) =
      .next [some (webD n ts), some (.tup (ts.map pD)), some (.cell S.length), some (.int (k : Nat)), some (pD x), some (pD y)] (S ++ [.lst (acc ++ (([y].filter fun y => !meetP x y).map (fun y => (x, y))).map pairD)]) := fun k x y acc hbig => by
    cases hm : meetP x y with
    | true => simp [c_pairs_b1, sSeq, sIf, sFor, sRet, sAsg, sExpr, sCl, sNil, sSet, sPar, sAug, tOr', tAnd', tNot', tYes', tst, eB, e1, Rf.e2, eNot, eAnd, eOr, eIf, aCons, aNil, eVar, eC, eTup, eCall, cel, Rf.fz, fLst, eMt, eSl, oNone, oSome, dIsi, tyN, isiT, dLen, seqOf, isTup, dNe, dEq, dLt, dLe, dGt, dGe, dAdd, dSub, dMod, dFdiv, dMulI, dPow, i2, cT, iSeq, fIt, iR1, IT.chk, pName, pTup, pCons, pNil, clr, dIx, atI, ixN, dSl, big, dMin2, nums, dInt, dTuple, dAppend, isLst, Rf.cellOf, dSetL, sBad, meet_spec, hm]
    | false => simp [c_pairs_b1, sSeq, sIf, sFor, sRet, sAsg, sExpr, sCl, sNil, sSet, sPar, sAug, tOr', tAnd', tNot', tYes', tst, eB, e1, Rf.e2, eNot, eAnd, eOr, eIf, aCons, aNil, eVar, eC, eTup, eCall, cel, Rf.fz, fLst, eMt, eSl, oNone, oSome, dIsi, tyN, isiT, dLen, seqOf, isTup, dNe, dEq, dLt, dLe, dGt, dGe, dAdd, dSub, dMod, dFdiv, dMulI, dPow, i2, cT, iSeq, fIt, iR1, IT.chk, pName, pTup, pCons, pNil, clr, dIx, atI, ixN, dSl, big, dMin2, nums, dInt, dTuple, dAppend, isLst, Rf.cellOf, dSetL, sBad, meet_spec, hm, hcell, hsetc, hbig, pairD]
  have inner : ∀ (k : Nat) (x : PI2) (ys : List PI2) (acc : List D), acc.length + ys.length ≤ 1000 →
      loopD (pName 5) c_pairs_b1 [5] (fun _ => True) (ys.map pD) [some (webD n ts), some (.tup (ts.map pD)), some (.cell S.length), some (.int (k : Nat)), some (pD x), none] (S ++ [.lst acc]) =
        .next [some (webD n ts), some (.tup (ts.map pD)), some (.cell S.length), some (.int (k : Nat)), some (pD x), none] (S ++ [.lst (acc ++ ((ys.filter fun y => !meetP x y).map (fun y => (x, y))).map pairD)]) := fun k x ys acc ha => by
    obtain ⟨S', h1, h2⟩ := lp_inv (p := pName 5) (body := c_pairs_b1) (dead := [5]) (env := [some (webD n ts), some (.tup (ts.map pD)), some (.cell S.length), some (.int (k : Nat)), some (pD x), none]) pD (fun pre S' => S' = S ++ [.lst (acc ++ ((pre.filter fun y => !meetP x y).map (fun y => (x, y))).map pairD)]) ys [] (S ++ [.lst acc]) (by simp) (by
      rintro pre y post hpre S' rfl
      have hlen : pre.length ≤ ys.length := by
        have := congrArg List.length hpre
        simp at this
        omega
      have hfl := List.length_filter_le (fun y => !meetP x y) pre
      refine ⟨_, _, _, rfl, .inl (bdy k x y _ (by rw [List.length_append, List.length_map, List.length_map]; omega)), rfl, ?_⟩
      rw [List.filter_append, List.map_append, List.map_append, List.append_assoc])
    rw [h1, h2]
    rfl
  have outer : ∃ S', loopD (pTup 2 (pCons (pName 3) (pCons (pName 4) pNil))) c_pairs_b2 [3, 4, 5] (fun _ => True) ((ts.zipIdx 0).map fun p => D.tup [.int (p.2 : Nat), pD p.1]) [some (webD n ts), some (.tup (ts.map pD)), some (.cell S.length), none, none, none] (S ++ [.lst []]) =
        .next [some (webD n ts), some (.tup (ts.map pD)), some (.cell S.length), none, none, none] S' ∧ ∃ acc, S' = S ++ [.lst (acc.map pairD)] ∧ acc ++ pairsL (ts.drop ([] ++ ts.zipIdx 0).length) = pairsL ts := by
    refine lp_inv (fun p : PI2 × Nat => D.tup [.int (p.2 : Nat), pD p.1]) (fun pre S' => ∃ acc, S' = S ++ [.lst (acc.map pairD)] ∧ acc ++ pairsL (ts.drop pre.length) = pairsL ts) (ts.zipIdx 0) [] _ ⟨[], rfl, rfl⟩ ?_
    rintro pre ⟨x, k⟩ post hpre S' ⟨acc, rfl, hacc⟩
    have hk : (ts.zipIdx 0)[pre.length]? = some (x, k) := by
      have : ts.zipIdx 0 = pre ++ (x, k) :: post := by simpa using hpre
      rw [this, List.getElem?_append_right (Nat.le_refl _)]
      simp
    rw [List.getElem?_zipIdx] at hk
    obtain ⟨y, hy, e⟩ : ∃ y, ts[pre.length]? = some y ∧ (y, 0 + pre.length) = (x, k) := by
      cases h : ts[pre.length]? with
      | none => rw [h] at hk; cases hk
      | some y => rw [h] at hk; exact ⟨y, rfl, by simpa using hk⟩
    cases e
    have hlt : pre.length < ts.length := (List.getElem?_eq_some_iff.mp hy).1
    have hd : ts.drop pre.length = x :: ts.drop (pre.length + 1) := by
      rw [List.drop_eq_getElem_cons hlt]
      congr 1
      exact (List.getElem?_eq_some_iff.mp hy).2
    rw [hd] at hacc
    have hsz := pairsL_len ts
    have hacl : acc.length + (ts.drop (pre.length + 1)).length ≤ 1000 := by
      have h1 := congrArg List.length hacc
      rw [List.length_append] at h1
      have h2 : ts.length * ts.length ≤ 18 * 18 := Nat.mul_le_mul hl hl
      rw [List.length_drop]
      omega
    have hcut : Rf.cutD (ts.map pD) (some (((pre.length : Nat) : Int) + 1)) none = (ts.drop (pre.length + 1)).map pD := by
      have : ((pre.length : Nat) : Int) + 1 = ((pre.length + 1 : Nat) : Int) := by omega
      rw [this, cutD_from, List.map_drop]
    have hin := inner pre.length x (ts.drop (pre.length + 1)) (acc.map pairD) (by rw [List.length_map]; exact hacl)
    refine ⟨_, [some (webD n ts), some (.tup (ts.map pD)), some (.cell S.length), some (.int (pre.length : Nat)), some (pD x), none], S ++ [.lst ((acc ++ ((ts.drop (pre.length + 1)).filter fun y => !meetP x y).map (fun y => (x, y))).map pairD)], rfl, .inl ?_, rfl, _, rfl, ?_⟩
    · rw [List.map_append]
      simp only [c_pairs_b2, sSeq, sIf, sFor, sRet, sAsg, sExpr, sCl, sNil, sSet, sPar, sAug, tOr', tAnd', tNot', tYes', tst, eB, e1, Rf.e2, eNot, eAnd, eOr, eIf, aCons, aNil, eVar, eC, eTup, eCall, cel, Rf.fz, fLst, eMt, eSl, oNone, oSome, dIsi, tyN, isiT, dLen, seqOf, isTup, dNe, dEq, dLt, dLe, dGt, dGe, dAdd, dSub, dMod, dFdiv, dMulI, dPow, i2, cT, iSeq, fIt, iR1, IT.chk, pName, pTup, pCons, pNil, clr, dIx, atI, ixN, dSl, big, dMin2, nums, dInt, dTuple, dAppend, isLst, Rf.cellOf, dSetL, sBad]
      simp [hcut, chk_nil, -List.map_drop]
      rw [hin, List.map_map]
    · rw [List.length_append]
      show _ ++ pairsL (ts.drop (pre.length + 1)) = _
      rw [List.append_assoc]
      exact hacc
  obtain ⟨S', ho, acc, rfl, hacc⟩ := outer
  have e0 : acc = pairsL ts := by
    have : ts.drop ([] ++ ts.zipIdx 0).length = [] := List.drop_eq_nil_of_le (by simp)
    rw [this] at hacc
    rw [← hacc]
    unfold pairsL
    simp
  subst e0
  have hix : ∀ S, dIx (webD n ts) (.int 1) S = .ok (.tup (ts.map pD)) S := fun _ => rfl
  simp [c_pairs, sSeq, sIf, sFor, sRet, sAsg, sExpr, sCl, sNil, sSet, sPar, sAug, tOr', tAnd', tNot', tYes', tst, eB, e1, Rf.e2, eNot, eAnd, eOr, eIf, aCons, aNil, eVar, eC, eTup, eCall, cel, Rf.fz, fLst, eMt, eSl, oNone, oSome, dIsi, tyN, isiT, dLen, seqOf, isTup, dNe, dEq, dLt, dLe, dGt, dGe, dAdd, dSub, dMod, dFdiv, dMulI, dPow, i2, cT, iSeq, fIt, iR1, IT.chk, pName, pTup, pCons, pNil, clr, atI, ixN, dSl, big, dMin2, nums, dInt, dTuple, dAppend, isLst, Rf.cellOf, dSetL, sBad, hix, iEnumM, enumD_map, chk_nil]
  rw [ho]
  simp [hcell]

/-! sorted lists of ints -/
theorem srt_uniq : ∀ {l m : List Int}, l.Perm m → l.Pairwise (· ≤ ·) → m.Pairwise (· ≤ ·) → l = m
  | [], m, h, _, _ => (List.Perm.eq_nil h.symm).symm
  | x :: l, [], h, _, _ => absurd h.length_eq (by simp)
  | x :: l, y :: m, h, p1, p2 => by
    obtain ⟨a1, a2⟩ := List.pairwise_cons.mp p1
    obtain ⟨b1, b2⟩ := List.pairwise_cons.mp p2
    have e : x = y := by
      have h1 : x ≤ y := by
        rcases List.mem_cons.mp (h.symm.mem_iff.mp (List.mem_cons_self (a := y) (l := m))) with z | z
        · omega
        · exact a1 y z
      have h2 : y ≤ x := by
        rcases List.mem_cons.mp (h.mem_iff.mp (List.mem_cons_self (a := x) (l := l))) with z | z
        · omega
        · exact b1 x z
      omega
    subst e
    rw [srt_uniq (List.Perm.cons_inv h) a2 b2]
def leI (a b : Int) : Bool := decide (a ≤ b)
def sortI (l : List Int) : List Int := l.mergeSort leI
theorem sortI_perm (l : List Int) : (sortI l).Perm l := List.mergeSort_perm _ _
theorem sortI_pw (l : List Int) : (sortI l).Pairwise (· ≤ ·) := by
  have h : (sortI l).Pairwise (fun a b => leI a b = true) := List.pairwise_mergeSort (fun a b c h1 h2 => by unfold leI at *; rw [decide_eq_true_iff] at *; omega) (fun a b => by unfold leI; rw [Bool.or_eq_true, decide_eq_true_iff, decide_eq_true_iff]; omega) _
  exact h.imp fun q => of_decide_eq_true q
theorem sortI_eq {l m : List Int} (h : m.Perm l) (hp : m.Pairwise (· ≤ ·)) : sortI l = m := srt_uniq ((sortI_perm l).trans h.symm) (sortI_pw l) hp
theorem dataLe_I (a b : Int) : PySem.W.dataLe false py (.int a) (.int b) = leI a b := congrFun (congrFun (PySem.W.dataLe_int (fun x : Int => x)) a) b
theorem fSorted_ints (d : D) (ns : List Int) (S : Store) (h : seqOf S d = some (ns.map .int)) (hl : ns.length ≤ 1000000) : fSorted [d] S = .ok ((sortI ns).map .int) S := by
  unfold fSorted
  dsimp only
  rw [h]
  dsimp only
  rw [if_pos]
  · have e : ((sortI ns).map D.int) = (ns.map D.int).mergeSort (PySem.W.dataLe false py) := PySem.W.sort_maps D.int fun a _ b _ => (dataLe_I a b).symm
    rw [e]
  · refine ⟨by rw [List.length_map]; exact hl, List.all_eq_true.mpr fun x hx => ?_, ?_, .inr fun x hx => ?_⟩
    · obtain ⟨i, _, rfl⟩ := List.mem_map.mp hx
      rfl
    · intro x hx y hy
      rw [List.map_map] at hx hy
      obtain ⟨i, _, rfl⟩ := List.mem_map.mp hx
      obtain ⟨j, _, rfl⟩ := List.mem_map.mp hy
      rfl
    · rw [List.map_map] at hx
      obtain ⟨i, _, rfl⟩ := List.mem_map.mp hx
      exact ⟨(fun z => nomatch z), (fun _ z => nomatch z)⟩
theorem ded_len_le (l : List Int) : (ded l).length ≤ l.length := len_le_of_sub (ded_nodup l) fun x hx => mem_ded.mp hx
theorem ded_id : ∀ {l : List Int}, l.Nodup → ded l = l
  | [], _ => rfl
  | x :: r, h => by
    obtain ⟨h1, h2⟩ := List.nodup_cons.mp h
    unfold ded
    rw [if_neg h1, ded_id h2]
theorem ded_full : ∀ {l : List Int}, (ded l).length = l.length → l.Nodup
  | [], _ => List.nodup_nil
  | x :: r, h => by
    unfold ded at h
    by_cases hx : x ∈ r
    · rw [if_pos hx] at h
      have := ded_len_le r
      rw [List.length_cons] at h
      omega
    · rw [if_neg hx] at h
      exact List.nodup_cons.mpr ⟨hx, ded_full (by simpa using h)⟩

def bt (x y : PI2) : Bool := if y.1 < x.1 then decide (x.1 < y.2 ∧ y.2 < x.2) else decide (x.1 < y.1 ∧ y.1 < x.2 ∧ x.2 < y.2)
theorem by_turns_spec (x y : PI2) (S : Store) : m_by_turns [pD x, pD y] S = .ok (.bl (bt x y)) S := by
  obtain ⟨a, b⟩ := x
  obtain ⟨c, d⟩ := y
  refine run_pure ?_ rfl
  unfold bt
  by_cases h : c < a
  · by_cases h2 : a < d <;> by_cases h3 : d < b <;> simp [c_by_turns, sSeq, sIf, sFor, sRet, sAsg, sExpr, sCl, sNil, sSet, sPar, sAug, tOr', tAnd', tNot', tYes', tst, eB, e1, Rf.e2, eNot, eAnd, eOr, eIf, aCons, aNil, eVar, eC, eTup, eCall, cel, Rf.fz, fLst, eMt, eSl, oNone, oSome, dIsi, tyN, isiT, dLen, seqOf, isTup, dNe, dEq, dLt, dLe, dGt, dGe, dAdd, dSub, dMod, dFdiv, dMulI, dPow, i2, cT, iSeq, fIt, iR1, IT.chk, pName, pTup, pCons, pNil, clr, dIx, atI, ixN, dSl, big, dMin2, nums, dInt, dTuple, dAppend, isLst, Rf.cellOf, dSetL, sBad, eChain3, pD, h, h2, h3]
  · by_cases h1 : a < c <;> by_cases h2 : c < b <;> by_cases h3 : b < d <;> simp [c_by_turns, sSeq, sIf, sFor, sRet, sAsg, sExpr, sCl, sNil, sSet, sPar, sAug, tOr', tAnd', tNot', tYes', tst, eB, e1, Rf.e2, eNot, eAnd, eOr, eIf, aCons, aNil, eVar, eC, eTup, eCall, cel, Rf.fz, fLst, eMt, eSl, oNone, oSome, dIsi, tyN, isiT, dLen, seqOf, isTup, dNe, dEq, dLt, dLe, dGt, dGe, dAdd, dSub, dMod, dFdiv, dMulI, dPow, i2, cT, iSeq, fIt, iR1, IT.chk, pName, pTup, pCons, pNil, clr, dIx, atI, ixN, dSl, big, dMin2, nums, dInt, dTuple, dAppend, isLst, Rf.cellOf, dSetL, sBad, eChain3, pD, h, h1, h2, h3]
theorem eqv_pair (a b c d : Int) : PyData.eqv (.tuple [.int a, .int b]) (.tuple [.int c, .int d]) = decide (a = c ∧ b = d) := by
  have e : PyData.eqv (.tuple [.int a, .int b]) (.tuple [.int c, .int d]) = (PyData.eqv (.int a) (.int c) && (PyData.eqv (.int b) (.int d) && true)) := by
    conv => lhs; unfold PyData.eqv
    rw [PySem.W.eqv_all_cons, PySem.W.eqv_all_cons]
    conv => lhs; rhs; rhs; unfold PyData.eqvAll
  rw [e, eqv_int, eqv_int]
  by_cases h1 : a = c <;> by_cases h2 : b = d <;> simp [h1, h2]
theorem isIn_pD (z x y : PI2) : isIn (pD z) [pD x, pD y] = decide (z = x ∨ z = y) := by
  obtain ⟨z1, z2⟩ := z
  obtain ⟨x1, x2⟩ := x
  obtain ⟨y1, y2⟩ := y
  unfold isIn
  simp only [List.any_cons, List.any_nil, Bool.or_false]
  show (PyData.eqv (.tuple [.int x1, .int x2]) (.tuple [.int z1, .int z2]) || PyData.eqv (.tuple [.int y1, .int y2]) (.tuple [.int z1, .int z2])) = _
  rw [eqv_pair, eqv_pair, Bool.eq_iff_iff, Bool.or_eq_true, decide_eq_true_iff, decide_eq_true_iff, decide_eq_true_iff, Prod.mk.injEq, Prod.mk.injEq]
  omega
theorem bt_facts {x y : PI2} (hx : x.1 < x.2) (hy : y.1 < y.2) (s : List Int) (hs : s = sortI [x.1, x.2, y.1, y.2]) (hn : [x.1, x.2, y.1, y.2].Nodup) : ∃ p q r t, s = [p, q, r, t] ∧ decide ((p, r) = x ∨ (p, r) = y) = bt x y := by
  obtain ⟨a, b⟩ := x
  obtain ⟨c, d⟩ := y
  simp only at hx hy hn hs
  simp at hn
  obtain ⟨⟨n1, n2, n3⟩, ⟨n4, n5⟩, n6⟩ := hn
  have P : ∀ p q r t, ([p, q, r, t] : List Int).Perm [a, b, c, d] → p ≤ q → q ≤ r → r ≤ t → s = [p, q, r, t] := fun p q r t hp h1 h2 h3 => by
    rw [hs]
    refine sortI_eq hp ?_
    simp
    omega
  by_cases h1 : b < c
  · refine ⟨a, b, c, d, P _ _ _ _ (.refl _) (by omega) (by omega) (by omega), ?_⟩
    (rw [Bool.eq_iff_iff, decide_eq_true_iff, Prod.mk.injEq, Prod.mk.injEq]; unfold bt; dsimp only; split <;> rw [decide_eq_true_iff] <;> omega)
  · by_cases h2 : d < a
    · refine ⟨c, d, a, b, P _ _ _ _ (by exact (List.perm_append_comm (l₁ := [c, d]) (l₂ := [a, b]))) (by omega) (by omega) (by omega), ?_⟩
      (rw [Bool.eq_iff_iff, decide_eq_true_iff, Prod.mk.injEq, Prod.mk.injEq]; unfold bt; dsimp only; split <;> rw [decide_eq_true_iff] <;> omega)
    · by_cases h3 : a < c
      · by_cases h4 : b < d
        · refine ⟨a, c, b, d, P _ _ _ _ (.cons _ (.swap _ _ _)) (by omega) (by omega) (by omega), ?_⟩
          (rw [Bool.eq_iff_iff, decide_eq_true_iff, Prod.mk.injEq, Prod.mk.injEq]; unfold bt; dsimp only; split <;> rw [decide_eq_true_iff] <;> omega)
        · refine ⟨a, c, d, b, P _ _ _ _ (.cons _ ((List.perm_append_comm (l₁ := [c, d]) (l₂ := [b])))) (by omega) (by omega) (by omega), ?_⟩
          (rw [Bool.eq_iff_iff, decide_eq_true_iff, Prod.mk.injEq, Prod.mk.injEq]; unfold bt; dsimp only; split <;> rw [decide_eq_true_iff] <;> omega)
      · by_cases h4 : b < d
        · refine ⟨c, a, b, d, P _ _ _ _ ((List.Perm.swap _ _ _).trans (.cons _ (.swap _ _ _))) (by omega) (by omega) (by omega), ?_⟩
          (rw [Bool.eq_iff_iff, decide_eq_true_iff, Prod.mk.injEq, Prod.mk.injEq]; unfold bt; dsimp only; split <;> rw [decide_eq_true_iff] <;> omega)
        · refine ⟨c, a, d, b, P _ _ _ _ ((List.Perm.swap _ _ _).trans (.cons _ ((List.perm_append_comm (l₁ := [c, d]) (l₂ := [b]))))) (by omega) (by omega) (by omega), ?_⟩
          (rw [Bool.eq_iff_iff, decide_eq_true_iff, Prod.mk.injEq, Prod.mk.injEq]; unfold bt; dsimp only; split <;> rw [decide_eq_true_iff] <;> omega)
theorem bt_nodup {x y : PI2} (hx : x.1 < x.2) (hy : y.1 < y.2) (h : bt x y = true) : [x.1, x.2, y.1, y.2].Nodup := by
  unfold bt at h
  simp
  split at h <;> rw [decide_eq_true_iff] at h <;> omega
theorem law_turns_spec (x y : PI2) (S : Store) (hx : x.1 < x.2) (hy : y.1 < y.2) : m_law_turns [pD x, pD y] S = .ok (.bl (bt x y)) S := by
  refine run_pure ?_ rfl
  have hs := fSorted_ints (.tup [.int x.1, .int x.2, .int y.1, .int y.2]) [x.1, x.2, y.1, y.2] S rfl (by simp)
  have hlen : (sortI [x.1, x.2, y.1, y.2]).length = 4 := (sortI_perm _).length_eq
  have hln : ∀ l : List Int, l.length = 4 → dLenSet (.lst (l.map .int)) S = .ok (.int ((ded l).length : Nat)) S := fun l hl => by
    unfold dLenSet
    show (match nums (l.map .int) with | some ns => if ns.length < 1000 then Res.ok (D.int ((ded ns).length : Nat)) S else Res.bad | none => Res.bad) = _
    rw [Rf.ints_of]
    dsimp only
    rw [if_pos (by omega)]
  have hl2 := hln _ hlen
  by_cases hd : (ded (sortI [x.1, x.2, y.1, y.2])).length < 4
  · have hb : bt x y = false := by
      cases e : bt x y with
      | false => rfl
      | true =>
        exfalso
        have := bt_nodup hx hy e
        have h3 : (sortI [x.1, x.2, y.1, y.2]).Nodup := (sortI_perm _).nodup_iff.mpr this
        rw [ded_id h3] at hd
        omega
    generalize sortI [x.1, x.2, y.1, y.2] = s at *
    generalize s.map D.int = sd at *
    have hd' : ((ded s).length : Int) < 4 := by omega
    simp [c_law_turns, sSeq, sIf, sFor, sRet, sAsg, sExpr, sCl, sNil, sSet, sPar, sAug, tOr', tAnd', tNot', tYes', tst, eB, e1, Rf.e2, eNot, eAnd, eOr, eIf, aCons, aNil, eVar, eC, eTup, eCall, cel, Rf.fz, fLst, eMt, eSl, oNone, oSome, dIsi, tyN, isiT, dLen, seqOf, isTup, dNe, dEq, dLt, dLe, dGt, dGe, dAdd, dSub, dMod, dFdiv, dMulI, dPow, i2, cT, iSeq, fIt, iR1, IT.chk, pName, pTup, pCons, pNil, clr, dIx, atI, ixN, dSl, big, dMin2, nums, dInt, dTuple, dAppend, isLst, Rf.cellOf, dSetL, sBad, pD] at hs ⊢
    simp [hs, hl2, hd', hb]
  · have hnd : (sortI [x.1, x.2, y.1, y.2]).Nodup := ded_full (by have := ded_len_le (sortI [x.1, x.2, y.1, y.2]); omega)
    obtain ⟨p, q, r, t, e, hb⟩ := bt_facts hx hy _ rfl ((sortI_perm _).nodup_iff.mp hnd)
    rw [e] at hs hl2 hd
    have hin := isIn_pD (p, r) x y
    rw [hb] at hin
    have hd' : ¬ ((ded [p, q, r, t]).length : Int) < 4 := by omega
    unfold pD at hin
    simp [c_law_turns, sSeq, sIf, sFor, sRet, sAsg, sExpr, sCl, sNil, sSet, sPar, sAug, tOr', tAnd', tNot', tYes', tst, eB, e1, Rf.e2, eNot, eAnd, eOr, eIf, aCons, aNil, eVar, eC, eTup, eCall, cel, Rf.fz, fLst, eMt, eSl, oNone, oSome, dIsi, tyN, isiT, dLen, seqOf, isTup, dNe, dEq, dLt, dLe, dGt, dGe, dAdd, dSub, dMod, dFdiv, dMulI, dPow, i2, cT, iSeq, fIt, iR1, IT.chk, pName, pTup, pCons, pNil, clr, dIx, atI, ixN, dSl, big, dMin2, nums, dInt, dTuple, dAppend, isLst, Rf.cellOf, dSetL, sBad, pD, dInG, val, shD, dpt] at hs hl2 hin ⊢
    have s12 : ∀ i j : Int, shD 12 (D.tup [D.int i, D.int j]) = true := fun _ _ => rfl
    have s11 : ∀ i j : Int, shD 11 (D.tup [D.int i, D.int j]) = true := fun _ _ => rfl
    simp [hs, hl2, hd', hin, s12, s11]

/-! the law -/
def dueC (x y : PI2) : Bool := HT.lexLt [x.1, x.2] [y.1, y.2] && decide ((ded [x.1, x.2, y.1, y.2]).length = 4)
def dueL (ts us : List PI2) : List (PI2 × PI2) := ts.flatMap fun x => (us.filter (dueC x)).map fun y => (x, y)
theorem lex_iff (x y : PI2) : HT.lexLt [x.1, x.2] [y.1, y.2] = decide (x.1 < y.1 ∨ (x.1 = y.1 ∧ x.2 < y.2)) := by
  rw [HT.lexLt_cons, HT.lexLt_cons, HT.lexLt_nil_nil]
  by_cases h1 : x.1 = y.1
  · rw [if_pos h1]
    by_cases h2 : x.2 = y.2
    · rw [if_pos h2]
      symm
      rw [decide_eq_false_iff_not]
      omega
    · rw [if_neg h2]
      rw [Bool.eq_iff_iff, decide_eq_true_iff, decide_eq_true_iff]
      omega
  · rw [if_neg h1, Bool.eq_iff_iff, decide_eq_true_iff, decide_eq_true_iff]
    omega
theorem ded4 (x y : PI2) (hx : x.1 < x.2) (hy : y.1 < y.2) : decide ((ded [x.1, x.2, y.1, y.2]).length = 4) = !meetP x y := by
  rw [Bool.eq_iff_iff, decide_eq_true_iff, Bool.not_eq_true', ← Bool.not_eq_true]
  unfold meetP
  rw [decide_eq_true_iff]
  constructor
  · intro h
    have := ded_full (l := [x.1, x.2, y.1, y.2]) h
    simp at this
    omega
  · intro h
    rw [ded_id]
    · rfl
    · simp
      omega
/-- strictly ahead -/
theorem pw_strict {ts : List PI2} (h : ts.Pairwise (fun a b => leP a b = true)) (hn : ts.Nodup) : ts.Pairwise (fun a b => a.1 < b.1 ∨ (a.1 = b.1 ∧ a.2 < b.2)) := by
  refine (h.and hn).imp fun {a b} ⟨h1, h2⟩ => ?_
  unfold leP at h1
  rw [decide_eq_true_iff] at h1
  have : ¬ (a.1 = b.1 ∧ a.2 = b.2) := fun ⟨e1, e2⟩ => h2 (Prod.ext e1 e2)
  omega
theorem filter_due : ∀ (pre : List PI2) (x : PI2) (post : List PI2), (∀ z ∈ pre ++ x :: post, z.1 < z.2) → (pre ++ x :: post).Pairwise (fun a b => a.1 < b.1 ∨ (a.1 = b.1 ∧ a.2 < b.2)) → (pre ++ x :: post).filter (dueC x) = post.filter fun y => !meetP x y := by
  intro pre x post hz hp
  obtain ⟨p1, p2, p3⟩ := List.pairwise_append.mp hp
  obtain ⟨q1, q2⟩ := List.pairwise_cons.mp p2
  have hx : x.1 < x.2 := hz x (by simp)
  have e1 : pre.filter (dueC x) = [] := List.filter_eq_nil_iff.mpr fun y hy => by
    have := p3 y hy x List.mem_cons_self
    unfold dueC
    rw [lex_iff]
    simp
    omega
  have e2 : dueC x x = false := by
    unfold dueC
    rw [lex_iff]
    simp
  rw [List.filter_append, e1, List.filter_cons_of_neg (by rw [e2]; decide), List.nil_append]
  refine List.filter_congr fun y hy => ?_
  unfold dueC
  rw [lex_iff, ded4 x y hx (hz y (by simp [hy]))]
  have := q1 y hy
  rw [decide_eq_true this]
  rfl
theorem pairsL_cons (x : PI2) (r : List PI2) : pairsL (x :: r) = (r.filter fun y => !meetP x y).map (fun y => (x, y)) ++ pairsL r := rfl
theorem due_pairs {ts : List PI2} (hz : ∀ z ∈ ts, z.1 < z.2) (hp : ts.Pairwise (fun a b => a.1 < b.1 ∨ (a.1 = b.1 ∧ a.2 < b.2))) : dueL ts ts = pairsL ts := by
  have key : ∀ (post pre : List PI2), pre ++ post = ts → dueL post ts = pairsL post := by
    intro post
    induction post with
    | nil => intro pre _; rfl
    | cons x post ih =>
      intro pre e
      have h1 := ih (pre ++ [x]) (by rw [← e]; simp)
      unfold dueL at h1 ⊢
      rw [List.flatMap_cons, h1, pairsL_cons]
      rw [← e, filter_due pre x post (by rw [e]; exact hz) (by rw [e]; exact hp)]
  exact key ts [] rfl
/-- the pairs rise -/
theorem pairs_rise : ∀ {ts : List PI2}, ts.Pairwise (fun a b => a.1 < b.1 ∨ (a.1 = b.1 ∧ a.2 < b.2)) → (pairsL ts).Pairwise (fun p q => PySem.W.dataLe false py (pairD p) (pairD q) = true)
  | [], _ => List.Pairwise.nil
  | x :: r, h => by
    obtain ⟨h1, h2⟩ := List.pairwise_cons.mp h
    have lt : ∀ a b : PI2, PySem.W.dataLt (py (pD a)) (py (pD b)) = decide (a.1 < b.1 ∨ (a.1 = b.1 ∧ a.2 < b.2)) := fun a b => PySem.W.dataLt_ii a.1 a.2 b.1 b.2
    have le : ∀ p q : PI2 × PI2, (p.1.1 < q.1.1 ∨ (p.1.1 = q.1.1 ∧ p.1.2 < q.1.2)) ∨ (p.1 = q.1 ∧ (p.2.1 < q.2.1 ∨ (p.2.1 = q.2.1 ∧ p.2.2 < q.2.2))) → PySem.W.dataLe false py (pairD p) (pairD q) = true := fun p q hpq => by
      rw [PySem.W.dataLe_eq]
      show (!PySem.W.dataLt (.tuple [py (pD q.1), py (pD q.2)]) (.tuple [py (pD p.1), py (pD p.2)])) = true
      rw [PySem.W.dataLt_pair (by rfl) (by rfl), lt, lt]
      have ev : ∀ a b : PI2, PyData.eqv (py (pD a)) (py (pD b)) = decide (a.1 = b.1 ∧ a.2 = b.2) := fun a b => eqv_pair a.1 a.2 b.1 b.2
      rw [ev, ev]
      rcases hpq with hpq | ⟨e, hpq⟩
      · rw [if_neg (by rw [decide_eq_true_iff]; omega), decide_eq_false (by omega)]
        rfl
      · rw [if_pos (by rw [e, decide_eq_true_iff]; exact ⟨rfl, rfl⟩)]
        split
        · rfl
        · rw [decide_eq_false (by omega)]
          rfl
    unfold pairsL
    refine List.pairwise_append.mpr ⟨?_, pairs_rise h2, fun a ha b hb => ?_⟩
    · refine List.pairwise_map.mpr ((h2.filter _).imp fun {a b} hab => le (x, a) (x, b) (.inr ⟨rfl, hab⟩))
    · obtain ⟨y, hy, rfl⟩ := List.mem_map.mp ha
      have mem : ∀ {l : List PI2} {p : PI2 × PI2}, p ∈ pairsL l → p.1 ∈ l := by
        intro l
        induction l with
        | nil => intro p hp; cases hp
        | cons z l ih =>
          intro p hp
          unfold pairsL at hp
          rcases List.mem_append.mp hp with hp | hp
          · obtain ⟨w, _, rfl⟩ := List.mem_map.mp hp
            exact List.mem_cons_self
          · exact List.mem_cons_of_mem _ (ih hp)
      exact le (x, y) b (.inl (h1 b.1 (mem hb)))
theorem fSorted_pairs (d : D) (ts : List PI2) (S : Store) (h : seqOf S d = some ((pairsL ts).map pairD)) (hl : ts.length ≤ 18) (hp : ts.Pairwise (fun a b => a.1 < b.1 ∨ (a.1 = b.1 ∧ a.2 < b.2))) : fSorted [d] S = .ok ((pairsL ts).map pairD) S := by
  unfold fSorted
  dsimp only
  rw [h]
  dsimp only
  rw [if_pos]
  · rw [List.mergeSort_of_pairwise]
    exact List.pairwise_map.mpr (pairs_rise hp)
  · refine ⟨?_, List.all_eq_true.mpr fun x hx => ?_, ?_, .inl fun x hx => ?_⟩
    · rw [List.length_map]
      have := pairsL_len ts
      have h2 : ts.length * ts.length ≤ 18 * 18 := Nat.mul_le_mul hl hl
      unfold big
      omega
    · obtain ⟨i, _, rfl⟩ := List.mem_map.mp hx
      rfl
    · intro x hx y hy
      rw [List.map_map] at hx hy
      obtain ⟨i, _, rfl⟩ := List.mem_map.mp hx
      obtain ⟨j, _, rfl⟩ := List.mem_map.mp hy
      rfl
    · rw [List.map_map] at hx
      obtain ⟨i, _, rfl⟩ := List.mem_map.mp hx
      exact ⟨_, _, rfl⟩

theorem law_turn (c : Int) (sc : Option D) (S0 : Store) : ∃ e2 S2, c_law_b3 [sc, some (.int c), none, none, none, none, none, none] S0 = .next e2 S2 ∧ clr e2 [1, 2, 3, 4, 5, 6, 7] = [sc, none, none, none, none, none, none, none] := by
  have hf := feed_spec c S0
  obtain ⟨c', t', n, ts, hw, gw⟩ := law_web_spec (S0 ++ [.lst [.int c, .int 0, .int (if c ≥ 10 ^ 18 then 1 else 0)]]) S0.length c 0 (if c ≥ 10 ^ 18 then 1 else 0) (by rw [List.getElem?_append_right (Nat.le_refl _)]; simp [fdD]) (by decide) (by decide)
  generalize (if c ≥ 10 ^ 18 then 1 else 0 : Int) = f at hf hw
  have hset : (S0 ++ [Ob.lst [.int c, .int 0, .int f]]).set S0.length (fdD c' t' f) = S0 ++ [fdD c' t' f] := by
    rw [List.set_append_right _ _ (Nat.le_refl _), Nat.sub_self]; rfl
  rw [hset] at hw
  obtain ⟨R, hR⟩ : ∃ R : Store, R = S0 ++ [fdD c' t' f] := ⟨_, rfl⟩
  rw [← hR] at hw
  have hpr := pairs_spec n ts R gw.len
  have hstr := pw_strict gw.pw gw.nd
  have hlt : ∀ z ∈ ts, z.1 < z.2 := fun z hz => (gw.tie z hz).2.1
  have hcell : ∀ l, (R ++ [Ob.lst l])[R.length]? = some (.lst l) := fun l => by rw [List.getElem?_append_right (Nat.le_refl _)]; simp
  have hsetc : ∀ l l', (R ++ [Ob.lst l]).set R.length (.lst l') = R ++ [Ob.lst l'] := fun l l' => by rw [List.set_append_right _ _ (Nat.le_refl _), Nat.sub_self]; rfl
  obtain ⟨fo, hfo⟩ : ∃ fo : D, fo = .tup ((pairsL ts).map pairD) := ⟨_, rfl⟩
  have hls : ∀ (x y : PI2) (S : Store), dLenSet (.tup [.int x.1, .int x.2, .int y.1, .int y.2]) S = .ok (.int ((ded [x.1, x.2, y.1, y.2]).length : Nat)) S := fun x y S => by
    unfold dLenSet
    rfl
  have bdy : ∀ (x y : PI2) (acc : List D), x ∈ ts → y ∈ ts → acc.length < 1000000 → c_law_b1 [sc, some (.int c), some (webD n ts), some fo, some (.cell R.length), some (pD x), some (pD y), none] (R ++ [.lst acc]) =
      .next [sc, some (.int c), some (webD n ts), some fo, some (.cell R.length), some (pD x), some (pD y), some (.bl (bt x y))] (R ++ [.lst (acc ++ (([y].filter (dueC x)).map (fun y => (x, y))).map pairD)]) := fun x y acc hx hy hbig => by
    have h1 := by_turns_spec x y (R ++ [.lst acc])
    have h2 := law_turns_spec x y (R ++ [.lst acc]) (hlt x hx) (hlt y hy)
    have h4 := hls x y (R ++ [.lst acc])
    obtain ⟨a, b⟩ := x
    obtain ⟨p, q⟩ := y
    have e5 : dueC (a, b) (p, q) = (HT.lexLt [a, b] [p, q] && decide ((ded [a, b, p, q]).length = 4)) := rfl
    simp only at h4
    generalize (ded [a, b, p, q]).length = m at h4 e5
    generalize bt (a, b) (p, q) = z at h1 h2 ⊢
    unfold pD at h1 h2 ⊢
    simp only at h1 h2 ⊢
    have hm4 : ((m : Int) = 4) ↔ m = 4 := by omega
    cases hl : HT.lexLt [a, b] [p, q] with
    | false =>
      rw [hl] at e5
      simp [c_law_b1, sSeq, sIf, sFor, sRet, sAsg, sExpr, sCl, sNil, sSet, sPar, sAug, tOr', tAnd', tNot', tYes', tst, eB, e1, Rf.e2, eNot, eAnd, eOr, eIf, aCons, aNil, eVar, eC, eTup, eCall, cel, Rf.fz, fLst, eMt, eSl, oNone, oSome, dIsi, tyN, isiT, dLen, seqOf, isTup, dNe, dEq, dLt, dLe, dGt, dGe, dAdd, dSub, dMod, dFdiv, dMulI, dPow, i2, cT, iSeq, fIt, iR1, IT.chk, pName, pTup, pCons, pNil, clr, dIx, atI, ixN, dSl, big, dMin2, nums, dInt, dTuple, dAppend, isLst, Rf.cellOf, dSetL, sBad, h1, h2, hl, e5]
    | true =>
      rw [hl] at e5
      by_cases hm : m = 4
      · simp [c_law_b1, sSeq, sIf, sFor, sRet, sAsg, sExpr, sCl, sNil, sSet, sPar, sAug, tOr', tAnd', tNot', tYes', tst, eB, e1, Rf.e2, eNot, eAnd, eOr, eIf, aCons, aNil, eVar, eC, eTup, eCall, cel, Rf.fz, fLst, eMt, eSl, oNone, oSome, dIsi, tyN, isiT, dLen, seqOf, isTup, dNe, dEq, dLt, dLe, dGt, dGe, dAdd, dSub, dMod, dFdiv, dMulI, dPow, i2, cT, iSeq, fIt, iR1, IT.chk, pName, pTup, pCons, pNil, clr, dIx, atI, ixN, dSl, big, dMin2, nums, dInt, dTuple, dAppend, isLst, Rf.cellOf, dSetL, sBad, h1, h2, hl, e5, h4, hm, hcell, hsetc, hbig, pairD, pD]
      · simp [c_law_b1, sSeq, sIf, sFor, sRet, sAsg, sExpr, sCl, sNil, sSet, sPar, sAug, tOr', tAnd', tNot', tYes', tst, eB, e1, Rf.e2, eNot, eAnd, eOr, eIf, aCons, aNil, eVar, eC, eTup, eCall, cel, Rf.fz, fLst, eMt, eSl, oNone, oSome, dIsi, tyN, isiT, dLen, seqOf, isTup, dNe, dEq, dLt, dLe, dGt, dGe, dAdd, dSub, dMod, dFdiv, dMulI, dPow, i2, cT, iSeq, fIt, iR1, IT.chk, pName, pTup, pCons, pNil, clr, dIx, atI, ixN, dSl, big, dMin2, nums, dInt, dTuple, dAppend, isLst, Rf.cellOf, dSetL, sBad, h1, h2, hl, e5, h4, hm4, hm]
  have inner : ∀ (x : PI2) (acc : List D), x ∈ ts → acc.length ≤ 400 →
      loopD (pName 6) c_law_b1 [6, 7] (fun _ => True) (ts.map pD) [sc, some (.int c), some (webD n ts), some fo, some (.cell R.length), some (pD x), none, none] (R ++ [.lst acc]) =
        .next [sc, some (.int c), some (webD n ts), some fo, some (.cell R.length), some (pD x), none, none] (R ++ [.lst (acc ++ ((ts.filter (dueC x)).map (fun y => (x, y))).map pairD)]) := fun x acc hx ha => by
    obtain ⟨S', h1, h2⟩ := lp_inv (p := pName 6) (body := c_law_b1) (dead := [6, 7]) (env := [sc, some (.int c), some (webD n ts), some fo, some (.cell R.length), some (pD x), none, none]) pD (fun pre S' => S' = R ++ [.lst (acc ++ ((pre.filter (dueC x)).map (fun y => (x, y))).map pairD)]) ts [] (R ++ [.lst acc]) (by simp) (by
      rintro pre y post hpre S' rfl
      have hpre' : ts = pre ++ y :: post := by simpa using hpre
      have hlen : pre.length ≤ 18 := by
        have := congrArg List.length hpre'
        simp at this
        have := gw.len
        omega
      have hfl := List.length_filter_le (dueC x) pre
      refine ⟨_, _, _, rfl, .inl (bdy x y _ hx (by rw [hpre']; simp) (by rw [List.length_append, List.length_map, List.length_map]; omega)), rfl, ?_⟩
      rw [List.filter_append, List.map_append, List.map_append, List.append_assoc])
    rw [h1, h2]
    rfl
  have hix : ∀ S, dIx (webD n ts) (.int 1) S = .ok (.tup (ts.map pD)) S := fun _ => rfl
  have outer : ∃ S', loopD (pName 5) c_law_b2 [5, 6, 7] (fun _ => True) (ts.map pD) [sc, some (.int c), some (webD n ts), some fo, some (.cell R.length), none, none, none] (R ++ [.lst []]) =
        .next [sc, some (.int c), some (webD n ts), some fo, some (.cell R.length), none, none, none] S' ∧ S' = R ++ [.lst ((dueL ([] ++ ts) ts).map pairD)] := by
    refine lp_inv pD (fun pre S' => S' = R ++ [.lst ((dueL pre ts).map pairD)]) ts [] _ rfl ?_
    rintro pre x post hpre S' rfl
    have hpre' : ts = pre ++ x :: post := by simpa using hpre
    have hlen : pre.length ≤ 18 := by
      have := congrArg List.length hpre'
      simp at this
      have := gw.len
      omega
    have hdl : (dueL pre ts).length ≤ pre.length * 18 := by
      clear hpre hpre' hlen
      induction pre with
      | nil => exact Nat.le_refl _
      | cons z pre ih =>
        unfold dueL at ih ⊢
        rw [List.flatMap_cons, List.length_append, List.length_map, List.length_cons]
        have h1 := List.length_filter_le (dueC z) ts
        have := gw.len
        omega
    have hin := inner x ((dueL pre ts).map pairD) (by rw [hpre']; simp) (by rw [List.length_map]; omega)
    refine ⟨_, [sc, some (.int c), some (webD n ts), some fo, some (.cell R.length), some (pD x), none, none], R ++ [.lst ((dueL (pre ++ [x]) ts).map pairD)], rfl, .inl ?_, rfl, rfl⟩
    · have e : (dueL (pre ++ [x]) ts).map pairD = (dueL pre ts).map pairD ++ ((ts.filter (dueC x)).map (fun y => (x, y))).map pairD := by
        unfold dueL
        rw [List.flatMap_append, List.map_append]
        simp
      rw [e]
      simp only [c_law_b2, sSeq, sIf, sFor, sRet, sAsg, sExpr, sCl, sNil, sSet, sPar, sAug, tOr', tAnd', tNot', tYes', tst, eB, e1, Rf.e2, eNot, eAnd, eOr, eIf, aCons, aNil, eVar, eC, eTup, eCall, cel, Rf.fz, fLst, eMt, eSl, oNone, oSome, dIsi, tyN, isiT, dLen, seqOf, isTup, dNe, dEq, dLt, dLe, dGt, dGe, dAdd, dSub, dMod, dFdiv, dMulI, dPow, i2, cT, iSeq, fIt, iR1, IT.chk, pName, pTup, pCons, pNil, clr, atI, ixN, dSl, big, dMin2, nums, dInt, dTuple, dAppend, isLst, Rf.cellOf, dSetL, sBad]
      simp [hix, chk_nil]
      simp only [List.map_map] at hin
      exact hin
  obtain ⟨S', ho, rfl⟩ := outer
  have edue : dueL ([] ++ ts) ts = pairsL ts := due_pairs hlt hstr
  rw [edue] at ho
  have hsrt := fSorted_pairs (.cell R.length) ts (R ++ [.lst ((pairsL ts).map pairD)]) (by unfold seqOf; dsimp only; rw [hcell]) gw.len hstr
  have hsh : shD dpt (.tup ((pairsL ts).map pairD)) = true := by
    show ((pairsL ts).map pairD).all (shD 11) = true
    refine List.all_eq_true.mpr fun x hx => ?_
    obtain ⟨i, _, rfl⟩ := List.mem_map.mp hx
    rfl
  have heq : PyData.eqv (py (.tup ((pairsL ts).map pairD))) (py (.tup ((pairsL ts).map pairD))) = true := SeqAt.eqv_refl _ (shD_ok dpt _ hsh).1
  have hne : ∀ S, dNe fo (.tup ((pairsL ts).map pairD)) S = .ok (.bl false) S := fun S => by
    rw [hfo]
    show (if shD dpt (.tup ((pairsL ts).map pairD)) = true ∧ shD dpt (.tup ((pairsL ts).map pairD)) = true then Res.ok (D.bl (!PyData.eqv (py (.tup ((pairsL ts).map pairD))) (py (.tup ((pairsL ts).map pairD))))) S else Res.bad) = _
    rw [if_pos ⟨hsh, hsh⟩, heq]
    rfl
  have hisi : ∀ S, dIsi [fo, .ty "tuple"] S = .ok (.bl true) S := fun S => by rw [hfo]; rfl
  rw [← hfo] at hpr
  refine ⟨[sc, some (.int c), some (webD n ts), some fo, some (.cell R.length), none, none, none], R ++ [.lst ((pairsL ts).map pairD)], ?_, rfl⟩
  simp only [c_law_b3, sSeq, sIf, sFor, sRet, sAsg, sExpr, sCl, sNil, sSet, sPar, sAug, tOr', tAnd', tNot', tYes', tst, eB, e1, Rf.e2, eNot, eAnd, eOr, eIf, aCons, aNil, eVar, eC, eTup, eCall, cel, Rf.fz, fLst, eMt, eSl, oNone, oSome, tyN, isiT, dLen, seqOf, isTup, dEq, dLt, dLe, dGt, dGe, dAdd, dSub, dMod, dFdiv, dMulI, dPow, i2, cT, iSeq, fIt, iR1, IT.chk, pName, pTup, pCons, pNil, clr, atI, ixN, dSl, big, dMin2, nums, dInt, dTuple, dAppend, isLst, Rf.cellOf, dSetL, sBad]
  simp [hf, hw, hpr, hix, chk_nil]
  rw [ho]
  simp [hisi, hcell, hne, hsrt]
theorem law_true (ns : List Int) : ∃ S', m_law [.fz (ns.map .int)] [] = .ok (.bl true) S' := by
  have hcut : Rf.cutD (ns.map D.int) none (some 12) = (ns.take 12).map D.int := by
    unfold Rf.cutD
    rw [HT.sIx_none, show HT.sIx (ns.map D.int).length (ns.map D.int).length (some 12) = min 12 (ns.map D.int).length from HT.sIx_nat _ _ 12]
    rw [List.drop_zero, Nat.sub_zero, List.length_map, List.map_take]
    rw [List.take_eq_take_iff]
    simp
  obtain ⟨S', h1, _⟩ := lp_inv (p := pName 1) (body := c_law_b3) (dead := [1, 2, 3, 4, 5, 6, 7]) (env := [some (.fz (ns.map .int)), none, none, none, none, none, none, none]) D.int (fun _ _ => True) (ns.take 12) [] [] trivial (by
    rintro pre x post _ S _
    obtain ⟨e2, S2, q1, q2⟩ := law_turn x (some (.fz (ns.map .int))) S
    exact ⟨_, e2, S2, rfl, .inl q1, q2, trivial⟩)
  refine ⟨[], run_loc (L := S') ?_ rfl⟩
  simp only [c_law, sSeq, sIf, sFor, sRet, sAsg, sExpr, sCl, sNil, sSet, sPar, sAug, tOr', tAnd', tNot', tYes', tst, eB, e1, Rf.e2, eNot, eAnd, eOr, eIf, aCons, aNil, eVar, eC, eTup, eCall, cel, Rf.fz, fLst, eMt, eSl, oNone, oSome, dIsi, tyN, isiT, dLen, seqOf, isTup, dNe, dEq, dLt, dLe, dGt, dGe, dAdd, dSub, dMod, dFdiv, dMulI, dPow, i2, cT, iSeq, fIt, iR1, IT.chk, pName, pTup, pCons, pNil, clr, dIx, atI, ixN, dSl, big, dMin2, nums, dInt, dTuple, dAppend, isLst, Rf.cellOf, dSetL, sBad]
  simp [hcut, chk_nil, -List.map_take]
  rw [h1]
theorem sp_law {K : PySem.W.Frag} {H : Hp} {a : Addr} {ns : List Int} {E : XK} (hO : Only H) (hS : SqL K H a (ns.map V.int)) : spF K (fun _ => 0) 1 m_law [.ref a] H (fun v _ => v = .bl true) E := law_sp (law_true ns) hO hS

theorem all_mk {l : PySem.W.OpenLaw} {w : World} {K : PySem.W.Frag} {h : Heap} {mg : Str → Option Value} {fa : Addr} (X : K.In h) (G : h.Ns mainGlobals mg) (hfa : mg "law" = some (.ref fa))
    {f0 : Addr} {od0 an0 : Option Addr} {sl0 : Array (Option Value)} {oc0 kV0 dc0 pm0 cd0 ct0 : Value}
    (a0 : PySem.W.nsIn K mainGlobals "is_whole" = some (some (.ref f0))) (l0 : K.lookup f0 = some ⟨oc0, od0, .func (PySem.W.fnOf "is_whole" "is_whole" (defArgs s_is_whole) (defBody s_is_whole) (defScope s_is_whole) .none kV0 dc0 pm0 an0 cd0 ct0), sl0⟩) (c0 : PySem.W.codeIn K cd0 "is_whole" = true) (k0 : PySem.W.keepIn K (.ref f0) = true)
    {f1 : Addr} {od1 an1 : Option Addr} {sl1 : Array (Option Value)} {oc1 kV1 dc1 pm1 cd1 ct1 : Value}
    (a1 : PySem.W.nsIn K mainGlobals "tie_of" = some (some (.ref f1))) (l1 : K.lookup f1 = some ⟨oc1, od1, .func (PySem.W.fnOf "tie_of" "tie_of" (defArgs s_tie_of) (defBody s_tie_of) (defScope s_tie_of) .none kV1 dc1 pm1 an1 cd1 ct1), sl1⟩) (c1 : PySem.W.codeIn K cd1 "tie_of" = true) (k1 : PySem.W.keepIn K (.ref f1) = true)
    {f2 : Addr} {od2 an2 : Option Addr} {sl2 : Array (Option Value)} {oc2 kV2 dc2 pm2 cd2 ct2 : Value}
    (a2 : PySem.W.nsIn K mainGlobals "web" = some (some (.ref f2))) (l2 : K.lookup f2 = some ⟨oc2, od2, .func (PySem.W.fnOf "web" "web" (defArgs s_web) (defBody s_web) (defScope s_web) .none kV2 dc2 pm2 an2 cd2 ct2), sl2⟩) (c2 : PySem.W.codeIn K cd2 "web" = true) (k2 : PySem.W.keepIn K (.ref f2) = true)
    {f3 : Addr} {od3 an3 : Option Addr} {sl3 : Array (Option Value)} {oc3 kV3 dc3 pm3 cd3 ct3 : Value}
    (a3 : PySem.W.nsIn K mainGlobals "_law_draw" = some (some (.ref f3))) (l3 : K.lookup f3 = some ⟨oc3, od3, .func (PySem.W.fnOf "_law_draw" "_law_draw" (defArgs s_law_draw) (defBody s_law_draw) (defScope s_law_draw) .none kV3 dc3 pm3 an3 cd3 ct3), sl3⟩) (c3 : PySem.W.codeIn K cd3 "_law_draw" = true) (k3 : PySem.W.keepIn K (.ref f3) = true)
    {f4 : Addr} {od4 an4 : Option Addr} {sl4 : Array (Option Value)} {oc4 kV4 dc4 pm4 cd4 ct4 : Value}
    (a4 : PySem.W.nsIn K mainGlobals "_law_web" = some (some (.ref f4))) (l4 : K.lookup f4 = some ⟨oc4, od4, .func (PySem.W.fnOf "_law_web" "_law_web" (defArgs s_law_web) (defBody s_law_web) (defScope s_law_web) .none kV4 dc4 pm4 an4 cd4 ct4), sl4⟩) (c4 : PySem.W.codeIn K cd4 "_law_web" = true) (k4 : PySem.W.keepIn K (.ref f4) = true)
    {f5 : Addr} {od5 an5 : Option Addr} {sl5 : Array (Option Value)} {oc5 kV5 dc5 pm5 cd5 ct5 : Value}
    (a5 : PySem.W.nsIn K mainGlobals "meet" = some (some (.ref f5))) (l5 : K.lookup f5 = some ⟨oc5, od5, .func (PySem.W.fnOf "meet" "meet" (defArgs s_meet) (defBody s_meet) (defScope s_meet) .none kV5 dc5 pm5 an5 cd5 ct5), sl5⟩) (c5 : PySem.W.codeIn K cd5 "meet" = true) (k5 : PySem.W.keepIn K (.ref f5) = true)
    {f6 : Addr} {od6 an6 : Option Addr} {sl6 : Array (Option Value)} {oc6 kV6 dc6 pm6 cd6 ct6 : Value}
    (a6 : PySem.W.nsIn K mainGlobals "pairs" = some (some (.ref f6))) (l6 : K.lookup f6 = some ⟨oc6, od6, .func (PySem.W.fnOf "pairs" "pairs" (defArgs s_pairs) (defBody s_pairs) (defScope s_pairs) .none kV6 dc6 pm6 an6 cd6 ct6), sl6⟩) (c6 : PySem.W.codeIn K cd6 "pairs" = true) (k6 : PySem.W.keepIn K (.ref f6) = true)
    {f7 : Addr} {od7 an7 : Option Addr} {sl7 : Array (Option Value)} {oc7 kV7 dc7 pm7 cd7 ct7 : Value}
    (a7 : PySem.W.nsIn K mainGlobals "_law_feed" = some (some (.ref f7))) (l7 : K.lookup f7 = some ⟨oc7, od7, .func (PySem.W.fnOf "_law_feed" "_law_feed" (defArgs s_law_feed) (defBody s_law_feed) (defScope s_law_feed) .none kV7 dc7 pm7 an7 cd7 ct7), sl7⟩) (c7 : PySem.W.codeIn K cd7 "_law_feed" = true) (k7 : PySem.W.keepIn K (.ref f7) = true)
    {f8 : Addr} {od8 an8 : Option Addr} {sl8 : Array (Option Value)} {oc8 kV8 dc8 pm8 cd8 ct8 : Value}
    (a8 : PySem.W.nsIn K mainGlobals "by_turns" = some (some (.ref f8))) (l8 : K.lookup f8 = some ⟨oc8, od8, .func (PySem.W.fnOf "by_turns" "by_turns" (defArgs s_by_turns) (defBody s_by_turns) (defScope s_by_turns) .none kV8 dc8 pm8 an8 cd8 ct8), sl8⟩) (c8 : PySem.W.codeIn K cd8 "by_turns" = true) (k8 : PySem.W.keepIn K (.ref f8) = true)
    {f9 : Addr} {od9 an9 : Option Addr} {sl9 : Array (Option Value)} {oc9 kV9 dc9 pm9 cd9 ct9 : Value}
    (a9 : PySem.W.nsIn K mainGlobals "_law_turns" = some (some (.ref f9))) (l9 : K.lookup f9 = some ⟨oc9, od9, .func (PySem.W.fnOf "_law_turns" "_law_turns" (defArgs s_law_turns) (defBody s_law_turns) (defScope s_law_turns) .none kV9 dc9 pm9 an9 cd9 ct9), sl9⟩) (c9 : PySem.W.codeIn K cd9 "_law_turns" = true) (k9 : PySem.W.keepIn K (.ref f9) = true)
    {f10 : Addr} {od10 an10 : Option Addr} {sl10 : Array (Option Value)} {oc10 kV10 dc10 pm10 cd10 ct10 : Value}
    (a10 : PySem.W.nsIn K mainGlobals "law" = some (some (.ref f10))) (l10 : K.lookup f10 = some ⟨oc10, od10, .func (PySem.W.fnOf "law" "law" (defArgs s_law) (defBody s_law) (defScope s_law) .none kV10 dc10 pm10 an10 cd10 ct10), sl10⟩) (c10 : PySem.W.codeIn K cd10 "law" = true) (k10 : PySem.W.keepIn K (.ref f10) = true)
    (z_bool : PySem.W.nsIn K mainGlobals "bool" = some none)
    (z_enumerate : PySem.W.nsIn K mainGlobals "enumerate" = some none)
    (z_int : PySem.W.nsIn K mainGlobals "int" = some none)
    (z_isinstance : PySem.W.nsIn K mainGlobals "isinstance" = some none)
    (z_len : PySem.W.nsIn K mainGlobals "len" = some none)
    (z_max : PySem.W.nsIn K mainGlobals "max" = some none)
    (z_min : PySem.W.nsIn K mainGlobals "min" = some none)
    (z_range : PySem.W.nsIn K mainGlobals "range" = some none)
    (z_set : PySem.W.nsIn K mainGlobals "set" = some none)
    (z_sorted : PySem.W.nsIn K mainGlobals "sorted" = some none)
    (z_tuple : PySem.W.nsIn K mainGlobals "tuple" = some none)
    {t_MOST_PLACES : Tok} (v_MOST_PLACES : PySem.W.nsIn K mainGlobals "MOST_PLACES" = some (some (.int 10 t_MOST_PLACES)))
    {t_MOST_TIES : Tok} (v_MOST_TIES : PySem.W.nsIn K mainGlobals "MOST_TIES" = some (some (.int 18 t_MOST_TIES)))
    : ∃ fd : FuncData, (∀ (s : Shared) (v : Value), BindsTo s fd ⟨[v], []⟩ [("_law_script", v)]) ∧ ∀ base : Heap, K.In base → base.Ns mainGlobals mg → FnOk l.prog w K mg base (L2.CX l.prog w) 5 fa fd ["_law_script"] (spF K (fun _ => 0) 1 m_law) := by
  have e := hfa.symm.trans (PySem.W.mg_of X G a10)
  cases e
  have F0 := fun_mk (st := s_is_whole) l0 c0 k0
  have b0 := F0.binds (ps := ["thing"]) fun _ _ _ _ _ _ us hl => match us, hl with | [_], _ => rfl
  have F1 := fun_mk (st := s_tie_of) l1 c1 k1
  have b1 := F1.binds (ps := ["thing", "n"]) fun _ _ _ _ _ _ us hl => match us, hl with | [_, _], _ => rfl
  have F2 := fun_mk (st := s_web) l2 c2 k2
  have b2 := F2.binds (ps := ["n", "some"]) fun _ _ _ _ _ _ us hl => match us, hl with | [_, _], _ => rfl
  have F3 := fun_mk (st := s_law_draw) l3 c3 k3
  have b3 := F3.binds (ps := ["_law_feed_here", "_law_many"]) fun _ _ _ _ _ _ us hl => match us, hl with | [_, _], _ => rfl
  have F4 := fun_mk (st := s_law_web) l4 c4 k4
  have b4 := F4.binds (ps := ["_law_feed_here"]) fun _ _ _ _ _ _ us hl => match us, hl with | [_], _ => rfl
  have F5 := fun_mk (st := s_meet) l5 c5 k5
  have b5 := F5.binds (ps := ["one", "other"]) fun _ _ _ _ _ _ us hl => match us, hl with | [_, _], _ => rfl
  have F6 := fun_mk (st := s_pairs) l6 c6 k6
  have b6 := F6.binds (ps := ["web_here"]) fun _ _ _ _ _ _ us hl => match us, hl with | [_], _ => rfl
  have F7 := fun_mk (st := s_law_feed) l7 c7 k7
  have b7 := F7.binds (ps := ["_law_cell"]) fun _ _ _ _ _ _ us hl => match us, hl with | [_], _ => rfl
  have F8 := fun_mk (st := s_by_turns) l8 c8 k8
  have b8 := F8.binds (ps := ["one", "other"]) fun _ _ _ _ _ _ us hl => match us, hl with | [_, _], _ => rfl
  have F9 := fun_mk (st := s_law_turns) l9 c9 k9
  have b9 := F9.binds (ps := ["_law_one", "_law_other"]) fun _ _ _ _ _ _ us hl => match us, hl with | [_, _], _ => rfl
  have F10 := fun_mk (st := s_law) l10 c10 k10
  have b10 := F10.binds (ps := ["_law_script"]) fun _ _ _ _ _ _ us hl => match us, hl with | [_], _ => rfl
  exact ⟨_, fun s v => .of_eq rfl, fun base _ _ => ok_law (base := base) { cA := fun _ => 0, n_bool := PySem.W.mg_none_of X G z_bool, n_enumerate := PySem.W.mg_none_of X G z_enumerate, n_int := PySem.W.mg_none_of X G z_int, n_isinstance := PySem.W.mg_none_of X G z_isinstance, n_len := PySem.W.mg_none_of X G z_len, n_max := PySem.W.mg_none_of X G z_max, n_min := PySem.W.mg_none_of X G z_min, n_range := PySem.W.mg_none_of X G z_range, n_set := PySem.W.mg_none_of X G z_set, n_sorted := PySem.W.mg_none_of X G z_sorted, n_tuple := PySem.W.mg_none_of X G z_tuple, t_MOST_PLACES := t_MOST_PLACES, c_MOST_PLACES := PySem.W.mg_of X G v_MOST_PLACES, t_MOST_TIES := t_MOST_TIES, c_MOST_TIES := PySem.W.mg_of X G v_MOST_TIES, a_is_whole := f0, fd_is_whole := _, F_is_whole := F0, g_is_whole := PySem.W.mg_of X G a0, b_is_whole := b0, a_tie_of := f1, fd_tie_of := _, F_tie_of := F1, g_tie_of := PySem.W.mg_of X G a1, b_tie_of := b1, a_web := f2, fd_web := _, F_web := F2, g_web := PySem.W.mg_of X G a2, b_web := b2, a_law_draw := f3, fd_law_draw := _, F_law_draw := F3, g_law_draw := PySem.W.mg_of X G a3, b_law_draw := b3, a_law_web := f4, fd_law_web := _, F_law_web := F4, g_law_web := PySem.W.mg_of X G a4, b_law_web := b4, a_meet := f5, fd_meet := _, F_meet := F5, g_meet := PySem.W.mg_of X G a5, b_meet := b5, a_pairs := f6, fd_pairs := _, F_pairs := F6, g_pairs := PySem.W.mg_of X G a6, b_pairs := b6, a_law_feed := f7, fd_law_feed := _, F_law_feed := F7, g_law_feed := PySem.W.mg_of X G a7, b_law_feed := b7, a_by_turns := f8, fd_by_turns := _, F_by_turns := F8, g_by_turns := PySem.W.mg_of X G a8, b_by_turns := b8, a_law_turns := f9, fd_law_turns := _, F_law_turns := F9, g_law_turns := PySem.W.mg_of X G a9, b_law_turns := b9, a_law := fa, fd_law := _, F_law := F10, g_law := PySem.W.mg_of X G a10, b_law := b10 }⟩
end Law
open PySem PySem.W PyProof.Rows
set_option maxRecDepth 100000 in
set_option maxHeartbeats 0 in
theorem PySem.Challenge.cw_leastcross_k03_pairs_holds : PySem.Challenge.rw_leastcross_k03_pairs.Holds := by
  w_on; o_law; k_head; (case hw => w_witness2)
  k_fill
  refine L2.walk_of (l := PySem.Challenge.rw_leastcross_k03_pairs) (n := 63) (k := 5) (x := "_law_script") (CX := fun w => L2.CX PySem.Challenge.rw_leastcross_k03_pairs.prog w) (sp := fun w => Rf.spF _ (fun _ => 0) 1 Law.m_law) rfl (by decide) rfl ⟨rfl, by decide, by decide⟩ (fun w h Y => PySem.W.kIn_of Y) ?F (fun _ _ _ _ hl hO hS => Law.sp_law hO hS) (fun _ _ _ _ _ h => Rf.no_cx h)
  case F =>
    intro w mg fa h KX G hmg
    refine' Law.all_mk KX G hmg ?a0 ?l0 ?c0 ?k0 ?a1 ?l1 ?c1 ?k1 ?a2 ?l2 ?c2 ?k2 ?a3 ?l3 ?c3 ?k3 ?a4 ?l4 ?c4 ?k4 ?a5 ?l5 ?c5 ?k5 ?a6 ?l6 ?c6 ?k6 ?a7 ?l7 ?c7 ?k7 ?a8 ?l8 ?c8 ?k8 ?a9 ?l9 ?c9 ?k9 ?a10 ?l10 ?c10 ?k10 ?z_bool ?z_enumerate ?z_int ?z_isinstance ?z_len ?z_max ?z_min ?z_range ?z_set ?z_sorted ?z_tuple ?v_MOST_PLACES ?v_MOST_TIES
    (case a0 => k_is); (case l0 => k_is); (case c0 => k_is); (case k0 => k_is); (case a1 => k_is); (case l1 => k_is); (case c1 => k_is); (case k1 => k_is); (case a2 => k_is); (case l2 => k_is); (case c2 => k_is); (case k2 => k_is); (case a3 => k_is); (case l3 => k_is); (case c3 => k_is); (case k3 => k_is); (case a4 => k_is); (case l4 => k_is); (case c4 => k_is); (case k4 => k_is); (case a5 => k_is); (case l5 => k_is); (case c5 => k_is); (case k5 => k_is); (case a6 => k_is); (case l6 => k_is); (case c6 => k_is); (case k6 => k_is); (case a7 => k_is); (case l7 => k_is); (case c7 => k_is); (case k7 => k_is); (case a8 => k_is); (case l8 => k_is); (case c8 => k_is); (case k8 => k_is); (case a9 => k_is); (case l9 => k_is); (case c9 => k_is); (case k9 => k_is); (case a10 => k_is); (case l10 => k_is); (case c10 => k_is); (case k10 => k_is); (case z_bool => k_is); (case z_enumerate => k_is); (case z_int => k_is); (case z_isinstance => k_is); (case z_len => k_is); (case z_max => k_is); (case z_min => k_is); (case z_range => k_is); (case z_set => k_is); (case z_sorted => k_is); (case z_tuple => k_is); (case v_MOST_PLACES => k_is); (case v_MOST_TIES => k_is)
