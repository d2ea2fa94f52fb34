import PyProof.Rows.All
import Wide.All
import OpenK.AllK
import Wide.FinOn
import HandS.ForMost
import HandS.ForExc
import HandS.TupAny
import HandS.Deep
import HandS.IsInst
import HandS.TupSets
import HandS.Walk
import HandS.Zip
import KE.GoesMore
import KE.SortData
import KE.DataMinMax
import HandS.Style
import HandS.Conv
import HandS.Strs
import PySem.Challenge.RW_leastcross_k78_crossings_by_orders
set_option Elab.async false
set_option linter.all false
set_option maxRecDepth 100000
set_option maxHeartbeats 4000000
namespace Rf
open PySem PySem.Spec PyProof.Rows L2

/-! ### data, stores -/
inductive D where
  | non | bl (b : Bool) | int (i : Int) | str (x : Str) | ty (n : String)
  | tup (ds : List D) | lst (ds : List D) | fz (ds : List D) | cell (n : Nat)
inductive Ob where
  | lst (ds : List D)
  | dK (kvs : List (Key × D))
abbrev Store := List Ob
abbrev En := List (Option D)

mutual
def pureD : D → Bool
  | .tup ds => pureL ds
  | .lst ds => pureL ds
  | .fz ds => pureL ds
  | .cell _ => false
  | .non | .bl _ | .int _ | .str _ | .ty _ => true
def pureL : List D → Bool
  | [] => true
  | d :: ds => pureD d && pureL ds
end
mutual
def below (n : Nat) : D → Prop
  | .tup ds => belowL n ds
  | .lst ds => belowL n ds
  | .fz ds => belowL n ds
  | .cell k => k < n
  | .non | .bl _ | .int _ | .str _ | .ty _ => True
def belowL (n : Nat) : List D → Prop
  | [] => True
  | d :: ds => below n d ∧ belowL n ds
end
def Ob.pure : Ob → Bool
  | .lst ds => pureL ds
  | .dK kvs => kvs.all fun p => pureD p.2

inductive Res (α : Type) where
  | ok (a : α) (S : Store)
  | err (c : Nat) (S : Store)
  | bad
inductive RS where
  | next (e : En) (S : Store)
  | ret (d : D) (S : Store)
  | brk (e : En) (S : Store)
  | cont (e : En) (S : Store)
  | err (c : Nat) (e : En) (S : Store)
  | bad
abbrev M (α : Type) := En → Store → Res α
abbrev MS := En → Store → RS

/-! ### representation -/
def WrL (K : PySem.W.Frag) (a : Addr) (xs : List V) : Prop :=
  ∃ (o : Obj) (its : Array Value) (n : Nat), K.lookup a = some o ∧ o.cls = .type "list" ∧ o.dict = none ∧ o.data = .seq its n ∧ its.size ≤ sizeLine ∧ Vals xs its.toList
def FrL (G : Addr → Prop) (ρ : List Addr) (H : Hp) (a : Addr) (vs : List V) : Prop := a ∉ ρ ∧ ¬ G a ∧ H a = some (.lst vs)
def FzL (K : PySem.W.Frag) (H : Hp) (a : Addr) (vs : List V) : Prop := (∃ o, H a = some (.frz o (.lst vs))) ∨ WrL K a vs
theorem FrL.sq {K : PySem.W.Frag} {G : Addr → Prop} {ρ : List Addr} {H : Hp} {a : Addr} {vs : List V} (h : FrL G ρ H a vs) : SqL K H a vs := .inl (.inl h.2.2)
theorem FzL.sq {K : PySem.W.Frag} {H : Hp} {a : Addr} {vs : List V} (h : FzL K H a vs) : SqL K H a vs := by
  rcases h with h | h
  · exact .inl (.inr h)
  · exact .inr h
mutual
def Rep (K : PySem.W.Frag) (G : Addr → Prop) (ρ : List Addr) (H : Hp) : D → V → Prop
  | .non, v => v = .non
  | .bl b, v => v = .bl b
  | .int i, v => v = .int i
  | .str x, v => v = .str x
  | .ty n, v => v = .ty n
  | .tup ds, v => ∃ a vs, v = .ref a ∧ Rd H a (.tup vs) ∧ RepL K G ρ H ds vs
  | .lst ds, v => ∃ a vs, v = .ref a ∧ FrL G ρ H a vs ∧ RepL K G ρ H ds vs
  | .fz ds, v => ∃ a vs, v = .ref a ∧ FzL K H a vs ∧ RepL K G ρ H ds vs
  | .cell n, v => ∃ a, v = .ref a ∧ ρ[n]? = some a
def RepL (K : PySem.W.Frag) (G : Addr → Prop) (ρ : List Addr) (H : Hp) : List D → List V → Prop
  | [], vs => vs = []
  | d :: ds, vs => ∃ v vs', vs = v :: vs' ∧ Rep K G ρ H d v ∧ RepL K G ρ H ds vs'
end

/-- what stays of the heap: tuples, the lists that are no cells, what is guarded -/
structure Keep (G : Addr → Prop) (ρ : List Addr) (H : Hp) (ρ' : List Addr) (H' : Hp) : Prop where
  pre : ∃ t, ρ' = ρ ++ t
  tup : ∀ a xs, Rd H a (.tup xs) → Rd H' a (.tup xs)
  lst : ∀ a xs, a ∉ ρ → ¬ G a → H a = some (.lst xs) → a ∉ ρ' ∧ H' a = some (.lst xs)
  frz : ∀ a o u, H a = some (.frz o u) → H' a = some (.frz o u)
  grd : ∀ a, G a → H' a = H a
section
variable {K : PySem.W.Frag} {G : Addr → Prop} {ρ ρ' ρ'' : List Addr} {H H' H'' : Hp}
theorem Keep.refl : Keep G ρ H ρ H := ⟨⟨[], by simp⟩, fun _ _ h => h, fun _ _ h _ r => ⟨h, r⟩, fun _ _ _ h => h, fun _ _ => rfl⟩
theorem Keep.trans (a : Keep G ρ H ρ' H') (b : Keep G ρ' H' ρ'' H'') : Keep G ρ H ρ'' H'' := by
  obtain ⟨t, e⟩ := a.pre
  obtain ⟨u, e'⟩ := b.pre
  refine ⟨⟨t ++ u, by rw [e', e, List.append_assoc]⟩, fun x xs h => b.tup x xs (a.tup x xs h), fun x xs h g r => ?_, fun x o u h => b.frz x o u (a.frz x o u h), fun x h => (b.grd x h).trans (a.grd x h)⟩
  obtain ⟨h1, r1⟩ := a.lst x xs h g r
  exact b.lst x xs h1 g r1
theorem Keep.sqT (k : Keep G ρ H ρ' H') {a : Addr} {xs : List V} (h : SqT K H a xs) : SqT K H' a xs := by
  rcases h with h | h
  · exact .inl (k.tup a xs h)
  · exact .inr h
theorem Keep.frL (k : Keep G ρ H ρ' H') {a : Addr} {xs : List V} (h : FrL G ρ H a xs) : FrL G ρ' H' a xs :=
  let ⟨q1, q2⟩ := k.lst a xs h.1 h.2.1 h.2.2
  ⟨q1, h.2.1, q2⟩
theorem Keep.fzL (k : Keep G ρ H ρ' H') {a : Addr} {xs : List V} (h : FzL K H a xs) : FzL K H' a xs := by
  rcases h with ⟨o, h⟩ | h
  · exact .inl ⟨o, k.frz a o _ h⟩
  · exact .inr h
theorem Keep.get (k : Keep G ρ H ρ' H') {n : Nat} {a : Addr} (h : ρ[n]? = some a) : ρ'[n]? = some a := by
  obtain ⟨t, rfl⟩ := k.pre
  have hn : n < ρ.length := (List.getElem?_eq_some_iff.mp h).1
  rw [List.getElem?_append_left hn]
  exact h
mutual
theorem Rep.keep (k : Keep G ρ H ρ' H') : ∀ (d : D) (v : V), Rep K G ρ H d v → Rep K G ρ' H' d v
  | .non, _, h => h
  | .bl _, _, h => h
  | .int _, _, h => h
  | .str _, _, h => h
  | .ty _, _, h => h
  | .tup ds, v, h => by
    obtain ⟨a, vs, e, h1, h2⟩ := h
    exact ⟨a, vs, e, k.tup a vs h1, RepL.keep k ds vs h2⟩
  | .lst ds, v, h => by
    obtain ⟨a, vs, e, h1, h2⟩ := h
    exact ⟨a, vs, e, k.frL h1, RepL.keep k ds vs h2⟩
  | .fz ds, v, h => by
    obtain ⟨a, vs, e, h1, h2⟩ := h
    exact ⟨a, vs, e, k.fzL h1, RepL.keep k ds vs h2⟩
  | .cell n, v, h => by
    obtain ⟨a, e, h1⟩ := h
    exact ⟨a, e, k.get h1⟩
theorem RepL.keep (k : Keep G ρ H ρ' H') : ∀ (ds : List D) (vs : List V), RepL K G ρ H ds vs → RepL K G ρ' H' ds vs
  | [], _, h => h
  | d :: ds, vs, h => by
    obtain ⟨v, vs', e, h1, h2⟩ := h
    exact ⟨v, vs', e, Rep.keep k d v h1, RepL.keep k ds vs' h2⟩
end
theorem RepL.length : ∀ {ds : List D} {vs : List V}, RepL K G ρ H ds vs → vs.length = ds.length
  | [], _, h => by rw [show _ = [] from h]; rfl
  | d :: ds, vs, h => by
    obtain ⟨v, vs', rfl, h1, h2⟩ := h
    show vs'.length + 1 = ds.length + 1
    rw [RepL.length h2]
theorem RepL.get : ∀ {ds : List D} {vs : List V} {i : Nat} {d : D}, RepL K G ρ H ds vs → ds[i]? = some d → ∃ v, vs[i]? = some v ∧ Rep K G ρ H d v
  | [], _, i, d, _, e => by simp at e
  | d0 :: ds, vs, 0, d, h, e => by
    obtain ⟨v, vs', rfl, h1, h2⟩ := h
    simp at e
    subst e
    exact ⟨v, rfl, h1⟩
  | d0 :: ds, vs, i + 1, d, h, e => by
    obtain ⟨v, vs', rfl, h1, h2⟩ := h
    obtain ⟨w, h3, h4⟩ := RepL.get (i := i) (d := d) h2 (by simpa using e)
    exact ⟨w, by simpa using h3, h4⟩
theorem RepL.app : ∀ {ds es : List D} {vs ws : List V}, RepL K G ρ H ds vs → RepL K G ρ H es ws → RepL K G ρ H (ds ++ es) (vs ++ ws)
  | [], es, vs, ws, h, h' => by rw [show vs = [] from h]; exact h'
  | d :: ds, es, vs, ws, h, h' => by
    obtain ⟨v, vs', rfl, h1, h2⟩ := h
    exact ⟨v, vs' ++ ws, rfl, h1, RepL.app h2 h'⟩
theorem RepL.snoc {ds : List D} {vs : List V} {d : D} {v : V} (h : RepL K G ρ H ds vs) (h1 : Rep K G ρ H d v) : RepL K G ρ H (ds ++ [d]) (vs ++ [v]) :=
  RepL.app h ⟨v, [], rfl, h1, rfl⟩
theorem RepL.take : ∀ (n : Nat) {ds : List D} {vs : List V}, RepL K G ρ H ds vs → RepL K G ρ H (ds.take n) (vs.take n)
  | 0, ds, vs, h => by simp [RepL]
  | n + 1, [], vs, h => by rw [show vs = [] from h]; simp [RepL]
  | n + 1, d :: ds, vs, h => by
    obtain ⟨v, vs', rfl, h1, h2⟩ := h
    exact ⟨v, vs'.take n, rfl, h1, RepL.take n h2⟩
theorem RepL.drop : ∀ (n : Nat) {ds : List D} {vs : List V}, RepL K G ρ H ds vs → RepL K G ρ H (ds.drop n) (vs.drop n)
  | 0, ds, vs, h => h
  | n + 1, [], vs, h => by rw [show vs = [] from h]; simp [RepL]
  | n + 1, d :: ds, vs, h => by
    obtain ⟨v, vs', rfl, h1, h2⟩ := h
    exact RepL.drop n h2
theorem RepL.set : ∀ (n : Nat) {ds : List D} {vs : List V} {d : D} {v : V}, RepL K G ρ H ds vs → Rep K G ρ H d v → RepL K G ρ H (ds.set n d) (vs.set n v)
  | _, [], vs, _, _, h, _ => by rw [show vs = [] from h]; simp [RepL]
  | 0, d0 :: ds, vs, d, v, h, h0 => by
    obtain ⟨w, vs', rfl, h1, h2⟩ := h
    exact ⟨v, vs', rfl, h0, h2⟩
  | n + 1, d0 :: ds, vs, d, v, h, h0 => by
    obtain ⟨w, vs', rfl, h1, h2⟩ := h
    exact ⟨w, vs'.set n v, rfl, h1, RepL.set n h2 h0⟩
theorem RepL.reverse {ds : List D} {vs : List V} (h : RepL K G ρ H ds vs) : RepL K G ρ H ds.reverse vs.reverse := by
  induction ds generalizing vs with
  | nil => rw [show vs = [] from h]; simp [RepL]
  | cons d ds ih =>
    obtain ⟨v, vs', rfl, h1, h2⟩ := h
    rw [List.reverse_cons, List.reverse_cons]
    exact (ih h2).snoc h1
theorem RepL.eraseIdx : ∀ (n : Nat) {ds : List D} {vs : List V}, RepL K G ρ H ds vs → RepL K G ρ H (ds.eraseIdx n) (vs.eraseIdx n)
  | _, [], vs, h => by rw [show vs = [] from h]; simp [RepL]
  | 0, d :: ds, vs, h => by
    obtain ⟨v, vs', rfl, h1, h2⟩ := h
    exact h2
  | n + 1, d :: ds, vs, h => by
    obtain ⟨v, vs', rfl, h1, h2⟩ := h
    exact ⟨v, vs'.eraseIdx n, rfl, h1, RepL.eraseIdx n h2⟩

/-! ### the store -/
def RepKV (K : PySem.W.Frag) (G : Addr → Prop) (ρ : List Addr) (H : Hp) : List (Key × D) → List (Key × V) → Prop
  | [], vs => vs = []
  | (k, d) :: r, vs => ∃ v vs', vs = (k, v) :: vs' ∧ Rep K G ρ H d v ∧ RepKV K G ρ H r vs'
def ObRep (K : PySem.W.Frag) (G : Addr → Prop) (ρ : List Addr) (H : Hp) : Ob → Addr → Prop
  | .lst ds, a => ∃ vs, H a = some (.lst vs) ∧ RepL K G ρ H ds vs
  | .dK kvs, a => ∃ vs, H a = some (.dK vs) ∧ RepKV K G ρ H kvs vs
theorem RepKV.keep (k : Keep G ρ H ρ' H') : ∀ (ds : List (Key × D)) (vs : List (Key × V)), RepKV K G ρ H ds vs → RepKV K G ρ' H' ds vs
  | [], _, h => h
  | (x, d) :: ds, vs, h => by
    obtain ⟨v, vs', e, h1, h2⟩ := h
    exact ⟨v, vs', e, Rep.keep k d v h1, RepKV.keep k ds vs' h2⟩
/-- each tuple is known to its object, which has no dict -/
def okO : HO → Prop
  | .tup _ => False
  | .frz o (.tup _) => o.dict = none
  | _ => True
structure RelS (K : PySem.W.Frag) (G : Addr → Prop) (ρ : List Addr) (S : Store) (H : Hp) : Prop where
  len : ρ.length = S.length
  nd : ρ.Nodup
  ng : ∀ a ∈ ρ, ¬ G a
  gt : ∀ a, G a → ∃ u, H a = some u
  tp : ∀ a o, H a = some o → okO o
  ob : ∀ (i : Nat) (o : Ob) (a : Addr), S[i]? = some o → ρ[i]? = some a → ObRep K G ρ H o a
theorem RelS.at (r : RelS K G ρ S H) {i : Nat} {o : Ob} (h : S[i]? = some o) : ∃ a, ρ[i]? = some a ∧ ObRep K G ρ H o a := by
  have hi : i < ρ.length := by rw [r.len]; exact (List.getElem?_eq_some_iff.mp h).1
  exact ⟨ρ[i], by rw [List.getElem?_eq_getElem hi], r.ob i o _ h (by rw [List.getElem?_eq_getElem hi])⟩
/-- what is laid at a free place -/
theorem Keep.new {p : Addr} {o : HO} (hn : H p = none) (hg : ∀ a, G a → ∃ u, H a = some u) : Keep G ρ H ρ (upd H p o) := by
  refine ⟨⟨[], by simp⟩, fun a xs h => ?_, fun a xs h1 h2 h => ⟨h1, by rw [upd_ne (ne_of_none h hn)]; exact h⟩, fun a o u h => by rw [upd_ne (ne_of_none h hn)]; exact h, fun a h => ?_⟩
  · rcases h with h | ⟨ob, h⟩
    · exact .inl (by rw [upd_ne (ne_of_none h hn)]; exact h)
    · exact .inr ⟨ob, by rw [upd_ne (ne_of_none h hn)]; exact h⟩
  · obtain ⟨u, e⟩ := hg a h
    rw [upd_ne (ne_of_none e hn)]
theorem okU {p : Addr} {u : HO} (hp : ∀ a o, H a = some o → okO o) (hu : okO u) : ∀ a o, upd H p u a = some o → okO o := fun a o h => by
  by_cases e : a = p
  · subst e; rw [upd_same] at h; cases h; exact hu
  · rw [upd_ne e] at h; exact hp a o h
theorem RelS.keep_at (r : RelS K G ρ S H) (k : Keep G ρ H ρ H') (same : ∀ a ∈ ρ, H' a = H a) (tp : ∀ a o, H' a = some o → okO o) : RelS K G ρ S H' := by
  refine ⟨r.len, r.nd, r.ng, fun a h => by rw [k.grd a h]; exact r.gt a h, tp, fun i o a h1 h2 => ?_⟩
  have := r.ob i o a h1 h2
  cases o with
  | lst ds =>
    obtain ⟨vs, e, h⟩ := this
    exact ⟨vs, by rw [same a (List.mem_of_getElem? h2)]; exact e, RepL.keep k ds vs h⟩
  | dK kvs =>
    obtain ⟨vs, e, h⟩ := this
    exact ⟨vs, by rw [same a (List.mem_of_getElem? h2)]; exact e, RepKV.keep k kvs vs h⟩
theorem ObRep.there {o : Ob} {a : Addr} (h : ObRep K G ρ H o a) : ∃ u, H a = some u := by
  cases o with
  | lst ds => obtain ⟨vs, e, _⟩ := h; exact ⟨_, e⟩
  | dK kvs => obtain ⟨vs, e, _⟩ := h; exact ⟨_, e⟩
theorem RelS.there (r : RelS K G ρ S H) {a : Addr} (h : a ∈ ρ) : ∃ u, H a = some u := by
  obtain ⟨i, hi, e⟩ := List.getElem_of_mem h
  have hS : i < S.length := by rw [← r.len]; exact hi
  exact (r.ob i S[i] a (by rw [List.getElem?_eq_getElem hS]) (by rw [List.getElem?_eq_getElem hi, e])).there
theorem RelS.fresh (r : RelS K G ρ S H) {p : Addr} (hn : H p = none) : p ∉ ρ := fun h => by
  obtain ⟨u, e⟩ := r.there h
  rw [hn] at e
  cases e
theorem RelS.new (r : RelS K G ρ S H) {p : Addr} {o : HO} (hn : H p = none) (ho : okO o := by exact True.intro) : RelS K G ρ S (upd H p o) :=
  r.keep_at (Keep.new hn r.gt) (fun a ha => upd_ne fun e => r.fresh hn (e ▸ ha)) (okU r.tp ho)
theorem RelS.ngn (r : RelS K G ρ S H) {p : Addr} (hn : H p = none) : ¬ G p := fun h => by
  obtain ⟨u, e⟩ := r.gt p h
  rw [hn] at e
  cases e
/-- a new cell -/
theorem Keep.cell {p : Addr} {o : HO} (hn : H p = none) (hg : ∀ a, G a → ∃ u, H a = some u) : Keep G ρ H (ρ ++ [p]) (upd H p o) := by
  have k : Keep G ρ H ρ (upd H p o) := Keep.new hn hg
  refine ⟨⟨[p], rfl⟩, k.tup, fun a xs h1 h2 h => ⟨?_, (k.lst a xs h1 h2 h).2⟩, k.frz, k.grd⟩
  simp [h1, ne_of_none h hn]
theorem RelS.alloc (r : RelS K G ρ S H) {p : Addr} {o : Ob} {u : HO} (hn : H p = none) (ho : ObRep K G (ρ ++ [p]) (upd H p u) o p) (hu : okO u := by exact True.intro) : RelS K G (ρ ++ [p]) (S ++ [o]) (upd H p u) := by
  have k : Keep G ρ H (ρ ++ [p]) (upd H p u) := Keep.cell hn r.gt
  have np := r.fresh hn
  refine ⟨by simp [r.len], ?_, fun a ha => ?_, fun a h => by rw [k.grd a h]; exact r.gt a h, okU r.tp hu, fun i o' a h1 h2 => ?_⟩
  · rw [List.nodup_append]
    refine ⟨r.nd, by simp, fun a ha b hb => ?_⟩
    rintro rfl
    simp at hb
    exact np (hb ▸ ha)
  · rcases List.mem_append.mp ha with h | h
    · exact r.ng a h
    · simp at h; rw [h]; exact r.ngn hn
  · by_cases hi : i < S.length
    · rw [List.getElem?_append_left hi] at h1
      rw [List.getElem?_append_left (by rw [r.len]; exact hi)] at h2
      have hne : a ≠ p := fun e => np (e ▸ List.mem_of_getElem? h2)
      have := r.ob i o' a h1 h2
      cases o' with
      | lst ds =>
        obtain ⟨vs, e, h⟩ := this
        exact ⟨vs, by rw [upd_ne hne]; exact e, RepL.keep k ds vs h⟩
      | dK kvs =>
        obtain ⟨vs, e, h⟩ := this
        exact ⟨vs, by rw [upd_ne hne]; exact e, RepKV.keep k kvs vs h⟩
    · have hi' : i = S.length := by
        have := (List.getElem?_eq_some_iff.mp h1).1
        simp at this
        omega
      subst hi'
      rw [List.getElem?_append_right (Nat.le_refl _)] at h1
      simp at h1
      subst h1
      rw [← r.len, List.getElem?_append_right (Nat.le_refl _)] at h2
      simp at h2
      subst h2
      exact ho
/-- a cell written -/
theorem Keep.write {p : Addr} {u : HO} (hp : p ∈ ρ) (hg : ¬ G p) (ht : (∃ vs, H p = some (.lst vs)) ∨ ∃ kvs, H p = some (.dK kvs)) : Keep G ρ H ρ (upd H p u) := by
  have nt : ∀ a o, H a = some o → (∀ vs, o ≠ .lst vs) → (∀ kvs, o ≠ .dK kvs) → a ≠ p := fun a o h n1 n2 e => by
    subst e
    rcases ht with ⟨vs, q⟩ | ⟨kvs, q⟩
    · rw [h] at q; cases q; exact n1 _ rfl
    · rw [h] at q; cases q; exact n2 _ rfl
  refine ⟨⟨[], by simp⟩, fun a xs h => ?_, fun a xs h1 h2 h => ⟨h1, ?_⟩, fun a o v h => ?_, fun a h => ?_⟩
  · rcases h with h | ⟨ob, h⟩
    · exact .inl (by rw [upd_ne (nt a _ h (fun _ q => nomatch q) (fun _ q => nomatch q))]; exact h)
    · exact .inr ⟨ob, by rw [upd_ne (nt a _ h (fun _ q => nomatch q) (fun _ q => nomatch q))]; exact h⟩
  · have hne : a ≠ p := fun e => h1 (e ▸ hp)
    rw [upd_ne hne]
    exact h
  · rw [upd_ne (nt a _ h (fun _ q => nomatch q) (fun _ q => nomatch q))]
    exact h
  · rw [upd_ne]
    rintro rfl
    exact hg h
theorem RelS.write (r : RelS K G ρ S H) {i : Nat} {p : Addr} {o : Ob} {u : HO} (hi : ρ[i]? = some p) (ht : (∃ vs, H p = some (.lst vs)) ∨ ∃ kvs, H p = some (.dK kvs)) (ho : ObRep K G ρ (upd H p u) o p) (hu : okO u := by exact True.intro) : RelS K G ρ (S.set i o) (upd H p u) ∧ Keep G ρ H ρ (upd H p u) := by
  have hm : p ∈ ρ := List.mem_of_getElem? hi
  have k : Keep G ρ H ρ (upd H p u) := Keep.write hm (r.ng p hm) ht
  refine ⟨⟨by simp [r.len], r.nd, r.ng, fun a h => by rw [k.grd a h]; exact r.gt a h, okU r.tp hu, fun j o' a h1 h2 => ?_⟩, k⟩
  by_cases hj : j = i
  · subst hj
    have : j < S.length := by rw [← r.len]; exact (List.getElem?_eq_some_iff.mp hi).1
    rw [List.getElem?_set_self this] at h1
    cases h1
    rw [hi] at h2
    cases h2
    exact ho
  · rw [List.getElem?_set_ne (Ne.symm hj)] at h1
    have hne : a ≠ p := fun e => hj (by
      have h3 := (List.getElem?_eq_some_iff.mp h2)
      have h4 := (List.getElem?_eq_some_iff.mp hi)
      obtain ⟨l3, e3⟩ := h3
      obtain ⟨l4, e4⟩ := h4
      exact (List.getElem_inj r.nd).mp (by rw [e3, e4, e]))
    have := r.ob j o' a h1 h2
    cases o' with
    | lst ds =>
      obtain ⟨vs, e, h⟩ := this
      exact ⟨vs, by rw [upd_ne hne]; exact e, RepL.keep k ds vs h⟩
    | dK kvs =>
      obtain ⟨vs, e, h⟩ := this
      exact ⟨vs, by rw [upd_ne hne]; exact e, RepKV.keep k kvs vs h⟩

/-! ### the slots -/
structure RelE (K : PySem.W.Frag) (G : Addr → Prop) (ρ : List Addr) (H : Hp) (env : En) (σ : L2.St) : Prop where
  len : σ.length = env.length
  get : ∀ (i : Nat) (d : D), env[i]? = some (some d) → ∃ v, σ[i]? = some (some v) ∧ Rep K G ρ H d v
theorem RelE.keep {env : En} {σ : L2.St} (k : Keep G ρ H ρ' H') (r : RelE K G ρ H env σ) : RelE K G ρ' H' env σ :=
  ⟨r.len, fun i d h => let ⟨v, h1, h2⟩ := r.get i d h; ⟨v, h1, Rep.keep k d v h2⟩⟩
theorem RelE.set {env : En} {σ : L2.St} (r : RelE K G ρ H env σ) {i : Nat} {d : D} {v : V} (h : Rep K G ρ H d v) : RelE K G ρ H (env.set i (some d)) (σ.set i (some v)) := by
  refine ⟨by simp [r.len], fun j d' e => ?_⟩
  by_cases hj : j = i
  · subst hj
    have hl : j < (env.set j (some d)).length := (List.getElem?_eq_some_iff.mp e).1
    rw [List.length_set] at hl
    rw [List.getElem?_set_self hl] at e
    cases e
    exact ⟨v, by rw [List.getElem?_set_self (by rw [r.len]; exact hl)], h⟩
  · rw [List.getElem?_set_ne (Ne.symm hj)] at e
    obtain ⟨w, h1, h2⟩ := r.get j d' e
    exact ⟨w, by rw [List.getElem?_set_ne (Ne.symm hj)]; exact h1, h2⟩
/-- some slots forgotten -/
def clr (env : En) : List Nat → En
  | [] => env
  | i :: r => (clr env r).set i none
theorem clr_length (env : En) : ∀ l : List Nat, (clr env l).length = env.length
  | [] => rfl
  | i :: r => by unfold clr; rw [List.length_set, clr_length env r]
theorem clr_get {env : En} {i : Nat} {d : D} : ∀ {l : List Nat}, (clr env l)[i]? = some (some d) → env[i]? = some (some d)
  | [], h => h
  | j :: r, h => by
    unfold clr at h
    by_cases e : i = j
    · subst e
      have hl : i < ((clr env r).set i none).length := (List.getElem?_eq_some_iff.mp h).1
      rw [List.length_set] at hl
      rw [List.getElem?_set_self hl] at h
      cases h
    · rw [List.getElem?_set_ne (Ne.symm e)] at h
      exact clr_get h
theorem RelE.clr {env : En} {σ : L2.St} (r : RelE K G ρ H env σ) (l : List Nat) : RelE K G ρ H (clr env l) σ :=
  ⟨by rw [clr_length]; exact r.len, fun i d h => r.get i d (clr_get h)⟩
end
end Rf

namespace Rf
open PySem PySem.Spec PyProof.Rows L2

def Res.bind {α β : Type} (r : Res α) (f : α → Store → Res β) : Res β :=
  match r with
  | .ok a S => f a S
  | .err c S => .err c S
  | .bad => .bad
@[simp] theorem bind_ok {α β : Type} (a : α) (S : Store) (f : α → Store → Res β) : (Res.ok a S).bind f = f a S := rfl
@[simp] theorem bind_err {α β : Type} (c : Nat) (S : Store) (f : α → Store → Res β) : (Res.err c S : Res α).bind f = .err c S := rfl
@[simp] theorem bind_bad {α β : Type} (f : α → Store → Res β) : (Res.bad : Res α).bind f = .bad := rfl

def Ok {α β : Type} (K : PySem.W.Frag) (G : Addr → Prop) (rel : List Addr → Hp → α → β → Prop) (ρ : List Addr) (H : Hp) (r : Res α) (E : Nat → Hp → Prop) (Q : β → Hp → Prop) : Prop :=
  match r with
  | .ok a S' => ∀ b ρ' H', RelS K G ρ' S' H' → rel ρ' H' a b → Keep G ρ H ρ' H' → Q b H'
  | .err c S' => ∀ ρ' H', RelS K G ρ' S' H' → Keep G ρ H ρ' H' → E c H'
  | .bad => False
/-- a new list -/
def OkF (K : PySem.W.Frag) (G : Addr → Prop) (ρ : List Addr) (H : Hp) (r : Res (List D)) (E : Nat → Hp → Prop) (Q : VK) : Prop :=
  match r with
  | .ok ds S' => ∀ a vs ρ' H', RelS K G ρ' S' H' → RepL K G ρ' H' ds vs → Keep G ρ H ρ' H' → H' a = none → Q (.ref a) (upd H' a (.lst vs))
  | .err c S' => ∀ ρ' H', RelS K G ρ' S' H' → Keep G ρ H ρ' H' → E c H'
  | .bad => False
def relB : List Addr → Hp → Bool → Bool → Prop := fun _ _ a b => b = a
section
variable {K : PySem.W.Frag} {G : Addr → Prop} {ρ ρ' : List Addr} {H H' : Hp} {E : Nat → Hp → Prop}
theorem Ok.keep {α β : Type} {rel : List Addr → Hp → α → β → Prop} {r : Res α} {Q : β → Hp → Prop} (k : Keep G ρ H ρ' H') (h : Ok K G rel ρ H r E Q) : Ok K G rel ρ' H' r E Q := by
  cases r with
  | ok a S => exact fun b ρ2 H2 r1 r2 k2 => h b ρ2 H2 r1 r2 (k.trans k2)
  | err c S => exact fun ρ2 H2 r1 k2 => h ρ2 H2 r1 (k.trans k2)
  | bad => exact h
theorem OkF.keep {r : Res (List D)} {Q : VK} (k : Keep G ρ H ρ' H') (h : OkF K G ρ H r E Q) : OkF K G ρ' H' r E Q := by
  cases r with
  | ok a S => exact fun b vs ρ2 H2 r1 r2 k2 => h b vs ρ2 H2 r1 r2 (k.trans k2)
  | err c S => exact fun ρ2 H2 r1 k2 => h ρ2 H2 r1 (k.trans k2)
  | bad => exact h
theorem Ok.bind {α β γ δ : Type} {rel : List Addr → Hp → α → β → Prop} {rel2 : List Addr → Hp → γ → δ → Prop} {r : Res α} {f : α → Store → Res γ} {Q : β → Hp → Prop} {Q2 : δ → Hp → Prop}
    (h : Ok K G rel2 ρ H (r.bind f) E Q2) (n : ∀ a S' b ρ' H', RelS K G ρ' S' H' → rel ρ' H' a b → Keep G ρ H ρ' H' → Ok K G rel2 ρ' H' (f a S') E Q2 → Q b H') : Ok K G rel ρ H r E Q := by
  cases r with
  | ok a S => exact fun b ρ2 H2 r1 r2 k2 => n a S b ρ2 H2 r1 r2 k2 (h.keep k2)
  | err c S => exact h
  | bad => exact h
theorem OkF.bind {α β : Type} {rel : List Addr → Hp → α → β → Prop} {r : Res α} {f : α → Store → Res (List D)} {Q : β → Hp → Prop} {Q2 : VK}
    (h : OkF K G ρ H (r.bind f) E Q2) (n : ∀ a S' b ρ' H', RelS K G ρ' S' H' → rel ρ' H' a b → Keep G ρ H ρ' H' → OkF K G ρ' H' (f a S') E Q2 → Q b H') : Ok K G rel ρ H r E Q := by
  cases r with
  | ok a S => exact fun b ρ2 H2 r1 r2 k2 => n a S b ρ2 H2 r1 r2 k2 (h.keep k2)
  | err c S => exact h
  | bad => exact h
/-- a value that is at hand -/
theorem Ok.now {α β : Type} {rel : List Addr → Hp → α → β → Prop} {Q : β → Hp → Prop} {a : α} {b : β} {S : Store} (h : Ok K G rel ρ H (.ok a S) E Q) (r : RelS K G ρ S H) (x : rel ρ H a b) : Q b H := h b ρ H r x Keep.refl
end

/-! ### transformers -/
abbrev WE' (cA : Nat → Addr) (W : WX) (σ : L2.St) : Nat → Hp → Prop := fun c H' => W (.ref (cA c)) none σ H'
def tE (K : PySem.W.Frag) (cA : Nat → Addr) (W : WX) (m : M D) : TE := fun σ H Q => ∃ G ρ env S, RelE K G ρ H env σ ∧ RelS K G ρ S H ∧ Ok K G (Rep K G) ρ H (m env S) (WE' cA W σ) Q
def tT (K : PySem.W.Frag) (cA : Nat → Addr) (W : WX) (m : M Bool) : TT := fun σ H Q => ∃ G ρ env S, RelE K G ρ H env σ ∧ RelS K G ρ S H ∧ Ok K G relB ρ H (m env S) (WE' cA W σ) Q
def tAr (K : PySem.W.Frag) (cA : Nat → Addr) (W : WX) (m : M (List D)) : TA := fun σ H Q => ∃ G ρ env S, RelE K G ρ H env σ ∧ RelS K G ρ S H ∧ Ok K G (RepL K G) ρ H (m env S) (WE' cA W σ) Q
def tFr (K : PySem.W.Frag) (cA : Nat → Addr) (W : WX) (m : M (List D)) : TE := fun σ H Q => ∃ G ρ env S, RelE K G ρ H env σ ∧ RelS K G ρ S H ∧ OkF K G ρ H (m env S) (WE' cA W σ) Q

section
variable {X : Cx} {e a b c : Expr} {pos : Pos}
theorem pe_imp {t t' : TE} (h : PE X e t) (i : ∀ σ H Q, t' σ H Q → t σ H Q) : PE X e t' := ⟨fun pins s σ H Q I hw => h.run pins s σ H Q I (i σ H Q hw)⟩
theorem pt_imp {t t' : TT} (h : PT X e t) (i : ∀ σ H Q, t' σ H Q → t σ H Q) : PT X e t' := ⟨fun pins s σ H Q I hw => h.run pins s σ H Q I (i σ H Q hw)⟩
theorem pw_imp {t t' : TT} (h : PW X e t) (i : ∀ σ H Q, t' σ H Q → t σ H Q) : PW X e t' := ⟨fun wh pins s σ H Q I hw => h.run wh pins s σ H Q I (i σ H Q hw)⟩
theorem pa_imp {es : List Expr} {t t' : TA} (h : PA X es t) (i : ∀ σ H Q, t' σ H Q → t σ H Q) : PA X es t' := ⟨fun pos pins s σ H Q I hw => h.run pos pins s σ H Q I (i σ H Q hw)⟩
theorem ps_imp {st : Stmt} {t t' : TS} (h : PS X st t) (i : ∀ D σ H, t' D σ H → t D σ H) : PS X st t' := ⟨fun pins s σ H D I hw => h.run pins s σ H D I (i D σ H hw)⟩
theorem pss_imp {st : List Stmt} {t t' : TS} (h : PSs X st t) (i : ∀ D σ H, t' D σ H → t D σ H) : PSs X st t' := ⟨fun pins s σ H D I hw => h.run pins s σ H D I (i D σ H hw)⟩
theorem pg_imp {tg : Expr} {t t' : TG} (h : PG X tg t) (i : ∀ v σ H Q, t' v σ H Q → t v σ H Q) : PG X tg t' := ⟨fun pins s σ H v u Q I r hw => h.run pins s σ H v u Q I r (i v σ H Q hw)⟩
theorem pi_imp {tg it : Expr} {t t' : TI} (h : PI X tg it t) (i : ∀ σ H Q, t' σ H Q → t σ H Q) : PI X tg it t' := ⟨fun pins s σ H Q I hw => h.run pins s σ H Q I (i σ H Q hw)⟩

variable {cA : Nat → Addr} {W : WX}
/-! ### names, constants -/
def eVar (i : Nat) : M D := fun env S => match env[i]? with
  | some (some d) => .ok d S
  | _ => .bad
def eC (d : D) : M D := fun _ S => .ok d S
theorem je_var (i : Nat) {x : Str} (hN : X.N[i]? = some x := by rfl) (hv : Vis X.env.scope x := by first | exact Or.inl rfl | exact Or.inr (Or.inl rfl) | exact Or.inr (Or.inr rfl)) (hd : (x == ("__debug__" : Str)) = false := by decide)
    (hcd : (x == ("__classdict__" : Str)) = false := by decide) : PE X (.Name x pos) (tE X.K cA W (eVar i)) := by
  refine pe_imp (pe_var hN hv hd hcd) ?_
  rintro σ H Q ⟨G, ρ, env, S, hE, hS, h⟩
  unfold eVar at h
  split at h
  · rename_i d e
    obtain ⟨v, h1, h2⟩ := hE.get i d e
    exact ⟨v, h1, h.now hS h2⟩
  · exact h.elim
theorem je_int {i : Int} {j} : PE X (.Constant (.int i) j pos) (tE X.K cA W (eC (.int i))) := pe_imp pe_int fun _ _ _ ⟨_, _, _, _, _, hS, h⟩ => h.now hS rfl
theorem je_bl {i : Bool} {j} : PE X (.Constant (.bool i) j pos) (tE X.K cA W (eC (.bl i))) := pe_imp pe_bl fun _ _ _ ⟨_, _, _, _, _, hS, h⟩ => h.now hS rfl
theorem je_non {j} : PE X (.Constant .none j pos) (tE X.K cA W (eC .non)) := pe_imp pe_non fun _ _ _ ⟨_, _, _, _, _, hS, h⟩ => h.now hS rfl
theorem je_str {x : Str} {j} : PE X (.Constant (.str x) j pos) (tE X.K cA W (eC (.str x))) := pe_imp pe_str fun _ _ _ ⟨_, _, _, _, _, hS, h⟩ => h.now hS rfl
/-- a module's constant that is an int -/
theorem je_gint {x : Str} {i : Int} {t : Tok} (hg : Gl X x) (hm : X.mg x = some (.int i t)) (hd : (x == ("__debug__" : Str)) = false := by decide) : PE X (.Name x pos) (tE X.K cA W (eC (.int i))) :=
  pe_imp (pe_glob (v := .int i) hg hm ⟨_, rfl⟩ hd) fun _ _ _ ⟨_, _, _, _, _, hS, h⟩ => h.now hS rfl
/-- a built-in class as a value -/
theorem je_ty {x : Str} {T : String} (hg : Gl X x) (hm : X.mg x = none) (hv : bootBuiltins x = some (.type T)) (hn : x ≠ "__name__" := by decide) (hd : (x == ("__debug__" : Str)) = false := by decide) : PE X (.Name x pos) (tE X.K cA W (eC (.ty T))) :=
  pe_imp (pe_bltn (v := .ty T) hg hm hv rfl hn hd) fun _ _ _ ⟨_, _, _, _, _, hS, h⟩ => h.now hS rfl

/-! ### two places -/
def OpD (K : PySem.W.Frag) (r : R2) (f : D → D → Store → Res D) : Prop :=
  ∀ G ρ H S d1 d2 v1 v2 E Q, RelS K G ρ S H → Rep K G ρ H d1 v1 → Rep K G ρ H d2 v2 → Ok K G (Rep K G) ρ H (f d1 d2 S) E Q → r v1 v2 H Q
def e2 (f : D → D → Store → Res D) (ma mb : M D) : M D := fun env S => (ma env S).bind fun x S1 => (mb env S1).bind fun y S2 => f x y S2
theorem op_read {r : R2} {f : D → D → Store → Res D} (hd : OpD X.K r f) {ma mb : M D} : ∀ σ H Q, tE X.K cA W (e2 f ma mb) σ H Q → tOp r (tE X.K cA W ma) (tE X.K cA W mb) σ H Q := by
  rintro σ H Q ⟨G, ρ, env, S, hE, hS, h⟩
  refine ⟨G, ρ, env, S, hE, hS, Ok.bind h fun x S1 v ρ1 H1 r1 x1 k1 h1 => ?_⟩
  refine ⟨G, ρ1, env, S1, hE.keep k1, r1, Ok.bind h1 fun y S2 u ρ2 H2 r2 x2 k2 h2 => ?_⟩
  exact hd G ρ2 H2 S2 x y v u _ Q r2 (Rep.keep k2 x v x1) x2 h2
theorem je_op {op : Operator} {r : R2} {f : D → D → Store → Res D} {ma mb : M D} (ho : OpR X (binaryOp op) r) (hd : OpD X.K r f) (ha : PE X a (tE X.K cA W ma)) (hb : PE X b (tE X.K cA W mb)) : PE X (.BinOp a op b pos) (tE X.K cA W (e2 f ma mb)) :=
  pe_imp (pe_op ho ha hb) (op_read hd)
theorem je_cmp {op : CmpOp} {r : R2} {f : D → D → Store → Res D} {ma mb : M D} (ho : OpR X (compareOp op) r) (hd : OpD X.K r f) (ha : PE X a (tE X.K cA W ma)) (hb : PE X b (tE X.K cA W mb)) (hm : behindInMarks op b = false) : PE X (.Compare a [op] [b] pos) (tE X.K cA W (e2 f ma mb)) :=
  pe_imp (pe_cmpR ho ha hb hm) (op_read hd)
/-! ### tests -/
/-- a bool's test -/
def tst (m : M D) : M Bool := fun env S => (m env S).bind fun d S1 => match d with
  | .bl b => .ok b S1
  | _ => .bad
theorem test_read {m : M D} : ∀ σ H Q, tT X.K cA W (tst m) σ H Q → (tTest (tE X.K cA W m)) σ H Q := by
  rintro σ H Q ⟨G, ρ, env, S, hE, hS, h⟩
  refine ⟨G, ρ, env, S, hE, hS, Ok.bind h fun x S1 v ρ1 H1 r1 x1 k1 h1 => ?_⟩
  cases x with
  | bl b =>
    rw [show v = .bl b from x1]
    exact ⟨b, rfl, h1.now r1 rfl⟩
  | _ => exact h1.elim
theorem jt_cmp {op : CmpOp} {r : R2} {f : D → D → Store → Res D} {ma mb : M D} (ho : OpR X (compareOp op) r) (hd : OpD X.K r f) (ha : PE X a (tE X.K cA W ma)) (hb : PE X b (tE X.K cA W mb)) (hm : behindInMarks op b = false) : PT X (.Compare a [op] [b] pos) (tT X.K cA W (tst (e2 f ma mb))) := by
  refine pt_imp (pt_cmpR ho ha hb hm) fun σ H Q h => ?_
  obtain ⟨G, ρ, env, S, hE, hS, h⟩ := h
  have := test_read (X := X) (cA := cA) (W := W) σ H Q ⟨G, ρ, env, S, hE, hS, h⟩
  exact op_read hd _ _ _ this
theorem jt_val {m : M D} (h : PE X e (tE X.K cA W m)) (he : ∀ whole, isTrue e X.env whole = (do let v ← whole; standAt e.pos; holding [v] (truthy v)) := by intro _; rfl) : PT X e (tT X.K cA W (tst m)) :=
  pt_imp (pt_val h he) test_read
def tAnd' (ma mb : M Bool) : M Bool := fun env S => (ma env S).bind fun x S1 => if x = true then mb env S1 else .ok false S1
def tOr' (ma mb : M Bool) : M Bool := fun env S => (ma env S).bind fun x S1 => if x = true then .ok true S1 else mb env S1
def tNot' (ma : M Bool) : M Bool := fun env S => (ma env S).bind fun x S1 => .ok (!x) S1
theorem jw_and1 {m : M Bool} (ha : PT X a (tT X.K cA W m)) : PW X (.BoolOp .And [a] pos) (tT X.K cA W m) := pw_and1 ha
theorem jw_or1 {m : M Bool} (ha : PT X a (tT X.K cA W m)) : PW X (.BoolOp .Or [a] pos) (tT X.K cA W m) := pw_or1 ha
theorem jw_and {m n : M Bool} {rest : List Expr} (ha : PT X a (tT X.K cA W m)) (hb : PW X (.BoolOp .And (b :: rest) pos) (tT X.K cA W n)) : PW X (.BoolOp .And (a :: b :: rest) pos) (tT X.K cA W (tAnd' m n)) := by
  refine pw_imp (pw_and ha hb) ?_
  rintro σ H Q ⟨G, ρ, env, S, hE, hS, h⟩
  refine ⟨G, ρ, env, S, hE, hS, Ok.bind h fun x S1 v ρ1 H1 r1 x1 k1 h1 => ?_⟩
  cases (show v = x from x1)
  cases x with
  | true => exact iteT ⟨G, ρ1, env, S1, hE.keep k1, r1, h1⟩
  | false => exact iteF (h1.now r1 rfl)
theorem jw_or {m n : M Bool} {rest : List Expr} (ha : PT X a (tT X.K cA W m)) (hb : PW X (.BoolOp .Or (b :: rest) pos) (tT X.K cA W n)) : PW X (.BoolOp .Or (a :: b :: rest) pos) (tT X.K cA W (tOr' m n)) := by
  refine pw_imp (pw_or ha hb) ?_
  rintro σ H Q ⟨G, ρ, env, S, hE, hS, h⟩
  refine ⟨G, ρ, env, S, hE, hS, Ok.bind h fun x S1 v ρ1 H1 r1 x1 k1 h1 => ?_⟩
  cases (show v = x from x1)
  cases x with
  | true => exact iteT (h1.now r1 rfl)
  | false => exact iteF ⟨G, ρ1, env, S1, hE.keep k1, r1, h1⟩
theorem jt_not {m : M Bool} (ha : PT X a (tT X.K cA W m)) : PT X (.UnaryOp .Not a pos) (tT X.K cA W (tNot' m)) := by
  refine pt_imp (pt_not ha) ?_
  rintro σ H Q ⟨G, ρ, env, S, hE, hS, h⟩
  refine ⟨G, ρ, env, S, hE, hS, Ok.bind h fun x S1 v ρ1 H1 r1 x1 k1 h1 => ?_⟩
  cases (show v = x from x1)
  exact h1.now r1 rfl
/-! ### and, or, not of bools as values -/
def eAnd (ma mb : M D) : M D := fun env S => (ma env S).bind fun x S1 => match x with
  | .bl true => mb env S1
  | .bl false => .ok (.bl false) S1
  | _ => .bad
def eOr (ma mb : M D) : M D := fun env S => (ma env S).bind fun x S1 => match x with
  | .bl true => .ok (.bl true) S1
  | .bl false => mb env S1
  | _ => .bad
def eNot (ma : M D) : M D := fun env S => (ma env S).bind fun x S1 => match x with
  | .bl b => .ok (.bl (!b)) S1
  | _ => .bad
theorem je_one {op} {m : M D} (h : PE X a (tE X.K cA W m)) : PE X (.BoolOp op [a] pos) (tE X.K cA W m) := pe_one h
theorem je_and {m n : M D} {rest : List Expr} (ha : PE X a (tE X.K cA W m)) (hb : PE X (.BoolOp .And (b :: rest) pos) (tE X.K cA W n)) : PE X (.BoolOp .And (a :: b :: rest) pos) (tE X.K cA W (eAnd m n)) := by
  refine pe_imp (pe_and ha hb) ?_
  rintro σ H Q ⟨G, ρ, env, S, hE, hS, h⟩
  refine ⟨G, ρ, env, S, hE, hS, Ok.bind h fun x S1 v ρ1 H1 r1 x1 k1 h1 => ?_⟩
  cases x with
  | bl k =>
    cases (show v = .bl k from x1)
    cases k with
    | true => exact ⟨true, rfl, iteT ⟨G, ρ1, env, S1, hE.keep k1, r1, h1⟩⟩
    | false => exact ⟨false, rfl, iteF (h1.now r1 rfl)⟩
  | _ => exact h1.elim
theorem je_or {m n : M D} {rest : List Expr} (ha : PE X a (tE X.K cA W m)) (hb : PE X (.BoolOp .Or (b :: rest) pos) (tE X.K cA W n)) : PE X (.BoolOp .Or (a :: b :: rest) pos) (tE X.K cA W (eOr m n)) := by
  refine pe_imp (pe_or ha hb) ?_
  rintro σ H Q ⟨G, ρ, env, S, hE, hS, h⟩
  refine ⟨G, ρ, env, S, hE, hS, Ok.bind h fun x S1 v ρ1 H1 r1 x1 k1 h1 => ?_⟩
  cases x with
  | bl k =>
    cases (show v = .bl k from x1)
    cases k with
    | true => exact ⟨true, rfl, iteT (h1.now r1 rfl)⟩
    | false => exact ⟨false, rfl, iteF ⟨G, ρ1, env, S1, hE.keep k1, r1, h1⟩⟩
  | _ => exact h1.elim
theorem je_not {m : M D} (ha : PE X a (tE X.K cA W m)) : PE X (.UnaryOp .Not a pos) (tE X.K cA W (eNot m)) := by
  refine pe_imp (pe_not ha) ?_
  rintro σ H Q ⟨G, ρ, env, S, hE, hS, h⟩
  refine ⟨G, ρ, env, S, hE, hS, Ok.bind h fun x S1 v ρ1 H1 r1 x1 k1 h1 => ?_⟩
  cases x with
  | bl k =>
    cases (show v = .bl k from x1)
    exact ⟨k, rfl, h1.now r1 rfl⟩
  | _ => exact h1.elim
/-- a if t else b -/
def eIf (mc : M Bool) (ma mb : M D) : M D := fun env S => (mc env S).bind fun x S1 => if x = true then ma env S1 else mb env S1
theorem je_if {mc : M Bool} {ma mb : M D} (hc : PT X c (tT X.K cA W mc)) (ha : PE X a (tE X.K cA W ma)) (hb : PE X b (tE X.K cA W mb)) : PE X (.IfExp c a b pos) (tE X.K cA W (eIf mc ma mb)) := by
  refine pe_imp (pe_ifExp hc ha hb) ?_
  rintro σ H Q ⟨G, ρ, env, S, hE, hS, h⟩
  refine ⟨G, ρ, env, S, hE, hS, Ok.bind h fun x S1 v ρ1 H1 r1 x1 k1 h1 => ?_⟩
  cases (show v = x from x1)
  cases x with
  | true => exact iteT ⟨G, ρ1, env, S1, hE.keep k1, r1, h1⟩
  | false => exact iteF ⟨G, ρ1, env, S1, hE.keep k1, r1, h1⟩
/-- one place -/
def UnD (K : PySem.W.Frag) (r : V → Hp → VK → Prop) (f : D → Store → Res D) : Prop :=
  ∀ G ρ H S d v E Q, RelS K G ρ S H → Rep K G ρ H d v → Ok K G (Rep K G) ρ H (f d S) E Q → r v H Q
def e1 (f : D → Store → Res D) (ma : M D) : M D := fun env S => (ma env S).bind fun x S1 => f x S1
theorem je_un {op : UnaryOp} {r : V → Hp → VK → Prop} {f : D → Store → Res D} {ma : M D} (ho : UnR X (unaryOp op) r) (hd : UnD X.K r f) (ha : PE X a (tE X.K cA W ma)) : PE X (.UnaryOp op a pos) (tE X.K cA W (e1 f ma)) := by
  refine pe_imp (pe_un ho ha) ?_
  rintro σ H Q ⟨G, ρ, env, S, hE, hS, h⟩
  refine ⟨G, ρ, env, S, hE, hS, Ok.bind h fun x S1 v ρ1 H1 r1 x1 k1 h1 => ?_⟩
  exact hd G ρ1 H1 S1 x v _ Q r1 x1 h1
/-! ### arguments, calls of built-ins -/
def aNil : M (List D) := fun _ S => .ok [] S
def aCons (m : M D) (r : M (List D)) : M (List D) := fun env S => (m env S).bind fun x S1 => (r env S1).bind fun xs S2 => .ok (x :: xs) S2
theorem ja_nil : PA X [] (tAr X.K cA W aNil) := pa_imp pa_nil fun _ _ _ ⟨_, _, _, _, _, hS, h⟩ => h.now hS (show RepL _ _ _ _ [] [] from rfl)
theorem ja_cons {es : List Expr} {m : M D} {r : M (List D)} (ha : PE X e (tE X.K cA W m)) (hr : PA X es (tAr X.K cA W r)) (hs : starEach (e :: es) X.env = (false, eval e X.env) :: starEach es X.env := by rfl) : PA X (e :: es) (tAr X.K cA W (aCons m r)) := by
  refine pa_imp (pa_cons ha hr hs) ?_
  rintro σ H Q ⟨G, ρ, env, S, hE, hS, h⟩
  refine ⟨G, ρ, env, S, hE, hS, Ok.bind h fun x S1 v ρ1 H1 r1 x1 k1 h1 => ?_⟩
  refine ⟨G, ρ1, env, S1, hE.keep k1, r1, Ok.bind h1 fun xs S2 vs ρ2 H2 r2 x2 k2 h2 => ?_⟩
  exact h2.now r2 ⟨v, vs, rfl, Rep.keep k2 x v x1, x2⟩
def CallD (K : PySem.W.Frag) (r : List V → Hp → VK → Prop) (f : List D → Store → Res D) : Prop :=
  ∀ G ρ H S ds vs E Q, RelS K G ρ S H → RepL K G ρ H ds vs → Ok K G (Rep K G) ρ H (f ds S) E Q → r vs H Q
def CallF (K : PySem.W.Frag) (r : List V → Hp → VK → Prop) (f : List D → Store → Res (List D)) : Prop :=
  ∀ G ρ H S ds vs E Q, RelS K G ρ S H → RepL K G ρ H ds vs → OkF K G ρ H (f ds S) E Q → r vs H Q
def eB {α : Type} (f : List D → Store → Res α) (ma : M (List D)) : M α := fun env S => (ma env S).bind fun xs S1 => f xs S1
variable {es : List Expr} {x : Str} {p : Pos} {r : List V → Hp → VK → Prop}
theorem call_read {f : List D → Store → Res D} {ma : M (List D)} (hd : CallD X.K r f) : ∀ σ H Q, tE X.K cA W (eB f ma) σ H Q → tCB r (tAr X.K cA W ma) σ H Q := by
  rintro σ H Q ⟨G, ρ, env, S, hE, hS, h⟩
  refine ⟨G, ρ, env, S, hE, hS, Ok.bind h fun x S1 v ρ1 H1 r1 x1 k1 h1 => ?_⟩
  exact hd G ρ1 H1 S1 x v _ Q r1 x1 h1
theorem callF_read {f : List D → Store → Res (List D)} {ma : M (List D)} (hd : CallF X.K r f) : ∀ σ H Q, tFr X.K cA W (eB f ma) σ H Q → tCB r (tAr X.K cA W ma) σ H Q := by
  rintro σ H Q ⟨G, ρ, env, S, hE, hS, h⟩
  refine ⟨G, ρ, env, S, hE, hS, OkF.bind h fun x S1 v ρ1 H1 r1 x1 k1 h1 => ?_⟩
  exact hd G ρ1 H1 S1 x v _ Q r1 x1 h1
theorem je_B {id : String} {f : List D → Store → Res D} {ma : M (List D)} (hc : CallR X (.builtin id) r) (hd : CallD X.K r f) (hg : Gl X x) (hm : X.mg x = none) (hv : bootBuiltins x = some (.builtin id)) (ha : PA X (e :: es) (tAr X.K cA W ma)) (hn : x ≠ "__name__" := by decide) (hdb : (x == ("__debug__" : Str)) = false := by decide)
    (he : starEach (e :: es) X.env = (false, eval e X.env) :: starEach es X.env := by rfl) (hpl : (backTo pos (starEach es X.env)).any (·.1) = false := by rfl) : PE X (.Call (.Name x p) (e :: es) [] pos) (tE X.K cA W (eB f ma)) :=
  pe_imp (pe_callB hc hg hm hv ha hn hdb he hpl) (call_read hd)
theorem je_Ty {T : String} {f : List D → Store → Res D} {ma : M (List D)} (hc : CallR X (.type T) r) (hd : CallD X.K r f) (hg : Gl X x) (hm : X.mg x = none) (hv : bootBuiltins x = some (.type T)) (ha : PA X (e :: es) (tAr X.K cA W ma)) (hn : x ≠ "__name__" := by decide) (hdb : (x == ("__debug__" : Str)) = false := by decide)
    (he : starEach (e :: es) X.env = (false, eval e X.env) :: starEach es X.env := by rfl) (hpl : (backTo pos (starEach es X.env)).any (·.1) = false := by rfl) : PE X (.Call (.Name x p) (e :: es) [] pos) (tE X.K cA W (eB f ma)) :=
  pe_imp (pe_callTy hc hg hm hv ha hn hdb he hpl) (call_read hd)
theorem jf_B {id : String} {f : List D → Store → Res (List D)} {ma : M (List D)} (hc : CallR X (.builtin id) r) (hd : CallF X.K r f) (hg : Gl X x) (hm : X.mg x = none) (hv : bootBuiltins x = some (.builtin id)) (ha : PA X (e :: es) (tAr X.K cA W ma)) (hn : x ≠ "__name__" := by decide) (hdb : (x == ("__debug__" : Str)) = false := by decide)
    (he : starEach (e :: es) X.env = (false, eval e X.env) :: starEach es X.env := by rfl) (hpl : (backTo pos (starEach es X.env)).any (·.1) = false := by rfl) : PE X (.Call (.Name x p) (e :: es) [] pos) (tFr X.K cA W (eB f ma)) :=
  pe_imp (pe_callB hc hg hm hv ha hn hdb he hpl) (callF_read hd)
theorem jf_Ty {T : String} {f : List D → Store → Res (List D)} {ma : M (List D)} (hc : CallR X (.type T) r) (hd : CallF X.K r f) (hg : Gl X x) (hm : X.mg x = none) (hv : bootBuiltins x = some (.type T)) (ha : PA X (e :: es) (tAr X.K cA W ma)) (hn : x ≠ "__name__" := by decide) (hdb : (x == ("__debug__" : Str)) = false := by decide)
    (he : starEach (e :: es) X.env = (false, eval e X.env) :: starEach es X.env := by rfl) (hpl : (backTo pos (starEach es X.env)).any (·.1) = false := by rfl) : PE X (.Call (.Name x p) (e :: es) [] pos) (tFr X.K cA W (eB f ma)) :=
  pe_imp (pe_callTy hc hg hm hv ha hn hdb he hpl) (callF_read hd)
/-! ### a new list, taken as it is, or as a cell -/
def fz (m : M (List D)) : M D := fun env S => (m env S).bind fun ds S1 => .ok (.lst ds) S1
def cel (m : M (List D)) : M D := fun env S => (m env S).bind fun ds S1 => .ok (.cell S1.length) (S1 ++ [.lst ds])
theorem fz_read {m : M (List D)} : ∀ σ H Q, tE X.K cA W (fz m) σ H Q → tFr X.K cA W m σ H Q := by
  rintro σ H Q ⟨G, ρ, env, S, hE, hS, h⟩
  refine ⟨G, ρ, env, S, hE, hS, ?_⟩
  unfold fz at h
  revert h
  cases m env S with
  | ok ds S1 =>
    intro h a vs ρ' H' r x k hn
    exact h _ ρ' _ (r.new hn) ⟨a, vs, rfl, ⟨r.fresh hn, r.ngn hn, upd_same⟩, RepL.keep (Keep.new hn r.gt) ds vs x⟩ (k.trans (Keep.new hn r.gt))
  | err c S1 => exact fun h => h
  | bad => exact fun h => h
theorem cel_read {m : M (List D)} : ∀ σ H Q, tE X.K cA W (cel m) σ H Q → tFr X.K cA W m σ H Q := by
  rintro σ H Q ⟨G, ρ, env, S, hE, hS, h⟩
  refine ⟨G, ρ, env, S, hE, hS, ?_⟩
  unfold cel at h
  revert h
  cases m env S with
  | ok ds S1 =>
    intro h a vs ρ' H' r x k hn
    have k2 : Keep G ρ' H' (ρ' ++ [a]) (upd H' a (.lst vs)) := Keep.cell hn r.gt
    refine h _ (ρ' ++ [a]) _ (r.alloc hn ⟨vs, upd_same, RepL.keep k2 ds vs x⟩) ⟨a, rfl, ?_⟩ (k.trans k2)
    rw [← r.len, List.getElem?_append_right (Nat.le_refl _)]
    simp
  | err c S1 => exact fun h => h
  | bad => exact fun h => h
theorem je_fz {m : M (List D)} (h : PE X e (tFr X.K cA W m)) : PE X e (tE X.K cA W (fz m)) := pe_imp h fz_read
theorem je_cel {m : M (List D)} (h : PE X e (tFr X.K cA W m)) : PE X e (tE X.K cA W (cel m)) := pe_imp h cel_read
/-! ### displays -/
def big : Nat := 1000000
theorem big_line {n : Nat} (h : n ≤ big) : n ≤ sizeLine := Nat.le_trans h (by decide)
theorem big_lt {n : Nat} (h : n < big) : n < sizeLine := Nat.lt_of_lt_of_le h (by decide)
def eTup (ma : M (List D)) : M D := fun env S => (ma env S).bind fun ds S1 => if ds.length ≤ big then .ok (.tup ds) S1 else .bad
def fLst (ma : M (List D)) : M (List D) := fun env S => (ma env S).bind fun ds S1 => if ds.length ≤ big then .ok ds S1 else .bad
def tTupZ (t : TA) : TE := fun σ H Q => t σ H fun xs H1 => xs.length ≤ sizeLine ∧ ∀ p (o : Obj), H1 p = none → o.dict = none → Q (.ref p) (upd H1 p (.frz o (.tup xs)))
theorem pe_tupZ {x1} {t : TA} (h : PA X es t) : PE X (.Tuple es x1 pos) (tTupZ t) := by
  refine ⟨fun pins s σ H Q I hq => ?_⟩
  refine wpAny_Tuple_spliced (thn (h.run pos pins s σ H _ I hq) fun us s1 ⟨xs, H1, I1, r, z, q⟩ => ⟨by rw [← r.length]; exact z, ?_⟩)
  have hf : H1 s1.heap.objs.size = none := I1.hok.fresh (Nat.le_refl _)
  refine ⟨.ref s1.heap.objs.size, upd H1 s1.heap.objs.size (.frz { cls := .type "tuple", data := .seq us.toArray } (.tup xs)), I1.laid (t' := s1.toks) (fun b u e => Heap.get?_push_of_some _ e) (Nat.le_refl _) ?_, rfl, q _ _ hf rfl⟩
  exact ⟨Heap.get?_push_size _ rfl, z, us, r, ⟨_, Heap.get?_push_size _ rfl, rfl, _, rfl⟩⟩
theorem je_tup {x1} {ma : M (List D)} (ha : PA X es (tAr X.K cA W ma)) : PE X (.Tuple es x1 pos) (tE X.K cA W (eTup ma)) := by
  refine pe_imp (pe_tupZ ha) ?_
  rintro σ H Q ⟨G, ρ, env, S, hE, hS, h⟩
  refine ⟨G, ρ, env, S, hE, hS, Ok.bind h fun ds S1 vs ρ1 H1 r1 x1 k1 h1 => ?_⟩
  by_cases hl : ds.length ≤ big
  · rw [if_pos hl] at h1
    refine ⟨by rw [x1.length]; exact big_line hl, fun p o hp ho => ?_⟩
    have k2 : Keep G ρ1 H1 ρ1 (upd H1 p (.frz o (.tup vs))) := Keep.new hp r1.gt
    exact h1 _ ρ1 _ (r1.new hp ho) ⟨p, vs, rfl, .inr ⟨o, upd_same⟩, RepL.keep k2 ds vs x1⟩ k2
  · rw [if_neg hl] at h1
    exact h1.elim
theorem jf_lst {ma : M (List D)} (ha : PA X es (tAr X.K cA W ma)) : PE X (.List es pos) (tFr X.K cA W (fLst ma)) := by
  refine pe_imp (pe_lst ha) ?_
  rintro σ H Q ⟨G, ρ, env, S, hE, hS, h⟩
  refine ⟨G, ρ, env, S, hE, hS, OkF.bind h fun ds S1 vs ρ1 H1 r1 x1 k1 h1 => ?_⟩
  by_cases hl : ds.length ≤ big
  · rw [if_pos hl] at h1
    exact ⟨by rw [x1.length]; exact big_line hl, fun p hp => h1 p vs ρ1 H1 r1 x1 Keep.refl hp⟩
  · rw [if_neg hl] at h1
    exact h1.elim
end
end Rf

namespace Rf
open PySem PySem.Spec PyProof.Rows L2

def OkS (K : PySem.W.Frag) (cA : Nat → Addr) (W : WX) (G : Addr → Prop) (ρ : List Addr) (H : Hp) (D : Ends) : RS → Prop
  | .next e S' => ∀ σ' ρ' H', RelE K G ρ' H' e σ' → RelS K G ρ' S' H' → Keep G ρ H ρ' H' → D.nx σ' H'
  | .ret d S' => ∀ v ρ' H', RelS K G ρ' S' H' → Rep K G ρ' H' d v → Keep G ρ H ρ' H' → D.rt v H'
  | .brk e S' => ∀ σ' ρ' H', RelE K G ρ' H' e σ' → RelS K G ρ' S' H' → Keep G ρ H ρ' H' → D.bk σ' H'
  | .cont e S' => ∀ σ' ρ' H', RelE K G ρ' H' e σ' → RelS K G ρ' S' H' → Keep G ρ H ρ' H' → D.ct σ' H'
  | .err c e S' => ∀ σ' ρ' H', RelE K G ρ' H' e σ' → RelS K G ρ' S' H' → Keep G ρ H ρ' H' → W (.ref (cA c)) none σ' H'
  | .bad => False
def tS (K : PySem.W.Frag) (cA : Nat → Addr) (W : WX) (m : MS) : TS := fun D σ H => ∃ G ρ env S, RelE K G ρ H env σ ∧ RelS K G ρ S H ∧ OkS K cA W G ρ H D (m env S)
theorem OkS.keep {K : PySem.W.Frag} {cA : Nat → Addr} {W : WX} {G : Addr → Prop} {ρ ρ' : List Addr} {H H' : Hp} {D : Ends} {r : RS} (k : Keep G ρ H ρ' H') (h : OkS K cA W G ρ H D r) : OkS K cA W G ρ' H' D r := by
  cases r with
  | next e S => exact fun σ2 ρ2 H2 r1 r2 k2 => h σ2 ρ2 H2 r1 r2 (k.trans k2)
  | ret d S => exact fun v ρ2 H2 r1 r2 k2 => h v ρ2 H2 r1 r2 (k.trans k2)
  | brk e S => exact fun σ2 ρ2 H2 r1 r2 k2 => h σ2 ρ2 H2 r1 r2 (k.trans k2)
  | cont e S => exact fun σ2 ρ2 H2 r1 r2 k2 => h σ2 ρ2 H2 r1 r2 (k.trans k2)
  | err c e S => exact fun σ2 ρ2 H2 r1 r2 k2 => h σ2 ρ2 H2 r1 r2 (k.trans k2)
  | bad => exact h

/-- an expression's value goes on -/
def Res.then {α : Type} (r : Res α) (env : En) (f : α → Store → RS) : RS :=
  match r with
  | .ok a S => f a S
  | .err c S => .err c env S
  | .bad => .bad
@[simp] theorem then_ok {α : Type} (a : α) (S : Store) (env : En) (f : α → Store → RS) : (Res.ok a S).then env f = f a S := rfl
@[simp] theorem then_err {α : Type} (c : Nat) (S : Store) (env : En) (f : α → Store → RS) : (Res.err c S : Res α).then env f = .err c env S := rfl
@[simp] theorem then_bad {α : Type} (env : En) (f : α → Store → RS) : (Res.bad : Res α).then env f = .bad := rfl
section
variable {K : PySem.W.Frag} {G : Addr → Prop} {ρ ρ' : List Addr} {H H' : Hp} {cA : Nat → Addr} {W : WX}
theorem OkS.thn {α β : Type} {rel : List Addr → Hp → α → β → Prop} {r : Res α} {env : En} {σ : L2.St} {f : α → Store → RS} {D : Ends} {Q : β → Hp → Prop} (hE : RelE K G ρ H env σ)
    (h : OkS K cA W G ρ H D (r.then env f)) (n : ∀ a S' b ρ' H', RelS K G ρ' S' H' → rel ρ' H' a b → Keep G ρ H ρ' H' → OkS K cA W G ρ' H' D (f a S') → Q b H') : Ok K G rel ρ H r (WE' cA W σ) Q := by
  cases r with
  | ok a S => exact fun b ρ2 H2 r1 r2 k2 => n a S b ρ2 H2 r1 r2 k2 (h.keep k2)
  | err c S => exact fun ρ2 H2 r1 k2 => h σ ρ2 H2 (hE.keep k2) r1 k2
  | bad => exact h
end

section
variable {X : Cx} {st : Stmt} {rest : List Stmt} {e c : Expr} {pos : Pos} {cA : Nat → Addr} {W : WX}
/-! ### blocks -/
def sNil : MS := fun env S => .next env S
def sSeq (m n : MS) : MS := fun env S => match m env S with
  | .next e S' => n e S'
  | r => r
theorem js_nil : PSs X [] (tS X.K cA W sNil) := pss_imp pss_nil fun D σ H ⟨G, ρ, env, S, hE, hS, h⟩ => h σ ρ H hE hS Keep.refl
theorem js_cons {m n : MS} (h1 : PS X st (tS X.K cA W m)) (h2 : PSs X rest (tS X.K cA W n)) : PSs X (st :: rest) (tS X.K cA W (sSeq m n)) := by
  refine pss_imp (pss_cons h1 h2) ?_
  rintro D σ H ⟨G, ρ, env, S, hE, hS, h⟩
  refine ⟨G, ρ, env, S, hE, hS, ?_⟩
  unfold sSeq at h
  revert h
  cases m env S with
  | next e S1 => exact fun h σ1 ρ1 H1 r1 r2 k => ⟨G, ρ1, e, S1, r1, r2, h.keep k⟩
  | ret d S1 => exact fun h => h
  | brk e S1 => exact fun h => h
  | cont e S1 => exact fun h => h
  | err c e S1 => exact fun h => h
  | bad => exact fun h => h
theorem js_one {m : MS} (h1 : PS X st (tS X.K cA W m)) : PSs X [st] (tS X.K cA W m) := pss_one h1
/-- a statement that is not reached -/
def sBad : MS := fun _ _ => .bad
theorem js_bad : PS X st (tS X.K cA W sBad) := ps_imp ps_never fun D σ H ⟨G, ρ, env, S, hE, hS, h⟩ => h
theorem js_pass : PS X (.Pass pos) (tS X.K cA W sNil) := ps_imp ps_pass fun D σ H ⟨G, ρ, env, S, hE, hS, h⟩ => h σ ρ H hE hS Keep.refl
theorem js_break : PS X (.Break pos) (tS X.K cA W fun env S => .brk env S) := ps_imp ps_break fun D σ H ⟨G, ρ, env, S, hE, hS, h⟩ => h σ ρ H hE hS Keep.refl
theorem js_continue : PS X (.Continue pos) (tS X.K cA W fun env S => .cont env S) := ps_imp ps_continue fun D σ H ⟨G, ρ, env, S, hE, hS, h⟩ => h σ ρ H hE hS Keep.refl
/-- some slots forgotten behind a statement -/
def sCl (l : List Nat) (m : MS) : MS := fun env S => match m env S with
  | .next e S' => .next (clr e l) S'
  | r => r
theorem js_cl (l : List Nat) {m : MS} (h1 : PS X st (tS X.K cA W m)) : PS X st (tS X.K cA W (sCl l m)) := by
  refine ps_imp h1 ?_
  rintro D σ H ⟨G, ρ, env, S, hE, hS, h⟩
  refine ⟨G, ρ, env, S, hE, hS, ?_⟩
  unfold sCl at h
  revert h
  cases m env S with
  | next e S1 => exact fun h σ1 ρ1 H1 r1 r2 k => h σ1 ρ1 H1 (r1.clr l) r2 k
  | ret d S1 => exact fun h => h
  | brk e S1 => exact fun h => h
  | cont e S1 => exact fun h => h
  | err c e S1 => exact fun h => h
  | bad => exact fun h => h
/-! ### expressions as statements, return, if -/
def sExpr (m : M D) : MS := fun env S => (m env S).then env fun _ S1 => .next env S1
theorem js_expr {m : M D} (he : PE X e (tE X.K cA W m)) (hs : swapsWith e none pos.line X.env = pure false := by rfl) : PS X (.Expr e pos) (tS X.K cA W (sExpr m)) := by
  refine ps_imp (ps_expr he hs) ?_
  rintro D σ H ⟨G, ρ, env, S, hE, hS, h⟩
  exact ⟨G, ρ, env, S, hE, hS, OkS.thn hE h fun d S1 v ρ1 H1 r1 x1 k1 h1 => h1 σ ρ1 H1 (hE.keep k1) r1 Keep.refl⟩
def sRet (m : M D) : MS := fun env S => (m env S).then env fun d S1 => .ret d S1
theorem js_ret {m : M D} (he : PE X e (tE X.K cA W m)) : PS X (.Return (some e) pos) (tS X.K cA W (sRet m)) := by
  refine ps_imp (ps_ret he) ?_
  rintro D σ H ⟨G, ρ, env, S, hE, hS, h⟩
  exact ⟨G, ρ, env, S, hE, hS, OkS.thn hE h fun d S1 v ρ1 H1 r1 x1 k1 h1 => h1 v ρ1 H1 r1 x1 Keep.refl⟩
theorem js_retN : PS X (.Return none pos) (tS X.K cA W fun _ S => .ret .non S) := ps_imp ps_retN fun D σ H ⟨G, ρ, env, S, hE, hS, h⟩ => h .non ρ H hS rfl Keep.refl
def sIf (c : M Bool) (m n : MS) : MS := fun env S => (c env S).then env fun b S1 => if b = true then m env S1 else n env S1
theorem js_if {mc : M Bool} {m n : MS} {a b : List Stmt} (hc : PT X c (tT X.K cA W mc)) (ha : PSs X a (tS X.K cA W m)) (hb : PSs X b (tS X.K cA W n)) : PS X (.If c a b pos) (tS X.K cA W (sIf mc m n)) := by
  refine ps_imp (ps_if hc ha hb) ?_
  rintro D σ H ⟨G, ρ, env, S, hE, hS, h⟩
  refine ⟨G, ρ, env, S, hE, hS, OkS.thn hE h fun x S1 v ρ1 H1 r1 x1 k1 h1 => ?_⟩
  cases (show v = x from x1)
  cases x with
  | true => exact iteT ⟨G, ρ1, env, S1, hE.keep k1, r1, h1⟩
  | false => exact iteF ⟨G, ρ1, env, S1, hE.keep k1, r1, h1⟩
/-! ### targets -/
abbrev Pat := D → En → Option En
def tG (K : PySem.W.Frag) (p : Pat) : TG := fun v σ H Q => ∃ G ρ env d, RelE K G ρ H env σ ∧ Rep K G ρ H d v ∧ match p d env with
  | some env' => ∀ σ', RelE K G ρ H env' σ' → Q σ' H
  | none => False
abbrev Pats := List D → En → Option En
def tGs (K : PySem.W.Frag) (p : Pats) : TGs := fun vs σ H Q => ∃ G ρ env ds, RelE K G ρ H env σ ∧ RepL K G ρ H ds vs ∧ match p ds env with
  | some env' => ∀ σ', RelE K G ρ H env' σ' → Q σ' H
  | none => False
def pName (i : Nat) : Pat := fun d env => some (env.set i (some d))
def pNil : Pats := fun ds env => match ds with
  | [] => some env
  | _ => none
def pCons (p : Pat) (q : Pats) : Pats := fun ds env => match ds with
  | d :: r => (p d env).bind fun e => q r e
  | [] => none
def pTup (n : Nat) (q : Pats) : Pat := fun d env => match d with
  | .tup ds => if ds.length = n then q ds env else none
  | _ => none
theorem jg_name (i : Nat) {x : Str} (hN : X.N.Nodup) (hi : X.N[i]? = some x := by rfl) (hx : Loc X.env.scope x := by first | exact Or.inl rfl | exact Or.inr rfl) (hf : X.fn x = true ∨ X.env.scope.names.lookup x = some .local := by first | exact .inl rfl | exact .inr rfl | assumption) : PG X (.Name x pos) (tG X.K (pName i)) :=
  pg_imp (pg_name hN hi hx hf) fun v σ H Q ⟨G, ρ, env, d, hE, hd, h⟩ => h _ (hE.set hd)
theorem pgs_imp {es : List Expr} {t t' : TGs} (h : PGs X es t) (i : ∀ v σ H Q, t' v σ H Q → t v σ H Q) : PGs X es t' := ⟨fun pins s σ H v u Q I r hw => h.run pins s σ H v u Q I r (i v σ H Q hw)⟩
theorem jgs_nil : PGs X [] (tGs X.K pNil) := pgs_imp pgs_nil fun vs σ H Q ⟨G, ρ, env, ds, hE, hd, h⟩ => by
  cases ds with
  | nil => exact ⟨hd, h σ hE⟩
  | cons d r => exact h.elim
theorem jgs_cons {tg : Expr} {es : List Expr} {p : Pat} {q : Pats} (h1 : PG X tg (tG X.K p)) (h2 : PGs X es (tGs X.K q))
    (hs : (assignEach (tg :: es) X.env).map (·.2) = assign tg X.env :: (assignEach es X.env).map (·.2) := by rfl) : PGs X (tg :: es) (tGs X.K (pCons p q)) := by
  refine pgs_imp (pgs_cons h1 h2 hs) ?_
  rintro vs σ H Q ⟨G, ρ, env, ds, hE, hd, h⟩
  cases ds with
  | nil => exact h.elim
  | cons d r =>
    obtain ⟨v, vs', rfl, x1, x2⟩ := hd
    refine ⟨v, vs', rfl, G, ρ, env, d, hE, x1, ?_⟩
    revert h
    show (match (p d env).bind fun e => q r e with | some env' => ∀ σ', RelE X.K G ρ H env' σ' → Q σ' H | none => False) → _
    cases p d env with
    | none => exact fun h => h
    | some e1 => exact fun h σ1 hE1 => ⟨G, ρ, e1, r, hE1, x2, h⟩
theorem jg_tup {es : List Expr} {k : Nat} {n : Nat} {q : Pats} (hc : X.calm = true) (h : PGs X es (tGs X.K q)) (hn : (assignEach es X.env).length = n := by rfl) (hst : (assignEach es X.env).findIdx? (·.1) = none := by rfl) : PG X (.Tuple es k pos) (tG X.K (pTup n q)) := by
  refine pg_imp (pg_tup hc h hn hst) ?_
  rintro v σ H Q ⟨G, ρ, env, d, hE, hd, h⟩
  cases d with
  | tup ds =>
    obtain ⟨a, vs, rfl, x1, x2⟩ := hd
    have h : (match (if ds.length = n then q ds env else none) with | some env' => ∀ σ', RelE X.K G ρ H env' σ' → Q σ' H | none => False) := h
    by_cases hl : ds.length = n
    · rw [if_pos hl] at h
      exact ⟨a, vs, rfl, .inl x1, by rw [x2.length]; exact hl, G, ρ, env, ds, hE, x2, h⟩
    · rw [if_neg hl] at h
      exact h.elim
  | _ => exact h.elim
/-! ### assignments -/
def sAsg (m : M D) (p : Pat) : MS := fun env S => (m env S).then env fun d S1 => match p d env with
  | some e' => .next e' S1
  | none => .bad
theorem asg_read {m : M D} {p : Pat} : ∀ D σ H, tS X.K cA W (sAsg m p) D σ H → tAsg (tE X.K cA W m) (tG X.K p) D σ H := by
  rintro D σ H ⟨G, ρ, env, S, hE, hS, h⟩
  refine ⟨G, ρ, env, S, hE, hS, OkS.thn hE h fun d S1 v ρ1 H1 r1 x1 k1 h1 => ⟨G, ρ1, env, d, hE.keep k1, x1, ?_⟩⟩
  revert h1
  cases p d env with
  | none => exact fun h => h
  | some e1 => exact fun h σ1 hE1 => h σ1 ρ1 H1 hE1 r1 Keep.refl
theorem js_asg {tg : Expr} {m : M D} {p : Pat} (he : PE X e (tE X.K cA W m)) (hg : PG X tg (tG X.K p)) (hs : swapsWithSole [tg] e pos.line X.env = pure false := by rfl) (hw : swappedStores [tg] e X.env = pure none := by rfl)
    (h1 : (assignEach [tg] X.env).map (·.2) = [assign tg X.env] := by rfl) : PS X (.Assign [tg] e pos) (tS X.K cA W (sAsg m p)) :=
  ps_imp (ps_asg he hg hs hw h1) asg_read
theorem js_set (i : Nat) {x : Str} {m : M D} {pos' : Pos} (hN : X.N.Nodup) (he : PE X e (tE X.K cA W m)) (hi : X.N[i]? = some x := by rfl) (hx : Loc X.env.scope x := by first | exact Or.inl rfl | exact Or.inr rfl) (hs : swapsWith e (some (.Name x pos')) pos.line X.env = pure false := by rfl)
    (hf : X.fn x = true ∨ X.env.scope.names.lookup x = some .local := by first | exact .inl rfl | exact .inr rfl | assumption) : PS X (.Assign [.Name x pos'] e pos) (tS X.K cA W (sAsg m (pName i))) := by
  refine ps_imp (ps_set hN hi hx he hs hf) ?_
  intro D σ H h
  obtain ⟨G, ρ, env, S, hE, hS, h⟩ := h
  refine ⟨G, ρ, env, S, hE, hS, OkS.thn hE h fun d S1 v ρ1 H1 r1 x1 k1 h1 => ?_⟩
  exact h1 _ ρ1 H1 ((hE.keep k1).set x1) r1 Keep.refl
/-- a, b = e1, e2 -/
def sPar (i j : Nat) (ma : M (List D)) : MS := fun env S => (ma env S).then env fun ds S1 => match ds with
  | [d, d'] => .next ((env.set i (some d)).set j (some d')) S1
  | _ => .bad
theorem js_par (i j : Nat) {x y : Str} {a b : Expr} {ma : M (List D)} {px py pt : Pos} {kt k2 pt2} (hc : X.calm = true) (hN : X.N.Nodup) (ha : PA X [a, b] (tAr X.K cA W ma)) (hi : X.N[i]? = some x := by rfl) (hj : X.N[j]? = some y := by rfl) (hij : i ≠ j := by decide)
    (hx : X.env.scope.names.lookup x = some .local := by rfl) (hy : X.env.scope.names.lookup y = some .local := by rfl) (hw : swappedStores [.Tuple [.Name x px, .Name y py] kt pt] (.Tuple [a, b] k2 pt2) X.env = pure (some [x, y]) := by rfl)
    (hs : swapsWithSole [.Tuple [.Name x px, .Name y py] kt pt] (.Tuple [a, b] k2 pt2) pos.line X.env = pure false := by rfl) : PS X (.Assign [.Tuple [.Name x px, .Name y py] kt pt] (.Tuple [a, b] k2 pt2) pos) (tS X.K cA W (sPar i j ma)) := by
  refine ps_imp (ps_par hc hN hi hj hij hx hy ha hw hs) ?_
  rintro D σ H ⟨G, ρ, env, S, hE, hS, h⟩
  refine ⟨G, ρ, env, S, hE, hS, OkS.thn hE h fun ds S1 vs ρ1 H1 r1 x1 k1 h1 => ?_⟩
  match ds, h1 with
  | [d, d'], h1 =>
    obtain ⟨v, _, rfl, q1, v', _, rfl, q2, rfl⟩ := x1
    exact ⟨v, v', rfl, h1 _ ρ1 H1 (((hE.keep k1).set q1).set q2) r1 Keep.refl⟩
  | [], h1 => exact h1.elim
  | [_], h1 => exact h1.elim
  | _ :: _ :: _ :: _, h1 => exact h1.elim
/-! ### o[i] = e -/
def sSet (mv mo mi : M D) (f : D → D → D → Store → Option Store) : MS := fun env S => (mv env S).then env fun v S1 => (mo env S1).then env fun o S2 => (mi env S2).then env fun i S3 => match f o i v S3 with
  | some S4 => .next env S4
  | none => .bad
def SetD (K : PySem.W.Frag) (r : TSet) (f : D → D → D → Store → Option Store) : Prop :=
  ∀ G ρ H S do_ di dv o i v S', RelS K G ρ S H → Rep K G ρ H do_ o → Rep K G ρ H di i → Rep K G ρ H dv v → f do_ di dv S = some S' → ∀ Q : Hp → Prop, (∀ H', RelS K G ρ S' H' → Keep G ρ H ρ H' → Q H') → r o i v H Q
theorem js_sub {o i : Expr} {mv mo mi : M D} {r : TSet} {f : D → D → D → Store → Option Store} {pos' : Pos} (hv : PE X e (tE X.K cA W mv)) (ho : PE X o (tE X.K cA W mo)) (hi : PE X i (tE X.K cA W mi)) (hs : PSet X r) (hd : SetD X.K r f)
    (ha : ∀ v, assign (.Subscript o i pos') X.env v = (do
      let ov ← holding [v] (eval o X.env)
      let iv ← holding [v, ov] (eval i X.env)
      standAt pos'
      holding [v, ov, iv] (setItem ov iv v)
      release [v, ov, iv] []) := by intro _; rfl) (hsw : swapsWithSole [.Subscript o i pos'] e pos.line X.env = pure false := by rfl) (hw : swappedStores [.Subscript o i pos'] e X.env = pure none := by rfl)
    (h1 : (assignEach [.Subscript o i pos'] X.env).map (·.2) = [assign (.Subscript o i pos') X.env] := by rfl) : PS X (.Assign [.Subscript o i pos'] e pos) (tS X.K cA W (sSet mv mo mi f)) := by
  refine ps_imp (ps_asg hv (pg_sub ho hi hs ha) hsw hw h1) ?_
  rintro D σ H ⟨G, ρ, env, S, hE, hS, h⟩
  refine ⟨G, ρ, env, S, hE, hS, OkS.thn hE h fun dv S1 v ρ1 H1 r1 x1 k1 h1 => ?_⟩
  refine ⟨G, ρ1, env, S1, hE.keep k1, r1, OkS.thn (hE.keep k1) h1 fun d0 S2 o ρ2 H2 r2 x2 k2 h2 => ?_⟩
  refine ⟨G, ρ2, env, S2, (hE.keep k1).keep k2, r2, OkS.thn ((hE.keep k1).keep k2) h2 fun di S3 i ρ3 H3 r3 x3 k3 h3 => ?_⟩
  revert h3
  cases e4 : f d0 di dv S3 with
  | none => exact fun h => h.elim
  | some S4 =>
    intro h3
    exact hd G ρ3 H3 S3 d0 di dv o i v S4 r3 (Rep.keep k3 _ _ x2) x3 (Rep.keep (k2.trans k3) _ _ x1) e4 _ fun H4 r4 k4 => h3 σ ρ3 H4 (((hE.keep k1).keep k2).keep (k3.trans k4)) r4 k4
/-! ### x op= e -/
def IpD (K : PySem.W.Frag) (r : TIp) (f : D → D → Store → Res D) : Prop :=
  ∀ G ρ H S d1 d2 v1 v2 E Q, RelS K G ρ S H → Rep K G ρ H d1 v1 → Rep K G ρ H d2 v2 → Ok K G (Rep K G) ρ H (f d1 d2 S) E Q → r v1 v2 H Q
def sAug (i : Nat) (m : M D) (f : D → D → Store → Res D) : MS := fun env S => match env[i]? with
  | some (some d) => (m env S).then env fun y S1 => (f d y S1).then env fun z S2 => .next (env.set i (some z)) S2
  | _ => .bad
theorem js_aug (i : Nat) {x : Str} {m : M D} {op : Operator} {r : TIp} {f : D → D → Store → Res D} {pos' : Pos} (hN : X.N.Nodup) (he : PE X e (tE X.K cA W m)) (ho : PIp X op r) (hd : IpD X.K r f) (hi : X.N[i]? = some x := by rfl) (hx : Loc X.env.scope x := by first | exact Or.inl rfl | exact Or.inr rfl)
    (hf : X.fn x = true ∨ X.env.scope.names.lookup x = some .local := by first | exact .inl rfl | exact .inr rfl | assumption) : PS X (.AugAssign (.Name x pos') op e pos) (tS X.K cA W (sAug i m f)) := by
  refine ps_imp (ps_aug hN hi hx he ho hf) ?_
  rintro D σ H ⟨G, ρ, env, S, hE, hS, h⟩
  unfold sAug at h
  split at h
  · rename_i d ed
    obtain ⟨v, h1, h2⟩ := hE.get i d ed
    refine ⟨v, h1, G, ρ, env, S, hE, hS, OkS.thn hE h fun y S1 u ρ1 H1 r1 x1 k1 h1 => ?_⟩
    refine hd G ρ1 H1 S1 d y v u (WE' cA W σ) _ r1 (Rep.keep k1 _ _ h2) x1 (OkS.thn (hE.keep k1) h1 fun z S2 w ρ2 H2 r2 x2 k2 h2 => ?_)
    exact h2 _ ρ2 H2 (((hE.keep k1).keep k2).set x2) r2 Keep.refl
  · exact h.elim
end
/-! ### loops -/
structure IT where
  ds : List D
  cells : List (Nat × List D)
def IT.chk (t : IT) (S : Store) : Prop := ∀ p ∈ t.cells, S[p.1]? = some (.lst p.2)
/-- as Keep, with more guarded -/
structure Keep2 (G : Addr → Prop) (ρ : List Addr) (H : Hp) (G' : Addr → Prop) (ρ' : List Addr) (H' : Hp) : Prop where
  pre : ∃ t, ρ' = ρ ++ t
  tup : ∀ a xs, Rd H a (.tup xs) → Rd H' a (.tup xs)
  lst : ∀ a xs, a ∉ ρ → ¬ G a → H a = some (.lst xs) → a ∉ ρ' ∧ ¬ G' a ∧ H' a = some (.lst xs)
  frz : ∀ a o u, H a = some (.frz o u) → H' a = some (.frz o u)
theorem Keep.two {G : Addr → Prop} {ρ ρ' : List Addr} {H H' : Hp} (k : Keep G ρ H ρ' H') : Keep2 G ρ H G ρ' H' := ⟨k.pre, k.tup, fun a xs h1 h2 h3 => let ⟨q1, q2⟩ := k.lst a xs h1 h2 h3; ⟨q1, h2, q2⟩, k.frz⟩
section
variable {K : PySem.W.Frag} {G G' : Addr → Prop} {ρ ρ' : List Addr} {H H' : Hp}
theorem Keep2.get (k : Keep2 G ρ H G' ρ' H') {n : Nat} {a : Addr} (h : ρ[n]? = some a) : ρ'[n]? = some a := by
  obtain ⟨t, rfl⟩ := k.pre
  have hn : n < ρ.length := (List.getElem?_eq_some_iff.mp h).1
  rw [List.getElem?_append_left hn]
  exact h
theorem Keep2.sqT (k : Keep2 G ρ H G' ρ' H') {a : Addr} {xs : List V} (h : SqT K H a xs) : SqT K H' a xs := by
  rcases h with h | h
  · exact .inl (k.tup a xs h)
  · exact .inr h
theorem Keep2.frL (k : Keep2 G ρ H G' ρ' H') {a : Addr} {xs : List V} (h : FrL G ρ H a xs) : FrL G' ρ' H' a xs :=
  k.lst a xs h.1 h.2.1 h.2.2
theorem Keep2.fzL (k : Keep2 G ρ H G' ρ' H') {a : Addr} {xs : List V} (h : FzL K H a xs) : FzL K H' a xs := by
  rcases h with ⟨o, h⟩ | h
  · exact .inl ⟨o, k.frz a o _ h⟩
  · exact .inr h
mutual
theorem Rep.keep2 (k : Keep2 G ρ H G' ρ' H') : ∀ (d : D) (v : V), Rep K G ρ H d v → Rep K G' ρ' H' d v
  | .non, _, h => h
  | .bl _, _, h => h
  | .int _, _, h => h
  | .str _, _, h => h
  | .ty _, _, h => h
  | .tup ds, v, h => by
    obtain ⟨a, vs, e, h1, h2⟩ := h
    exact ⟨a, vs, e, k.tup a vs h1, RepL.keep2 k ds vs h2⟩
  | .lst ds, v, h => by
    obtain ⟨a, vs, e, h1, h2⟩ := h
    exact ⟨a, vs, e, k.frL h1, RepL.keep2 k ds vs h2⟩
  | .fz ds, v, h => by
    obtain ⟨a, vs, e, h1, h2⟩ := h
    exact ⟨a, vs, e, k.fzL h1, RepL.keep2 k ds vs h2⟩
  | .cell n, v, h => by
    obtain ⟨a, e, h1⟩ := h
    exact ⟨a, e, k.get h1⟩
theorem RepL.keep2 (k : Keep2 G ρ H G' ρ' H') : ∀ (ds : List D) (vs : List V), RepL K G ρ H ds vs → RepL K G' ρ' H' ds vs
  | [], _, h => h
  | d :: ds, vs, h => by
    obtain ⟨v, vs', e, h1, h2⟩ := h
    exact ⟨v, vs', e, Rep.keep2 k d v h1, RepL.keep2 k ds vs' h2⟩
end
theorem RepKV.keep2 (k : Keep2 G ρ H G' ρ' H') : ∀ (ds : List (Key × D)) (vs : List (Key × V)), RepKV K G ρ H ds vs → RepKV K G' ρ' H' ds vs
  | [], _, h => h
  | (x, d) :: ds, vs, h => by
    obtain ⟨v, vs', e, h1, h2⟩ := h
    exact ⟨v, vs', e, Rep.keep2 k d v h1, RepKV.keep2 k ds vs' h2⟩
end
structure WD (K : PySem.W.Frag) (G : Addr → Prop) (ρ : List Addr) (H : Hp) (t : IT) (J : It) : Prop where
  go : ∀ G1 ρ1 S1 H1 i, Keep2 G ρ H G1 ρ1 H1 → RelS K G1 ρ1 S1 H1 → t.chk S1 → i < t.ds.length → J.go i H1
  stop : ∀ G1 ρ1 S1 H1, Keep2 G ρ H G1 ρ1 H1 → RelS K G1 ρ1 S1 H1 → t.chk S1 → J.stop t.ds.length H1
  yld : ∀ G1 ρ1 S1 H1 (i : Nat) d x H2, Keep2 G ρ H G1 ρ1 H1 → RelS K G1 ρ1 S1 H1 → t.chk S1 → t.ds[i]? = some d → J.yld i H1 x H2 → Rep K G1 ρ1 H2 d x ∧ Keep G1 ρ1 H1 ρ1 H2 ∧ RelS K G1 ρ1 S1 H2
def tI (K : PySem.W.Frag) (cA : Nat → Addr) (W : WX) (m : M IT) : TI := fun σ H R => ∃ G ρ env S, RelE K G ρ H env σ ∧ RelS K G ρ S H ∧ Ok K G (WD K G) ρ H (m env S) (WE' cA W σ) R
open Classical in
noncomputable def loopD (p : Pat) (body : MS) (dead : List Nat) (chk : Store → Prop) : List D → En → Store → RS
  | [], env, S => if chk S then .next env S else .bad
  | d :: ds, env, S => if chk S then (match p d env with
    | none => .bad
    | some e1 => match body e1 S with
      | .next e2 S2 => loopD p body dead chk ds (clr e2 dead) S2
      | .cont e2 S2 => loopD p body dead chk ds (clr e2 dead) S2
      | .brk e2 S2 => .next (clr e2 dead) S2
      | r => r) else .bad
noncomputable def sFor (m : M IT) (p : Pat) (body : MS) (dead : List Nat) : MS := fun env S => (m env S).then env fun t S1 => loopD p body dead t.chk t.ds (clr env dead) S1
section
variable {X : Cx} {e c tg : Expr} {pos : Pos} {cA : Nat → Addr} {W : WX}
theorem js_for {iter : Expr} {bd : List Stmt} {m : M IT} {p : Pat} {body : MS} (dead : List Nat) (hp : PassesOwn (model X.prog X.w) X.A X.env X.xe) (hc : X.calm = true) (hi : PI X tg iter (tI X.K cA W m)) (hg : PG X tg (tG X.K p)) (hb : PSs X bd (tS X.K cA W body))
    (hs : ∀ x, foldedSetIterable iter X.env x = pure x := by intro _; rfl) : PS X (.For tg iter bd [] pos) (tS X.K cA W (sFor m p body dead)) := by
  refine ps_imp (ps_for hp hc hi hg hb hs) ?_
  rintro D σ H ⟨G, ρ, env, S, hE, hS, h⟩
  refine ⟨G, ρ, env, S, hE, hS, OkS.thn hE h fun t S1 J ρ1 H1 r1 wd k1 h1 => ?_⟩
  let P : Nat → L2.St → Hp → Prop := fun i σ' H' => ∃ ρ' env' S', RelE X.K G ρ' H' env' σ' ∧ RelS X.K G ρ' S' H' ∧ Keep G ρ1 H1 ρ' H' ∧ OkS X.K cA W G ρ' H' D (loopD p body dead t.chk (t.ds.drop i) env' S')
  refine ⟨fun i m σ' H' => m = t.ds.length - i ∧ i ≤ t.ds.length ∧ P i σ' H', ⟨t.ds.length, rfl, Nat.zero_le _, ρ1, clr env dead, S1, (hE.keep k1).clr dead, r1, Keep.refl, h1⟩, ?_⟩
  rintro i m σ' H' ⟨rfl, hi, ρ2, env2, S2, e2, r2, k2, h2⟩
  by_cases hlt : i < t.ds.length
  · have hd : t.ds.drop i = t.ds[i] :: t.ds.drop (i + 1) := (List.getElem_cons_drop hlt).symm
    rw [hd] at h2
    unfold loopD at h2
    by_cases hch : t.chk S2
    · rw [if_pos hch] at h2
      refine .inr ⟨wd.go G ρ2 S2 H' i k2.two r2 hch hlt, P (i + 1), fun σ3 H3 q => ⟨t.ds.length - (i + 1), by omega, rfl, hlt, q⟩, fun x H3 hy => ?_⟩
      obtain ⟨x3, k3, r3⟩ := wd.yld G ρ2 S2 H' i t.ds[i] x H3 k2.two r2 hch (by rw [List.getElem?_eq_getElem hlt]) hy
      refine ⟨G, ρ2, env2, t.ds[i], e2.keep k3, x3, ?_⟩
      revert h2
      cases p t.ds[i] env2 with
      | none => exact fun h => h
      | some en1 =>
        intro h2 σ3 e3
        refine ⟨G, ρ2, en1, S2, e3, r3, ?_⟩
        have h2 := h2.keep k3
        revert h2
        show OkS X.K cA W G ρ2 H3 D (match body en1 S2 with | .next e2 S2 => _ | .cont e2 S2 => _ | .brk e2 S2 => _ | r => r) → _
        cases body en1 S2 with
        | next e4 S4 => exact fun h2 σ4 ρ4 H4 q1 q2 q3 => ⟨ρ4, _, S4, q1.clr dead, q2, (k2.trans k3).trans q3, h2.keep q3⟩
        | cont e4 S4 => exact fun h2 σ4 ρ4 H4 q1 q2 q3 => ⟨ρ4, _, S4, q1.clr dead, q2, (k2.trans k3).trans q3, h2.keep q3⟩
        | brk e4 S4 => exact fun h2 σ4 ρ4 H4 q1 q2 q3 => h2 σ4 ρ4 H4 (q1.clr dead) q2 q3
        | ret d S4 => exact fun h2 => h2
        | err c e4 S4 => exact fun h2 => h2
        | bad => exact fun h2 => h2
    · rw [if_neg hch] at h2
      exact h2.elim
  · have e : i = t.ds.length := by omega
    subst e
    rw [List.drop_length] at h2
    unfold loopD at h2
    by_cases hch : t.chk S2
    · rw [if_pos hch] at h2
      exact .inl ⟨wd.stop G ρ2 S2 H' k2.two r2 hch, h2 σ' ρ2 H' e2 r2 Keep.refl⟩
    · rw [if_neg hch] at h2
      exact h2.elim
/-- while -/
def whileD (c : M Bool) (body : MS) (dead : List Nat) : Nat → En → Store → RS
  | 0, _, _ => .bad
  | n + 1, env, S => match c env S with
    | .ok true S1 => (match body env S1 with
      | .next e2 S2 => whileD c body dead n (clr e2 dead) S2
      | .cont e2 S2 => whileD c body dead n (clr e2 dead) S2
      | .brk e2 S2 => .next (clr e2 dead) S2
      | r => r)
    | .ok false S1 => .next env S1
    | .err k S1 => .err k env S1
    | .bad => .bad
def sWhile (fuel : Nat) (c : M Bool) (body : MS) (dead : List Nat) : MS := fun env S => whileD c body dead fuel (clr env dead) S
theorem js_while {bd : List Stmt} {mc : M Bool} {body : MS} (fuel : Nat) (dead : List Nat) (hp : PassesOwn (model X.prog X.w) X.A X.env X.xe) (hc : PT X c (tT X.K cA W mc)) (hb : PSs X bd (tS X.K cA W body)) : PS X (.While c bd [] pos) (tS X.K cA W (sWhile fuel mc body dead)) := by
  refine ps_imp (ps_while hp hc hb) ?_
  rintro D σ H ⟨G, ρ, env, S, hE, hS, h⟩
  refine ⟨fun m σ' H' => ∃ ρ' env' S', RelE X.K G ρ' H' env' σ' ∧ RelS X.K G ρ' S' H' ∧ OkS X.K cA W G ρ' H' D (whileD mc body dead m env' S'), ⟨fuel, ρ, clr env dead, S, hE.clr dead, hS, h⟩, ?_⟩
  rintro m σ' H' ⟨ρ2, env2, S2, e2, r2, h2⟩
  cases m with
  | zero => exact h2.elim
  | succ m =>
    unfold whileD at h2
    refine ⟨G, ρ2, env2, S2, e2, r2, ?_⟩
    revert h2
    cases mc env2 S2 with
    | bad => exact fun h => h
    | err k S3 => exact fun h ρ3 H3 q1 q2 => h σ' ρ3 H3 (e2.keep q2) q1 q2
    | ok b S3 =>
      intro h2 b' ρ3 H3 r3 eb k3
      cases (show b' = b from eb)
      cases b with
      | false => exact iteF (h2 σ' ρ3 H3 (e2.keep k3) r3 k3)
      | true =>
        refine iteT ⟨fun σ4 H4 => ∃ ρ' env' S', RelE X.K G ρ' H4 env' σ4 ∧ RelS X.K G ρ' S' H4 ∧ OkS X.K cA W G ρ' H4 D (whileD mc body dead m env' S'), fun σ4 H4 q => ⟨m, Nat.lt_succ_self m, q⟩, G, ρ3, env2, S3, e2.keep k3, r3, ?_⟩
        have h2 := h2.keep k3
        revert h2
        show OkS X.K cA W G ρ3 H3 D (match body env2 S3 with | .next e2 S2 => _ | .cont e2 S2 => _ | .brk e2 S2 => _ | r => r) → _
        cases body env2 S3 with
        | next e4 S4 => exact fun h2 σ4 ρ4 H4 q1 q2 q3 => ⟨ρ4, _, S4, q1.clr dead, q2, h2.keep q3⟩
        | cont e4 S4 => exact fun h2 σ4 ρ4 H4 q1 q2 q3 => ⟨ρ4, _, S4, q1.clr dead, q2, h2.keep q3⟩
        | brk e4 S4 => exact fun h2 σ4 ρ4 H4 q1 q2 q3 => h2 σ4 ρ4 H4 (q1.clr dead) q2 q3
        | ret d S4 => exact fun h2 => h2
        | err c e4 S4 => exact fun h2 => h2
        | bad => exact fun h2 => h2
end
end Rf

namespace Rf
open PySem PySem.Spec PyProof.Rows L2

/-! ### defs -/
section
variable {K : PySem.W.Frag} {G : Addr → Prop} {ρ ρ' t : List Addr} {H H' : Hp} {S S' : Store}
mutual
theorem Rep.below : ∀ (d : D) (v : V), Rep K G ρ H d v → below ρ.length d
  | .non, _, _ => trivial
  | .bl _, _, _ => trivial
  | .int _, _, _ => trivial
  | .str _, _, _ => trivial
  | .ty _, _, _ => trivial
  | .tup ds, v, h => by
    obtain ⟨a, vs, e, h1, h2⟩ := h
    exact RepL.below ds vs h2
  | .lst ds, v, h => by
    obtain ⟨a, vs, e, h1, h2⟩ := h
    exact RepL.below ds vs h2
  | .fz ds, v, h => by
    obtain ⟨a, vs, e, h1, h2⟩ := h
    exact RepL.below ds vs h2
  | .cell n, v, h => by
    obtain ⟨a, e, h1⟩ := h
    exact (List.getElem?_eq_some_iff.mp h1).1
theorem RepL.below : ∀ (ds : List D) (vs : List V), RepL K G ρ H ds vs → belowL ρ.length ds
  | [], _, _ => trivial
  | d :: ds, vs, h => by
    obtain ⟨v, vs', e, h1, h2⟩ := h
    exact ⟨Rep.below d v h1, RepL.below ds vs' h2⟩
end
mutual
theorem pure_below (n : Nat) : ∀ d : D, pureD d = true → below n d
  | .non, _ => trivial
  | .bl _, _ => trivial
  | .int _, _ => trivial
  | .str _, _ => trivial
  | .ty _, _ => trivial
  | .tup ds, h => pureL_below n ds h
  | .lst ds, h => pureL_below n ds h
  | .fz ds, h => pureL_below n ds h
  | .cell k, h => by cases h
theorem pureL_below (n : Nat) : ∀ ds : List D, pureL ds = true → belowL n ds
  | [], _ => trivial
  | d :: ds, h => by
    have h : (pureD d && pureL ds) = true := h
    rw [Bool.and_eq_true] at h
    exact ⟨pure_below n d h.1, pureL_below n ds h.2⟩
end
mutual
theorem Rep.sub {n : Nat} {ρ1 ρ2 : List Addr} (hn : ∀ i, i < n → ρ2[i]? = ρ1[i]?) (hm : ∀ a ∈ ρ2, a ∈ ρ1) : ∀ (d : D) (v : V), below n d → Rep K G ρ1 H d v → Rep K G ρ2 H d v
  | .non, _, _, h => h
  | .bl _, _, _, h => h
  | .int _, _, _, h => h
  | .str _, _, _, h => h
  | .ty _, _, _, h => h
  | .tup ds, v, b, h => by
    obtain ⟨a, vs, e, h1, h2⟩ := h
    exact ⟨a, vs, e, h1, RepL.sub hn hm ds vs b h2⟩
  | .lst ds, v, b, h => by
    obtain ⟨a, vs, e, h1, h2⟩ := h
    exact ⟨a, vs, e, ⟨fun z => h1.1 (hm _ z), h1.2⟩, RepL.sub hn hm ds vs b h2⟩
  | .fz ds, v, b, h => by
    obtain ⟨a, vs, e, h1, h2⟩ := h
    exact ⟨a, vs, e, h1, RepL.sub hn hm ds vs b h2⟩
  | .cell k, v, b, h => by
    obtain ⟨a, e, h1⟩ := h
    exact ⟨a, e, by rw [hn k b]; exact h1⟩
theorem RepL.sub {n : Nat} {ρ1 ρ2 : List Addr} (hn : ∀ i, i < n → ρ2[i]? = ρ1[i]?) (hm : ∀ a ∈ ρ2, a ∈ ρ1) : ∀ (ds : List D) (vs : List V), belowL n ds → RepL K G ρ1 H ds vs → RepL K G ρ2 H ds vs
  | [], _, _, h => h
  | d :: ds, vs, b, h => by
    obtain ⟨v, vs', e, h1, h2⟩ := h
    exact ⟨v, vs', e, Rep.sub hn hm d v b.1 h1, RepL.sub hn hm ds vs' b.2 h2⟩
end
theorem RepKV.sub {n : Nat} {ρ1 ρ2 : List Addr} (hn : ∀ i, i < n → ρ2[i]? = ρ1[i]?) (hm : ∀ a ∈ ρ2, a ∈ ρ1) : ∀ (ds : List (Key × D)) (vs : List (Key × V)), (∀ p ∈ ds, Rf.below n p.2) → RepKV K G ρ1 H ds vs → RepKV K G ρ2 H ds vs
  | [], _, _, h => h
  | (x, d) :: ds, vs, b, h => by
    obtain ⟨v, vs', e, h1, h2⟩ := h
    exact ⟨v, vs', e, Rep.sub hn hm d v (b (x, d) List.mem_cons_self) h1, RepKV.sub hn hm ds vs' (fun p hp => b p (List.mem_cons_of_mem _ hp)) h2⟩
theorem pre_get {i : Nat} (h : i < ρ.length) : ρ[i]? = (ρ ++ t)[i]? := by rw [List.getElem?_append_left h]
theorem Rep.cut (d : D) (v : V) (b : Rf.below ρ.length d) (h : Rep K G (ρ ++ t) H d v) : Rep K G ρ H d v := Rep.sub (fun _ hi => pre_get hi) (fun _ z => List.mem_append_left _ z) d v b h
theorem RepL.cut (d : List D) (v : List V) (b : belowL ρ.length d) (h : RepL K G (ρ ++ t) H d v) : RepL K G ρ H d v := RepL.sub (fun _ hi => pre_get hi) (fun _ z => List.mem_append_left _ z) d v b h
theorem RepKV.below : ∀ (ds : List (Key × D)) (vs : List (Key × V)), RepKV K G ρ H ds vs → ∀ p ∈ ds, below ρ.length p.2
  | [], _, _, _, hp => nomatch hp
  | (x, d) :: ds, vs, h, p, hp => by
    obtain ⟨v, vs', e, h1, h2⟩ := h
    rcases List.mem_cons.mp hp with rfl | hp
    · exact Rep.below d v h1
    · exact RepKV.below ds vs' h2 p hp
def stOk (S S' : Store) : Prop := S.length ≤ S'.length ∧ ∀ i, i < S.length → S'[i]? = S[i]? ∨ ∃ ob, S'[i]? = some ob ∧ ob.pure = true
theorem stOk_app (S L : Store) : stOk S (S ++ L) := ⟨by simp, fun i hi => .inl (List.getElem?_append_left hi)⟩
theorem stOk_refl (S : Store) : stOk S S := ⟨Nat.le_refl _, fun i hi => .inl rfl⟩
theorem Keep.cut (k : Keep G ρ H ρ' H') : Keep G ρ H ρ H' := ⟨⟨[], by simp⟩, k.tup, fun a xs h1 h2 h3 => ⟨h1, (k.lst a xs h1 h2 h3).2⟩, k.frz, k.grd⟩
theorem st_below (r : RelS K G ρ S H) (st : stOk S S') {i : Nat} {o : Ob} (hi : i < S.length) (h1 : S'[i]? = some o) : (match o with | .lst ds => belowL ρ.length ds | .dK kvs => ∀ p ∈ kvs, Rf.below ρ.length p.2) := by
  rcases st.2 i hi with e | ⟨ob, e, hp⟩
  · rw [e] at h1
    obtain ⟨a, _, q0⟩ := r.at h1
    cases o with
    | lst ds => obtain ⟨vs, _, h⟩ := q0; exact RepL.below ds vs h
    | dK kvs => obtain ⟨vs, _, h⟩ := q0; exact RepKV.below kvs vs h
  · rw [e] at h1
    cases h1
    cases o with
    | lst ds => exact pureL_below _ ds hp
    | dK kvs => exact fun p hm => pure_below _ _ (List.all_eq_true.mp hp p hm)
theorem RelS.cut (r : RelS K G ρ S H) (r' : RelS K G ρ' S' H') (k : Keep G ρ H ρ' H') (st : stOk S S') : RelS K G ρ (S'.take S.length) H' := by
  obtain ⟨t, rfl⟩ := k.pre
  refine ⟨by rw [List.length_take, r.len]; have := st.1; omega, r.nd, r.ng, fun a h => r'.gt a h, r'.tp, fun i o a h1 h2 => ?_⟩
  have hi : i < S.length := by rw [← r.len]; exact (List.getElem?_eq_some_iff.mp h2).1
  rw [List.getElem?_take_of_lt hi] at h1
  have h3 : (ρ ++ t)[i]? = some a := by rw [List.getElem?_append_left (by rw [r.len]; exact hi)]; exact h2
  have q := r'.ob i o a h1 h3
  have bl := st_below r st hi h1
  cases o with
  | lst ds => obtain ⟨vs, e, h⟩ := q; exact ⟨vs, e, RepL.cut ds vs bl h⟩
  | dK kvs => obtain ⟨vs, e, h⟩ := q; exact ⟨vs, e, RepKV.sub (fun _ hi => pre_get hi) (fun _ z => List.mem_append_left _ z) kvs vs bl h⟩
/-- one cell of the new ones kept -/
theorem RelS.cut1 (r : RelS K G ρ S H) (r' : RelS K G ρ' S' H') (k : Keep G ρ H ρ' H') (st : stOk S S') {j : Nat} {a : Addr} {ds : List D} (hj : S.length ≤ j) (ha : ρ'[j]? = some a) (eo : S'[j]? = some (.lst ds)) (hq : pureL ds = true) :
    RelS K G (ρ ++ [a]) (S'.take S.length ++ [.lst ds]) H' ∧ Keep G ρ H (ρ ++ [a]) H' ∧ a ∉ ρ := by
  obtain ⟨t, et⟩ := k.pre
  have na : a ∉ ρ := fun hm => by
    obtain ⟨i, hi, ei⟩ := List.getElem_of_mem hm
    have hi' : i < ρ'.length := by rw [et, List.length_append]; omega
    have hj' : j < ρ'.length := (List.getElem?_eq_some_iff.mp ha).1
    have e1 : ρ'[i] = a := by
      have : ρ'[i]? = some a := by rw [et, List.getElem?_append_left hi, List.getElem?_eq_getElem hi, ei]
      exact (List.getElem?_eq_some_iff.mp this).2
    have e2 : ρ'[j] = a := (List.getElem?_eq_some_iff.mp ha).2
    have : i = j := (List.getElem_inj r'.nd).mp (e1.trans e2.symm)
    rw [r.len] at hi
    omega
  have ma : a ∈ ρ' := List.mem_of_getElem? ha
  have hsub : ∀ b ∈ ρ ++ [a], b ∈ ρ' := fun b hb => by
    rcases List.mem_append.mp hb with hb | hb
    · rw [et]; exact List.mem_append_left _ hb
    · simp at hb; rw [hb]; exact ma
  have hget : ∀ i, i < ρ.length → (ρ ++ [a])[i]? = ρ'[i]? := fun i hi => by rw [et, List.getElem?_append_left hi, List.getElem?_append_left hi]
  have k2 : Keep G ρ H (ρ ++ [a]) H' := by
    refine ⟨⟨[a], rfl⟩, k.tup, fun b xs h1 h2 h3 => ?_, k.frz, k.grd⟩
    obtain ⟨q1, q2⟩ := k.lst b xs h1 h2 h3
    exact ⟨fun hb => q1 (hsub b hb), q2⟩
  refine ⟨⟨?_, ?_, fun b hb => r'.ng b (hsub b hb), r'.gt, r'.tp, fun i o b h1 h2 => ?_⟩, k2, na⟩
  · rw [List.length_append, List.length_append, List.length_take, r.len]
    have := st.1
    simp
    omega
  · rw [List.nodup_append]
    refine ⟨r.nd, by simp, fun x hx y hy => ?_⟩
    rintro rfl
    simp at hy
    exact na (hy ▸ hx)
  · have lt : (S'.take S.length).length = S.length := by rw [List.length_take]; have := st.1; omega
    by_cases hi : i < S.length
    · rw [List.getElem?_append_left (by rw [lt]; exact hi), List.getElem?_take_of_lt hi] at h1
      rw [hget i (by rw [r.len]; exact hi)] at h2
      have q := r'.ob i o b h1 h2
      have bl := st_below r st hi h1
      cases o with
      | lst ds => obtain ⟨vs, e, h⟩ := q; exact ⟨vs, e, RepL.sub hget hsub ds vs bl h⟩
      | dK kvs => obtain ⟨vs, e, h⟩ := q; exact ⟨vs, e, RepKV.sub hget hsub kvs vs bl h⟩
    · have hi' : i = S.length := by
        have := (List.getElem?_eq_some_iff.mp h1).1
        rw [List.length_append, lt] at this
        simp at this
        omega
      subst hi'
      rw [List.getElem?_append_right (by rw [lt]; exact Nat.le_refl _), lt] at h1
      simp at h1
      subst h1
      rw [← r.len, List.getElem?_append_right (Nat.le_refl _)] at h2
      simp at h2
      subst h2
      obtain ⟨vs, e, h⟩ := r'.ob j _ a eo ha
      exact ⟨vs, e, RepL.sub hget hsub ds vs (pureL_below _ ds hq) h⟩
end
inductive Mode where
  | val | own
open Classical in
/-- what a def hands back: plain data (a list of its own as a value), or a list of its own as a cell -/
noncomputable def fin (md : Mode) (S : Store) (d : D) (S' : Store) : Res D :=
  if stOk S S' then
    match md with
    | .val => if pureD d = true then .ok d (S'.take S.length) else match d with
      | .cell j => if S.length ≤ j then (match S'[j]? with
        | some (.lst ds) => if pureL ds = true then .ok (.lst ds) (S'.take S.length) else .bad
        | _ => .bad) else .bad
      | _ => .bad
    | .own => match d with
      | .cell j => if S.length ≤ j then (match S'[j]? with
        | some (.lst ds) => if pureL ds = true then .ok (.cell S.length) (S'.take S.length ++ [.lst ds]) else .bad
        | _ => .bad) else .bad
      | _ => .bad
  else .bad
theorem fin_ok {K : PySem.W.Frag} {G : Addr → Prop} {ρ ρ' : List Addr} {H H' : Hp} {S S' : Store} {md : Mode} {d : D} {v : V} {E : Nat → Hp → Prop} {Q : VK} (h : Ok K G (Rep K G) ρ H (fin md S d S') E Q) (r : RelS K G ρ S H) (r' : RelS K G ρ' S' H') (x : Rep K G ρ' H' d v) (k : Keep G ρ H ρ' H') : Q v H' := by
  unfold fin at h
  by_cases st : stOk S S'
  · rw [if_pos st] at h
    have rc := r.cut r' k st
    obtain ⟨t, et⟩ := k.pre
    cases md with
    | val =>
      dsimp only at h
      by_cases hp : pureD d = true
      · rw [if_pos hp] at h
        refine h v ρ H' rc ?_ k.cut
        rw [et] at x
        exact Rep.cut d v (pure_below _ d hp) x
      · rw [if_neg hp] at h
        cases d with
        | cell j =>
          dsimp only at h
          by_cases hj : S.length ≤ j
          · rw [if_pos hj] at h
            obtain ⟨a, rfl, ha⟩ := x
            cases eo : S'[j]? with
            | none => rw [eo] at h; exact h.elim
            | some o =>
              rw [eo] at h
              cases o with
              | dK kvs => exact h.elim
              | lst ds =>
                dsimp only at h
                by_cases hq : pureL ds = true
                · rw [if_pos hq] at h
                  obtain ⟨vs, e, q⟩ := r'.ob j _ a eo ha
                  obtain ⟨_, _, na⟩ := r.cut1 r' k st hj ha eo hq
                  refine h (.ref a) ρ H' rc ⟨a, vs, rfl, ⟨na, r'.ng a (List.mem_of_getElem? ha), e⟩, ?_⟩ k.cut
                  rw [et] at q
                  exact RepL.cut ds vs (pureL_below _ ds hq) q
                · rw [if_neg hq] at h; exact h.elim
          · rw [if_neg hj] at h; exact h.elim
        | _ => exact h.elim
    | own =>
      cases d with
      | cell j =>
        dsimp only at h
        by_cases hj : S.length ≤ j
        · rw [if_pos hj] at h
          obtain ⟨a, rfl, ha⟩ := x
          cases eo : S'[j]? with
          | none => rw [eo] at h; exact h.elim
          | some o =>
            rw [eo] at h
            cases o with
            | dK kvs => exact h.elim
            | lst ds =>
              dsimp only at h
              by_cases hq : pureL ds = true
              · rw [if_pos hq] at h
                obtain ⟨q1, q2, q3⟩ := r.cut1 r' k st hj ha eo hq
                refine h (.ref a) (ρ ++ [a]) H' q1 ⟨a, rfl, ?_⟩ q2
                rw [← r.len, List.getElem?_append_right (Nat.le_refl _)]
                simp
              · rw [if_neg hq] at h; exact h.elim
        · rw [if_neg hj] at h; exact h.elim
      | _ => exact h.elim
  · rw [if_neg st] at h
    exact h.elim
open Classical in
noncomputable def runFn (md : Mode) (N : Nat) (body : MS) : List D → Store → Res D := fun ds S =>
  match body (ds.map some ++ List.replicate (N - ds.length) none) S with
  | .ret d S' => fin md S d S'
  | .next _ S' => fin md S .non S'
  | .err c _ S' => if stOk S S' then .err c (S'.take S.length) else .bad
  | _ => .bad
def spF (K : PySem.W.Frag) (cA : Nat → Addr) (n : Nat) (F : List D → Store → Res D) : Sp := fun vs H Q E => vs.length = n ∧ ∃ G ρ S ds, RelS K G ρ S H ∧ RepL K G ρ H ds vs ∧ Ok K G (Rep K G) ρ H (F ds S) (fun c H' => E (.ref (cA c)) none H') Q
theorem start_rel {K : PySem.W.Frag} {G : Addr → Prop} {ρ : List Addr} {H : Hp} {ds : List D} {vs : List V} (N : List Str) (h : RepL K G ρ H ds vs) : RelE K G ρ H (ds.map some ++ List.replicate (N.length - ds.length) none) (L2.start N vs) := by
  unfold L2.start
  have hl := h.length
  refine ⟨by simp [hl], fun i d e => ?_⟩
  by_cases hi : i < ds.length
  · rw [List.getElem?_append_left (by simpa using hi), List.getElem?_map] at e
    cases ed : ds[i]? with
    | none => rw [ed] at e; cases e
    | some d0 =>
      rw [ed] at e
      have e : some d0 = some d := by simpa using e
      cases e
      obtain ⟨v, h1, h2⟩ := h.get ed
      exact ⟨v, by rw [List.getElem?_append_left (by rw [List.length_map, hl]; exact hi), List.getElem?_map, h1]; rfl, h2⟩
  · rw [List.getElem?_append_right (by simpa using hi)] at e
    rw [List.getElem?_replicate] at e
    split at e <;> cases e
section
variable {P : Program} {w : World} {K : PySem.W.Frag} {mg : Str → Option Value} {base : Heap} {cA : Nat → Addr}
abbrev WF (E : XK) : WX := fun c d _ H => E c d H
theorem fn_ok {x qual : Str} {st : Stmt} {f : Addr} {fd : FuncData} {N ps : List Str} {k : Nat} {md : Mode} {body : MS} (F : Fun K x qual st f fd) (Sc : FnScope N ps (defScope st))
    (hb : ∀ (cdv : Value) (A : Around) (outer : List Env) (s : Shared) (H : Hp) (E : XK), Room k (A.deeper (envOfC qual (defScope st) s.heap.objs.size f cdv)) →
      PSs (cxOf (L2.CX P w) P w K mg base N qual (defScope st) f cdv A outer s H E) (defBody st) (tS K cA (WF E) body)) :
    FnOk P w K mg base (L2.CX P w) (k + 1) f fd ps (spF K cA ps.length (runFn md N.length body)) := by
  refine F.okX Sc (fun vs H Q E h => h.1) (fun cdv A outer s H vs Q E hr h => ⟨_, hb cdv A outer s H E hr, ?_⟩)
  obtain ⟨hl, G, ρ, S, ds, hS, hd, h⟩ := h
  refine ⟨G, ρ, _, S, start_rel N hd, hS, ?_⟩
  unfold runFn at h
  revert h
  cases body (ds.map some ++ List.replicate (N.length - ds.length) none) S with
  | next e S1 => exact fun h σ' ρ' H' q1 q2 q3 => fin_ok h hS q2 (show Rep K G ρ' H' .non .non from rfl) q3
  | ret d S1 => exact fun h v ρ' H' q1 q2 q3 => fin_ok h hS q1 q2 q3
  | brk e S1 => exact fun h => h.elim
  | cont e S1 => exact fun h => h.elim
  | err c e S1 =>
    intro h σ' ρ' H' q1 q2 q3
    dsimp only at h
    by_cases st : stOk S S1
    · rw [if_pos st] at h
      exact h ρ H' (hS.cut q2 q3 st) q3.cut
    · rw [if_neg st] at h
      exact h.elim
  | bad => exact fun h => h
end
section
variable {X : Cx} {e : Expr} {es : List Expr} {pos p : Pos} {cA : Nat → Addr} {W : WX} {x : Str}
def eCall (n : Nat) (F : List D → Store → Res D) (ma : M (List D)) : M D := fun env S => (ma env S).bind fun xs S1 => if xs.length = n then F xs S1 else .bad
theorem je_call {k n : Nat} {f : Addr} {fd : FuncData} {ps : List Str} {Fm : List D → Store → Res D} {ma : M (List D)} (F : FnOk X.prog X.w X.K X.mg X.base (L2.CX X.prog X.w) k f fd ps (spF X.K cA n Fm)) (hr : Room k X.A) (hg : Gl X x) (hm : X.mg x = some (.ref f)) (hk : PySem.W.keepIn X.K (.ref f) = true) (hb : Binds X.K fd ps []) (tk : Takes X W)
    (ha : PA X (e :: es) (tAr X.K cA W ma)) (hdb : (x == ("__debug__" : Str)) = false := by decide) (he : starEach (e :: es) X.env = (false, eval e X.env) :: starEach es X.env := by rfl) (hpl : (backTo pos (starEach es X.env)).any (·.1) = false := by rfl) :
    PE X (.Call (.Name x p) (e :: es) [] pos) (tE X.K cA W (eCall n Fm ma)) := by
  refine pe_imp (pe_callS (E := WE W) F hr hg hm hk hb (fun σ => passAt tk σ) ha hdb he hpl) ?_
  rintro σ H Q ⟨G, ρ, env, S, hE, hS, h⟩
  refine ⟨G, ρ, env, S, hE, hS, Ok.bind h fun ds S1 vs ρ1 H1 r1 x1 k1 h1 => ?_⟩
  by_cases hl : ds.length = n
  · rw [if_pos hl] at h1
    exact ⟨by rw [x1.length]; exact hl, G, ρ1, S1, ds, r1, x1, h1⟩
  · rw [if_neg hl] at h1
    exact h1.elim
end
end Rf

namespace Rf
open PySem PySem.Spec PyProof.Rows L2

/-! ### a heap without one object -/
def era (H : Hp) (d : Addr) : Hp := fun b => if b = d then none else H b
def gAnd (G : Addr → Prop) (d : Addr) : Addr → Prop := fun a => G a ∨ a = d
section
variable {K : PySem.W.Frag} {G : Addr → Prop} {ρ ρ' : List Addr} {H H' : Hp} {d : Addr} {S S' : Store}
theorem era_same : era H d d = none := by unfold era; rw [if_pos rfl]
theorem era_ne {b : Addr} (h : b ≠ d) : era H d b = H b := by unfold era; rw [if_neg h]
theorem era_some {b : Addr} {o : HO} (h : era H d b = some o) : b ≠ d ∧ H b = some o := by
  by_cases e : b = d
  · subst e; rw [era_same] at h; cases h
  · exact ⟨e, by rw [era_ne e] at h; exact h⟩
theorem upd_era {o : HO} (h : H d = some o) : upd (era H d) d o = H := by
  funext b
  by_cases e : b = d
  · subst e; rw [upd_same, h]
  · rw [upd_ne e, era_ne e]
theorem era_upd {o : HO} : era (upd H d o) d = era H d := by
  funext b
  by_cases e : b = d
  · subst e; rw [era_same, era_same]
  · rw [era_ne e, era_ne e, upd_ne e]
theorem era_none (h : H d = none) : era H d = H := by
  funext b
  by_cases e : b = d
  · subst e; rw [era_same, h]
  · rw [era_ne e]
theorem up2 {o : HO} (h : H d = some o) : Keep2 G ρ (era H d) (gAnd G d) ρ H := by
  refine ⟨⟨[], by simp⟩, fun a xs r => ?_, fun a xs h1 h2 h3 => ?_, fun a o u r => (era_some r).2⟩
  · rcases r with r | ⟨o, r⟩
    · exact .inl (era_some r).2
    · exact .inr ⟨o, (era_some r).2⟩
  · obtain ⟨e1, e2⟩ := era_some h3
    exact ⟨h1, fun q => q.elim h2 e1, e2⟩
theorem down2 {vs : List V} (h : H d = some (.lst vs)) : Keep2 (gAnd G d) ρ H G ρ (era H d) := by
  refine ⟨⟨[], by simp⟩, fun a xs r => ?_, fun a xs h1 h2 h3 => ?_, fun a o u r => ?_⟩
  · have ne : a ≠ d := fun e => by
      subst e
      rcases r with r | ⟨o, r⟩
      · rw [h] at r; cases r
      · rw [h] at r; cases r
    rcases r with r | ⟨o, r⟩
    · exact .inl (by rw [era_ne ne]; exact r)
    · exact .inr ⟨o, by rw [era_ne ne]; exact r⟩
  · have ne : a ≠ d := fun e => h2 (.inr e)
    exact ⟨h1, fun g => h2 (.inl g), by rw [era_ne ne]; exact h3⟩
  · have ne : a ≠ d := fun e => by subst e; rw [h] at r; cases r
    rw [era_ne ne]; exact r
theorem RelS.up {o : HO} (r : RelS K G ρ S (era H d)) (h : H d = some o) (ho : okO o := by exact True.intro) : RelS K (gAnd G d) ρ S H := by
  have nd := r.fresh (p := d) era_same
  refine ⟨r.len, r.nd, fun a ha q => q.elim (r.ng a ha) fun e => nd (e ▸ ha), fun a q => ?_, fun a u e => ?_, fun i o' a h1 h2 => ?_⟩
  · rcases q with q | q
    · obtain ⟨u, e⟩ := r.gt a q
      exact ⟨u, (era_some e).2⟩
    · exact ⟨o, by rw [q]; exact h⟩
  · by_cases z : a = d
    · subst z; rw [h] at e; cases e; exact ho
    · exact r.tp a u (by rw [era_ne z]; exact e)
  · have q := r.ob i o' a h1 h2
    cases o' with
    | lst ds => obtain ⟨vs, e, x⟩ := q; exact ⟨vs, (era_some e).2, RepL.keep2 (up2 h) ds vs x⟩
    | dK kvs => obtain ⟨vs, e, x⟩ := q; exact ⟨vs, (era_some e).2, RepKV.keep2 (up2 h) kvs vs x⟩
theorem RelS.down {vs : List V} (r : RelS K (gAnd G d) ρ S H) (h : H d = some (.lst vs)) (hd : ¬ G d) : RelS K G ρ S (era H d) := by
  refine ⟨r.len, r.nd, fun a ha g => r.ng a ha (.inl g), fun a g => ?_, fun a u e => r.tp a u (era_some e).2, fun i o' a h1 h2 => ?_⟩
  · obtain ⟨u, e⟩ := r.gt a (.inl g)
    exact ⟨u, by rw [era_ne (fun (z : a = d) => hd (z ▸ g))]; exact e⟩
  · have ne : a ≠ d := fun e => r.ng a (List.mem_of_getElem? h2) (.inr e)
    have q := r.ob i o' a h1 h2
    cases o' with
    | lst ds => obtain ⟨vs, e, x⟩ := q; exact ⟨vs, by rw [era_ne ne]; exact e, RepL.keep2 (down2 h) ds vs x⟩
    | dK kvs => obtain ⟨vs, e, x⟩ := q; exact ⟨vs, by rw [era_ne ne]; exact e, RepKV.keep2 (down2 h) kvs vs x⟩
theorem RelE.keep2 {G' : Addr → Prop} {env : En} {σ : L2.St} (k : Keep2 G ρ H G' ρ' H') (r : RelE K G ρ H env σ) : RelE K G' ρ' H' env σ :=
  ⟨r.len, fun i d h => let ⟨v, h1, h2⟩ := r.get i d h; ⟨v, h1, Rep.keep2 k d v h2⟩⟩
theorem Keep.down {vs : List V} (k : Keep (gAnd G d) ρ H ρ' H') (h : H d = some (.lst vs)) (hd : ¬ G d) : Keep G ρ (era H d) ρ' (era H' d) := by
  have h' : H' d = some (.lst vs) := by rw [k.grd d (.inr rfl)]; exact h
  refine ⟨k.pre, fun a xs r => ?_, fun a xs h1 h2 h3 => ?_, fun a o u r => ?_, fun a g => ?_⟩
  · rcases r with r | ⟨o, r⟩
    · obtain ⟨e1, e2⟩ := era_some r
      rcases k.tup a xs (.inl e2) with q | ⟨o, q⟩
      · exact .inl (by rw [era_ne e1]; exact q)
      · exact .inr ⟨o, by rw [era_ne e1]; exact q⟩
    · obtain ⟨e1, e2⟩ := era_some r
      rcases k.tup a xs (.inr ⟨o, e2⟩) with q | ⟨o, q⟩
      · exact .inl (by rw [era_ne e1]; exact q)
      · exact .inr ⟨o, by rw [era_ne e1]; exact q⟩
  · obtain ⟨e1, e2⟩ := era_some h3
    obtain ⟨q1, q2⟩ := k.lst a xs h1 (fun q => q.elim h2 e1) e2
    exact ⟨q1, by rw [era_ne e1]; exact q2⟩
  · obtain ⟨e1, e2⟩ := era_some r
    rw [era_ne e1]
    exact k.frz a o u e2
  · have ne : a ≠ d := fun e => hd (e ▸ g)
    rw [era_ne ne, era_ne ne]
    exact k.grd a (.inl g)
end
/-! ### targets of a comprehension -/
def tGo (K : PySem.W.Frag) (p : Pat) (own : List Nat) : TG := fun v σ H Q => ∃ G ρ env d, RelE K G ρ H env σ ∧ Rep K G ρ H d v ∧ match p d env with
  | some env' => ∀ σ', RelE K G ρ H env' σ' → wipe σ' own = wipe σ own → Q σ' H
  | none => False
def tGso (K : PySem.W.Frag) (p : Pats) (own : List Nat) : TGs := fun vs σ H Q => ∃ G ρ env ds, RelE K G ρ H env σ ∧ RepL K G ρ H ds vs ∧ match p ds env with
  | some env' => ∀ σ', RelE K G ρ H env' σ' → wipe σ' own = wipe σ own → Q σ' H
  | none => False
theorem set_comm' {α : Type} (l : List α) (i j : Nat) (a b : α) (h : i ≠ j) : (l.set i a).set j b = (l.set j b).set i a := List.set_comm _ _ h
theorem wipe_set {σ : L2.St} {i : Nat} {v : Option V} : ∀ {own : List Nat}, i ∈ own → wipe (σ.set i v) own = wipe σ own
  | [], h => nomatch h
  | j :: r, h => by
    unfold wipe
    by_cases e : i ∈ r
    · rw [wipe_set e]
    · have : i = j := by
        rcases List.mem_cons.mp h with h | h
        · exact h
        · exact absurd h e
      subst this
      have key : ∀ (r : List Nat) (σ : L2.St), i ∉ r → wipe (σ.set i v) r = (wipe σ r).set i v := by
        intro r
        induction r with
        | nil => intro σ _; rfl
        | cons k r ih =>
          intro σ hn
          unfold wipe
          rw [ih σ (fun z => hn (List.mem_cons_of_mem _ z))]
          exact set_comm' _ _ _ _ _ (fun z => hn (z ▸ List.mem_cons_self))
      rw [key r σ e, List.set_set]
theorem wipe_sub {σ : L2.St} {own : List Nat} : ∀ l : List Nat, (∀ i ∈ l, i ∈ own) → wipe (wipe σ l) own = wipe σ own
  | [], _ => rfl
  | i :: l, h => by
    show wipe ((wipe σ l).set i none) own = _
    rw [wipe_set (h i List.mem_cons_self)]
    exact wipe_sub l fun j hj => h j (List.mem_cons_of_mem _ hj)
theorem wipe_wipe {σ : L2.St} {own : List Nat} : wipe (wipe σ own) own = wipe σ own := wipe_sub own fun _ h => h
section
variable {X : Cx} {pos : Pos} {own : List Nat}
theorem jgo_name (i : Nat) {x : Str} (hN : X.N.Nodup) (ho : i ∈ own := by decide) (hi : X.N[i]? = some x := by rfl) (hx : Loc X.env.scope x := by first | exact Or.inl rfl | exact Or.inr rfl) (hf : X.fn x = true ∨ X.env.scope.names.lookup x = some .local := by first | exact .inl rfl | exact .inr rfl | assumption) : PG X (.Name x pos) (tGo X.K (pName i) own) :=
  pg_imp (pg_name hN hi hx hf) fun v σ H Q ⟨G, ρ, env, d, hE, hd, h⟩ => h _ (hE.set hd) (wipe_set ho)
theorem jgso_nil : PGs X [] (tGso X.K pNil own) := pgs_imp pgs_nil fun vs σ H Q ⟨G, ρ, env, ds, hE, hd, h⟩ => by
  cases ds with
  | nil => exact ⟨hd, h σ hE rfl⟩
  | cons d r => exact h.elim
theorem jgso_cons {tg : Expr} {es : List Expr} {p : Pat} {q : Pats} (h1 : PG X tg (tGo X.K p own)) (h2 : PGs X es (tGso X.K q own))
    (hs : (assignEach (tg :: es) X.env).map (·.2) = assign tg X.env :: (assignEach es X.env).map (·.2) := by rfl) : PGs X (tg :: es) (tGso X.K (pCons p q) own) := by
  refine pgs_imp (pgs_cons h1 h2 hs) ?_
  rintro vs σ H Q ⟨G, ρ, env, ds, hE, hd, h⟩
  cases ds with
  | nil => exact h.elim
  | cons d r =>
    obtain ⟨v, vs', rfl, x1, x2⟩ := hd
    refine ⟨v, vs', rfl, G, ρ, env, d, hE, x1, ?_⟩
    revert h
    show (match (p d env).bind fun e => q r e with | some env' => ∀ σ', RelE X.K G ρ H env' σ' → wipe σ' own = wipe σ own → Q σ' H | none => False) → _
    cases p d env with
    | none => exact fun h => h
    | some e1 =>
      intro h σ1 hE1 w1
      refine ⟨G, ρ, e1, r, hE1, x2, ?_⟩
      revert h
      show (match q r e1 with | some env' => ∀ σ', RelE X.K G ρ H env' σ' → wipe σ' own = wipe σ own → Q σ' H | none => False) → _
      cases q r e1 with
      | none => exact fun h => h
      | some e2 => exact fun h σ2 hE2 w2 => h σ2 hE2 (w2.trans w1)
theorem jgo_tup {es : List Expr} {k : Nat} {n : Nat} {q : Pats} (hc : X.calm = true) (h : PGs X es (tGso X.K q own)) (hn : (assignEach es X.env).length = n := by rfl) (hst : (assignEach es X.env).findIdx? (·.1) = none := by rfl) : PG X (.Tuple es k pos) (tGo X.K (pTup n q) own) := by
  refine pg_imp (pg_tup hc h hn hst) ?_
  rintro v σ H Q ⟨G, ρ, env, d, hE, hd, h⟩
  cases d with
  | tup ds =>
    obtain ⟨a, vs, rfl, x1, x2⟩ := hd
    have h : (match (if ds.length = n then q ds env else none) with | some env' => ∀ σ', RelE X.K G ρ H env' σ' → wipe σ' own = wipe σ own → Q σ' H | none => False) := h
    by_cases hl : ds.length = n
    · rw [if_pos hl] at h
      exact ⟨a, vs, rfl, .inl x1, by rw [x2.length]; exact hl, G, ρ, env, ds, hE, x2, h⟩
    · rw [if_neg hl] at h
      exact h.elim
  | _ => exact h.elim
end
/-! ### the comprehension -/
open Classical in
noncomputable def compD (p : Pat) (mt : M Bool) (me : M D) (chk : Store → Prop) (env : En) : List D → Store → Res (List D)
  | [], S => if chk S then .ok [] S else .bad
  | d :: ds, S => if chk S then (match p d env with
    | none => .bad
    | some e1 => match mt e1 S with
      | .ok true S1 => (match me e1 S1 with
        | .ok x S2 => (compD p mt me chk env ds S2).bind fun xs S3 => .ok (x :: xs) S3
        | _ => .bad)
      | .ok false S1 => compD p mt me chk env ds S1
      | _ => .bad) else .bad
noncomputable def fComp (mi : M IT) (p : Pat) (mt : M Bool) (me : M D) (own : List Nat) : M (List D) := fun env S => (mi env S).bind fun t S1 => if t.ds.length ≤ big then compD p mt me t.chk (clr env own) t.ds S1 else .bad
abbrev W0 : WX := fun _ _ _ _ => False
theorem clr_wipe_rel {K : PySem.W.Frag} {G : Addr → Prop} {ρ : List Addr} {H : Hp} {env : En} {σ : L2.St} (r : RelE K G ρ H env σ) : ∀ own : List Nat, RelE K G ρ H (clr env own) (wipe σ own)
  | [] => r
  | i :: own => by
    have q := clr_wipe_rel r own
    refine ⟨by rw [clr_length, wipe_length]; exact r.len, fun j d e => ?_⟩
    unfold clr at e
    unfold wipe
    by_cases hj : j = i
    · subst hj
      have hl : j < ((clr env own).set j none).length := (List.getElem?_eq_some_iff.mp e).1
      rw [List.length_set] at hl
      rw [List.getElem?_set_self hl] at e
      cases e
    · rw [List.getElem?_set_ne (Ne.symm hj)] at e
      obtain ⟨v, h1, h2⟩ := q.get j d e
      exact ⟨v, by rw [List.getElem?_set_ne (Ne.symm hj)]; exact h1, h2⟩
section
variable {X : Cx} {elt tg iter : Expr} {pos : Pos} {cA : Nat → Addr} {W : WX}
theorem comp_read {K : PySem.W.Frag} {mi : M IT} {p : Pat} {mt : M Bool} {me : M D} {own : List Nat} : ∀ σ H Q, tFr K cA W (fComp mi p mt me own) σ H Q → tLc (tI K cA W mi) (tGo K p own) (tT K cA W0 mt) (tE K cA W0 me) own σ H Q := by
  rintro σ H Q ⟨G, ρ, env, S, hE, hS, h⟩
  refine ⟨G, ρ, env, S, hE, hS, OkF.bind h fun t S1 J ρ1 H1 r1 wd k1 h1 => ?_⟩
  intro dA hdA
  have ng : ¬ G dA := r1.ngn hdA
  by_cases hbig : t.ds.length ≤ big
  · rw [if_pos hbig] at h1
    have hE1 : RelE K G ρ1 H1 (clr env own) (wipe σ own) := clr_wipe_rel (hE.keep k1) own
    let P : Nat → Hp → Prop := fun i H' => ∃ ρ' S' acc vs, RelS K G ρ' S' (era H' dA) ∧ Keep G ρ1 H1 ρ' (era H' dA) ∧ H' dA = some (.lst vs) ∧ RepL K G ρ' (era H' dA) acc vs ∧ acc.length ≤ i ∧
      OkF K G ρ' (era H' dA) ((compD p mt me t.chk (clr env own) (t.ds.drop i) S').bind fun xs S3 => .ok (acc ++ xs) S3) (WE' cA W σ) Q
    refine ⟨fun i m H' => m = t.ds.length - i ∧ i ≤ t.ds.length ∧ P i H', ⟨t.ds.length, rfl, Nat.zero_le _, ρ1, S1, [], [], ?_, ?_, upd_same, rfl, Nat.le_refl _, ?_⟩, ?_⟩
    · rw [era_upd, era_none hdA]; exact r1
    · rw [era_upd, era_none hdA]; exact Keep.refl
    · rw [era_upd, era_none hdA]
      have e : (compD p mt me t.chk (clr env own) t.ds S1).bind (fun xs S3 => Res.ok ([] ++ xs) S3) = compD p mt me t.chk (clr env own) t.ds S1 := by
        cases compD p mt me t.chk (clr env own) t.ds S1 <;> rfl
      show OkF K G ρ1 H1 ((compD p mt me t.chk (clr env own) t.ds S1).bind fun xs S3 => .ok ([] ++ xs) S3) (WE' cA W σ) Q
      rw [e]
      exact h1
    · rintro i m H' ⟨rfl, hi, ρ2, S2, acc, vs, r2, k2, hD, ra, hacc, h2⟩
      have ru : RelS K (gAnd G dA) ρ2 S2 H' := r2.up hD
      have ku : Keep2 G ρ1 H1 (gAnd G dA) ρ2 H' := by
        refine ⟨k2.pre, fun a xs q => (up2 (G := G) (ρ := ρ2) hD).tup a xs (k2.tup a xs q), fun a xs q1 q2 q3 => ?_, fun a o u q => (up2 (G := G) (ρ := ρ2) hD).frz a o u (k2.frz a o u q)⟩
        obtain ⟨z1, z2⟩ := k2.lst a xs q1 q2 q3
        exact (up2 (G := G) (ρ := ρ2) hD).lst a xs z1 q2 z2
      by_cases hlt : i < t.ds.length
      · have hd : t.ds.drop i = t.ds[i] :: t.ds.drop (i + 1) := (List.getElem_cons_drop hlt).symm
        rw [hd] at h2
        unfold compD at h2
        by_cases hch : t.chk S2
        · rw [if_pos hch] at h2
          refine .inr ⟨wd.go (gAnd G dA) ρ2 S2 H' i ku ru hch hlt, P (i + 1), fun H3 q => ⟨t.ds.length - (i + 1), by omega, rfl, hlt, q⟩, fun x H3 hy => ?_⟩
          obtain ⟨x3, k3, r3⟩ := wd.yld (gAnd G dA) ρ2 S2 H' i t.ds[i] x H3 ku ru hch (by rw [List.getElem?_eq_getElem hlt]) hy
          have eu : RelE K (gAnd G dA) ρ2 H3 (clr env own) (wipe σ own) := ((hE1.keep k2).keep2 (up2 hD)).keep k3
          refine ⟨gAnd G dA, ρ2, clr env own, t.ds[i], eu, x3, ?_⟩
          have hD3 : H3 dA = some (.lst vs) := by rw [k3.grd dA (.inr rfl)]; exact hD
          revert h2
          cases p t.ds[i] (clr env own) with
          | none => exact fun h => h
          | some en1 =>
            intro h2 σ3 e3 w3
            refine ⟨by rw [w3, wipe_wipe], gAnd G dA, ρ2, en1, S2, e3, r3, ?_⟩
            revert h2
            dsimp only
            cases mt en1 S2 with
            | bad => exact fun h => h
            | err c S4 => exact fun h => h.elim
            | ok b S4 =>
              intro h2 b' ρ4 H4 r4 eb k4
              cases (show b' = b from eb)
              have hD4 : H4 dA = some (.lst vs) := by rw [k4.grd dA (.inr rfl)]; exact hD3
              have kk4 : Keep (gAnd G dA) ρ2 H' ρ4 H4 := k3.trans k4
              have kd4 := kk4.down hD ng
              cases b with
              | false =>
                refine iteF ⟨ρ4, S4, acc, vs, r4.down hD4 ng, k2.trans kd4, hD4, RepL.keep kd4 _ _ ra, by omega, h2.keep kd4⟩
              | true =>
                refine iteT ⟨gAnd G dA, ρ4, en1, S4, e3.keep k4, r4, ?_⟩
                revert h2
                dsimp only
                cases me en1 S4 with
                | bad => exact fun h => h
                | err c S5 => exact fun h => h.elim
                | ok y S5 =>
                  intro h2 v ρ5 H5 r5 x5 k5
                  have hD5 : H5 dA = some (.lst vs) := by rw [k5.grd dA (.inr rfl)]; exact hD4
                  have kd5 := (kk4.trans k5).down hD ng
                  refine ⟨vs, hD5, ?_, ρ5, S5, acc ++ [y], vs ++ [v], ?_, ?_, upd_same, ?_, by simp; omega, ?_⟩
                  · have := ra.length
                    exact big_lt (by omega)
                  · rw [era_upd]; exact r5.down hD5 ng
                  · rw [era_upd]; exact k2.trans kd5
                  · rw [era_upd]
                    exact (RepL.keep kd5 _ _ ra).snoc (Rep.keep2 (down2 hD5) y v x5)
                  · rw [era_upd]
                    refine OkF.keep kd5 ?_
                    have e : ((compD p mt me t.chk (clr env own) (t.ds.drop (i + 1)) S5).bind fun xs S3 => Res.ok (y :: xs) S3).bind (fun xs S3 => Res.ok (acc ++ xs) S3) = (compD p mt me t.chk (clr env own) (t.ds.drop (i + 1)) S5).bind fun xs S3 => .ok (acc ++ [y] ++ xs) S3 := by
                      cases compD p mt me t.chk (clr env own) (t.ds.drop (i + 1)) S5 <;> simp [Res.bind]
                    rw [← e]
                    exact h2
        · rw [if_neg hch] at h2
          exact h2.elim
      · have e : i = t.ds.length := by omega
        subst e
        rw [List.drop_length] at h2
        unfold compD at h2
        by_cases hch : t.chk S2
        · rw [if_pos hch] at h2
          refine .inl ⟨wd.stop (gAnd G dA) ρ2 S2 H' ku ru hch, ?_⟩
          have q := h2 dA vs ρ2 (era H' dA) r2 (by rw [List.append_nil]; exact ra) Keep.refl era_same
          rw [upd_era hD] at q
          exact q
        · rw [if_neg hch] at h2
          exact h2.elim
  · rw [if_neg hbig] at h1
    exact h1.elim
theorem pts_imp {ifs : List Expr} {t t' : TT} (h : PTs X ifs t) (i : ∀ σ H Q, t' σ H Q → t σ H Q) : PTs X ifs t' := ⟨fun pins s σ H Q I hw => h.run pins s σ H Q I (i σ H Q hw)⟩
def tYes' : M Bool := fun _ S => .ok true S
theorem jts_nil : PTs X [] (tT X.K cA W tYes') := pts_imp pts_nil fun _ _ _ ⟨_, _, _, _, _, hS, h⟩ => h.now hS rfl
theorem jts_one {c : Expr} {m : M Bool} (h : PT X c (tT X.K cA W m)) : PTs X [c] (tT X.K cA W m) := pts_one h
theorem jf_lc {ifs : List Expr} {scope : Scope} (own : List (Str × Nat)) {mi : M IT} {p : Pat} {mt : M Bool} {me : M D} (hc : X.calm = true) (hN : X.N.Nodup) (hi : PI X tg iter (tI X.K cA W mi)) (ok : BlkOk X.N X.env.scope scope own)
    (hg : ∀ (s : Shared) (H : Hp) (C : Addr) (cl : List (Str × Addr)) (fp : List Addr), PG (X.blk s H scope (compEnvC scope cl C X.env) fp) tg (tGo X.K p (own.map (·.2)))) (ht : ∀ (s : Shared) (H : Hp) (C : Addr) (cl : List (Str × Addr)) (fp : List Addr), PTs (X.blk s H scope (compEnvC scope cl C X.env) fp) ifs (tT X.K cA W0 mt))
    (he : ∀ (s : Shared) (H : Hp) (C : Addr) (cl : List (Str × Addr)) (fp : List Addr), PE (X.blk s H scope (compEnvC scope cl C X.env) fp) elt (tE X.K cA W0 me)) (hs : ∀ x, foldedSetIterable iter X.env x = pure x := by intro _; rfl) :
    PE X (.ListComp elt [⟨tg, iter, ifs, 0⟩] scope pos) (tFr X.K cA W (fComp mi p mt me (own.map (·.2)))) :=
  pe_imp (pe_lc hc hN hi ok hg ht he hs) comp_read
/-- name = [..], the name a local -/
theorem js_setLc (i : Nat) {y : Str} {py spos : Pos} {ifs : List Expr} {scope : Scope} (own : List (Str × Nat)) {mi : M IT} {p : Pat} {mt : M Bool} {me m : M D} (hm : ∀ σ H Q, tE X.K cA W m σ H Q → tFr X.K cA W (fComp mi p mt me (own.map (·.2))) σ H Q) (hc : X.calm = true) (hN : X.N.Nodup)
    (hsw : swapsWith (.ListComp elt [⟨tg, iter, ifs, 0⟩] scope pos) (some (.Name y py)) spos.line X.env = pure true) (hi : PI X tg iter (tI X.K cA W mi)) (ok : BlkOk X.N X.env.scope scope own)
    (hg : ∀ (s : Shared) (H : Hp) (C : Addr) (cl : List (Str × Addr)) (fp : List Addr), PG (X.blk s H scope (compEnvC scope cl C X.env) fp) tg (tGo X.K p (own.map (·.2)))) (ht : ∀ (s : Shared) (H : Hp) (C : Addr) (cl : List (Str × Addr)) (fp : List Addr), PTs (X.blk s H scope (compEnvC scope cl C X.env) fp) ifs (tT X.K cA W0 mt))
    (he : ∀ (s : Shared) (H : Hp) (C : Addr) (cl : List (Str × Addr)) (fp : List Addr), PE (X.blk s H scope (compEnvC scope cl C X.env) fp) elt (tE X.K cA W0 me)) (hy : X.N[i]? = some y := by rfl) (hyl : X.env.scope.names.lookup y = some .local := by rfl) (hs : ∀ x, foldedSetIterable iter X.env x = pure x := by intro _; rfl) :
    PS X (.Assign [.Name y py] (.ListComp elt [⟨tg, iter, ifs, 0⟩] scope pos) spos) (tS X.K cA W (sAsg m (pName i))) := by
  refine ps_imp (ps_setLc hc hN hy hyl hsw hi ok hg ht he hs) ?_
  intro D σ H h
  refine comp_read σ H _ (hm σ H _ ?_)
  obtain ⟨G, ρ, env, S, hE, hS, h⟩ := h
  refine ⟨G, ρ, env, S, hE, hS, OkS.thn hE h fun d S1 v ρ1 H1 r1 x1 k1 h1 => ?_⟩
  exact h1 _ ρ1 H1 ((hE.keep k1).set x1) r1 Keep.refl
end
end Rf

namespace Rf
open PySem PySem.Spec PyProof.Rows L2

/-! ### data as PyData -/
mutual
def py : D → PyData
  | .non => .none
  | .bl b => .bool b
  | .int i => .int i
  | .str x => .str x
  | .ty _ => .none
  | .tup ds => .tuple (pyL ds)
  | .lst ds => .list (pyL ds)
  | .fz ds => .list (pyL ds)
  | .cell _ => .none
def pyL : List D → List PyData
  | [] => []
  | d :: ds => py d :: pyL ds
end
theorem pyL_map : ∀ ds : List D, pyL ds = ds.map py
  | [] => rfl
  | d :: ds => by unfold pyL; rw [pyL_map ds]; rfl
/-- data, at most n within one another -/
def shD : Nat → D → Bool
  | _, .non | _, .bl _ | _, .int _ => true
  | _, .str x => PyData.strOk x
  | n + 1, .tup ds => ds.all (shD n)
  | n + 1, .lst ds => ds.all (shD n)
  | n + 1, .fz ds => ds.all (shD n)
  | _, _ => false
theorem lay_all {ps : List PyData} (h : ∀ p ∈ ps, p.canLay0 = true) : PyData.canLayAll0 ps = true := by
  induction ps with
  | nil => rfl
  | cons p r ih =>
    unfold PyData.canLayAll0
    rw [h p List.mem_cons_self, ih fun q hq => h q (List.mem_cons_of_mem _ hq)]
    rfl
theorem depth_all {n : Nat} {ps : List PyData} (h : ∀ p ∈ ps, p.depth ≤ n) : PyData.depthAll ps ≤ n := by
  induction ps with
  | nil => unfold PyData.depthAll; exact Nat.zero_le _
  | cons p r ih =>
    unfold PyData.depthAll
    exact Nat.max_le.mpr ⟨h p List.mem_cons_self, ih fun q hq => h q (List.mem_cons_of_mem _ hq)⟩
theorem shD_ok : ∀ (n : Nat) (d : D), shD n d = true → (py d).canLay0 = true ∧ (py d).depth ≤ n
  | _, .non, _ => ⟨rfl, Nat.zero_le _⟩
  | _, .bl _, _ => ⟨rfl, Nat.zero_le _⟩
  | _, .int _, _ => ⟨rfl, Nat.zero_le _⟩
  | 0, .str x, h => ⟨by simpa [py, PyData.canLay0, shD] using h, by simp [py, PyData.depth]⟩
  | n + 1, .str x, h => ⟨by simpa [py, PyData.canLay0, shD] using h, by simp [py, PyData.depth]⟩
  | 0, .ty _, h => by simp [shD] at h
  | n + 1, .ty _, h => by simp [shD] at h
  | 0, .cell _, h => by simp [shD] at h
  | n + 1, .cell _, h => by simp [shD] at h
  | 0, .tup ds, h => by simp [shD] at h
  | 0, .lst ds, h => by simp [shD] at h
  | 0, .fz ds, h => by simp [shD] at h
  | n + 1, .tup ds, h => by
    have h : ds.all (shD n) = true := h
    have k : ∀ p ∈ pyL ds, p.canLay0 = true ∧ p.depth ≤ n := fun p hp => by
      rw [pyL_map] at hp
      obtain ⟨d, hd, rfl⟩ := List.mem_map.mp hp
      exact shD_ok n d (List.all_eq_true.mp h d hd)
    refine ⟨by unfold py PyData.canLay0; exact lay_all fun p hp => (k p hp).1, ?_⟩
    unfold py PyData.depth
    exact Nat.succ_le_succ (depth_all fun p hp => (k p hp).2)
  | n + 1, .lst ds, h => by
    have h : ds.all (shD n) = true := h
    have k : ∀ p ∈ pyL ds, p.canLay0 = true ∧ p.depth ≤ n := fun p hp => by
      rw [pyL_map] at hp
      obtain ⟨d, hd, rfl⟩ := List.mem_map.mp hp
      exact shD_ok n d (List.all_eq_true.mp h d hd)
    refine ⟨by unfold py PyData.canLay0; exact lay_all fun p hp => (k p hp).1, ?_⟩
    unfold py PyData.depth
    exact Nat.succ_le_succ (depth_all fun p hp => (k p hp).2)
  | n + 1, .fz ds, h => by
    have h : ds.all (shD n) = true := h
    have k : ∀ p ∈ pyL ds, p.canLay0 = true ∧ p.depth ≤ n := fun p hp => by
      rw [pyL_map] at hp
      obtain ⟨d, hd, rfl⟩ := List.mem_map.mp hp
      exact shD_ok n d (List.all_eq_true.mp h d hd)
    refine ⟨by unfold py PyData.canLay0; exact lay_all fun p hp => (k p hp).1, ?_⟩
    unfold py PyData.depth
    exact Nat.succ_le_succ (depth_all fun p hp => (k p hp).2)
def dpt : Nat := 12
theorem shaped_of {d : D} (h : shD dpt d = true) : SeqAt.shaped (py d) = true := by
  obtain ⟨h1, h2⟩ := shD_ok dpt d h
  unfold SeqAt.shaped
  rw [h1, decide_eq_true (Nat.le_trans h2 (by decide))]
  rfl
section
variable {K : PySem.W.Frag} {G : Addr → Prop} {ρ : List Addr} {H : Hp}
theorem rep_dpL {n : Nat} (ih : ∀ (d : D) (v : V), shD n d = true → Rep K G ρ H d v → Dp K H v (py d)) : ∀ (ds : List D) (vs : List V), ds.all (shD n) = true → RepL K G ρ H ds vs → DpAll K H vs (pyL ds)
  | [], vs, _, h => by rw [show vs = [] from h]; exact .nil
  | d :: ds, vs, hs, h => by
    obtain ⟨v, vs', rfl, h1, h2⟩ := h
    rw [List.all_cons, Bool.and_eq_true] at hs
    exact .cons (ih d v hs.1 h1) (rep_dpL ih ds vs' hs.2 h2)
theorem rep_dp : ∀ (n : Nat) (d : D) (v : V), shD n d = true → Rep K G ρ H d v → Dp K H v (py d)
  | _, .non, v, _, h => by rw [show v = .non from h]; exact .non
  | _, .bl b, v, _, h => by rw [show v = .bl b from h]; exact .bl b
  | _, .int i, v, _, h => by rw [show v = .int i from h]; exact .int i
  | _, .str x, v, _, h => by rw [show v = .str x from h]; exact .str x
  | 0, .ty _, _, h, _ => by simp [shD] at h
  | n + 1, .ty _, _, h, _ => by simp [shD] at h
  | 0, .cell _, _, h, _ => by simp [shD] at h
  | n + 1, .cell _, _, h, _ => by simp [shD] at h
  | 0, .tup ds, _, h, _ => by simp [shD] at h
  | 0, .lst ds, _, h, _ => by simp [shD] at h
  | 0, .fz ds, _, h, _ => by simp [shD] at h
  | n + 1, .tup ds, v, hs, h => by
    obtain ⟨a, vs, rfl, h1, h2⟩ := h
    exact .tup (.inl h1) (rep_dpL (rep_dp n) ds vs hs h2)
  | n + 1, .lst ds, v, hs, h => by
    obtain ⟨a, vs, rfl, h1, h2⟩ := h
    exact .lst h1.sq (rep_dpL (rep_dp n) ds vs hs h2)
  | n + 1, .fz ds, v, hs, h => by
    obtain ⟨a, vs, rfl, h1, h2⟩ := h
    exact .lst h1.sq (rep_dpL (rep_dp n) ds vs hs h2)
end
/-- a cell read as the list that stands there -/
def val (S : Store) : D → D
  | .cell n => match S[n]? with
    | some (.lst ds) => .lst ds
    | _ => .cell n
  | d => d
theorem rep_val {K : PySem.W.Frag} {G : Addr → Prop} {ρ : List Addr} {H : Hp} {S : Store} {d : D} {v : V} (r : RelS K G ρ S H) (h : Rep K G ρ H d v) (hs : shD dpt (val S d) = true) : Dp K H v (py (val S d)) := by
  cases d with
  | cell n =>
    unfold val at hs ⊢
    dsimp only at hs ⊢
    cases e : S[n]? with
    | none => rw [e] at hs; simp [shD, dpt] at hs
    | some o =>
      rw [e] at hs
      cases o with
      | dK kvs => simp [shD, dpt] at hs
      | lst ds =>
        obtain ⟨a, rfl, ha⟩ := h
        obtain ⟨vs, h1, h2⟩ := r.ob n _ a e ha
        exact .lst (.of h1) (rep_dpL (rep_dp 11) ds vs hs h2)
  | _ => exact rep_dp dpt _ v hs h
/-! ### == and != -/
def dEq (d e : D) (S : Store) : Res D := match d, e with
  | .int i, .int j => .ok (.bl (decide (i = j))) S
  | .bl i, .bl j => .ok (.bl (decide (i = j))) S
  | d, e => if shD dpt (val S d) = true ∧ shD dpt (val S e) = true then .ok (.bl (PyData.eqv (py (val S d)) (py (val S e)))) S else .bad
def dNe (d e : D) (S : Store) : Res D := match d, e with
  | .int i, .int j => .ok (.bl (!decide (i = j))) S
  | .bl i, .bl j => .ok (.bl (!decide (i = j))) S
  | d, e => if shD dpt (val S d) = true ∧ shD dpt (val S e) = true then .ok (.bl (!PyData.eqv (py (val S d)) (py (val S e)))) S else .bad
theorem eqv_int (i j : Int) : PyData.eqv (.int i) (.int j) = decide (i = j) := by
  unfold PyData.eqv
  by_cases h : i = j
  · rw [decide_eq_true h, h]; simp
  · rw [decide_eq_false h]; simpa using h
theorem eqv_bl (i j : Bool) : PyData.eqv (.bool i) (.bool j) = decide (i = j) := by
  unfold PyData.eqv
  cases i <;> cases j <;> rfl
theorem od_eq {K : PySem.W.Frag} : OpD K (rEqD K) dEq := by
  intro G ρ H S d1 d2 v1 v2 E Q r x1 x2 h
  have gen : (if shD dpt (val S d1) = true ∧ shD dpt (val S d2) = true then Res.ok (D.bl (PyData.eqv (py (val S d1)) (py (val S d2)))) S else Res.bad) = dEq d1 d2 S → rEqD K v1 v2 H Q := fun e => by
    rw [← e] at h
    by_cases hs : shD dpt (val S d1) = true ∧ shD dpt (val S d2) = true
    · rw [if_pos hs] at h
      exact ⟨_, _, rep_val r x1 hs.1, rep_val r x2 hs.2, shaped_of hs.1, shaped_of hs.2, h.now r rfl⟩
    · rw [if_neg hs] at h
      exact h.elim
  refine gen ?_
  cases d1 <;> cases d2 <;> first
    | rfl
    | (rename_i i j; rw [if_pos ⟨rfl, rfl⟩]; show Res.ok (D.bl (PyData.eqv (.int i) (.int j))) S = Res.ok (D.bl (decide (i = j))) S; rw [eqv_int])
    | (rename_i i j; rw [if_pos ⟨rfl, rfl⟩]; show Res.ok (D.bl (PyData.eqv (.bool i) (.bool j))) S = Res.ok (D.bl (decide (i = j))) S; rw [eqv_bl])
theorem od_ne {K : PySem.W.Frag} : OpD K (rNeD K) dNe := by
  intro G ρ H S d1 d2 v1 v2 E Q r x1 x2 h
  have gen : (if shD dpt (val S d1) = true ∧ shD dpt (val S d2) = true then Res.ok (D.bl (!PyData.eqv (py (val S d1)) (py (val S d2)))) S else Res.bad) = dNe d1 d2 S → rNeD K v1 v2 H Q := fun e => by
    rw [← e] at h
    by_cases hs : shD dpt (val S d1) = true ∧ shD dpt (val S d2) = true
    · rw [if_pos hs] at h
      exact ⟨_, _, rep_val r x1 hs.1, rep_val r x2 hs.2, shaped_of hs.1, shaped_of hs.2, h.now r rfl⟩
    · rw [if_neg hs] at h
      exact h.elim
  refine gen ?_
  cases d1 <;> cases d2 <;> first
    | rfl
    | (rename_i i j; rw [if_pos ⟨rfl, rfl⟩]; show Res.ok (D.bl (!PyData.eqv (.int i) (.int j))) S = Res.ok (D.bl (!decide (i = j))) S; rw [eqv_int])
    | (rename_i i j; rw [if_pos ⟨rfl, rfl⟩]; show Res.ok (D.bl (!PyData.eqv (.bool i) (.bool j))) S = Res.ok (D.bl (!decide (i = j))) S; rw [eqv_bl])
/-! ### in, not in -/
def rInU (K : PySem.W.Frag) (neg : Bool) : R2 := fun x y H Q => ∃ d ds b, Dp K H x d ∧ Dp K H y (if b = true then .list ds else .tuple ds) ∧ SeqAt.shaped d = true ∧ SeqAt.shaped (if b = true then PyData.list ds else .tuple ds) = true ∧ Q (.bl (if neg then !(ds.any fun z => PyData.eqv z d) else ds.any fun z => PyData.eqv z d)) H
section
variable {X : Cx}
theorem op_inU (hu : X.A.units + 65 < cLine) : OpR X (compareOp .In) (rInU X.K false) := by
  intro pins s σ H x y v u Q I rx ry h
  obtain ⟨d, ds, b, hd, he, sd, se, q⟩ := h
  obtain ⟨as, r1⟩ := Dp.reads I d x v hd rx
  obtain ⟨bs, r2⟩ := Dp.reads I _ y u he ry
  cases b with
  | true => exact SeqAt.in_list_reads r2 r1 (SeqAt.canLay_of_shaped se) (SeqAt.canLay_of_shaped sd) (room_in_shaped sd hu) ⟨.bl _, H, I, rfl, q⟩
  | false => exact SeqAt.in_tuple_reads r2 r1 (SeqAt.canLay_of_shaped se) (SeqAt.canLay_of_shaped sd) (room_in_shaped sd hu) ⟨.bl _, H, I, rfl, q⟩
theorem op_notInU (hu : X.A.units + 65 < cLine) : OpR X (compareOp .NotIn) (rInU X.K true) := by
  intro pins s σ H x y v u Q I rx ry h
  obtain ⟨d, ds, b, hd, he, sd, se, q⟩ := h
  obtain ⟨as, r1⟩ := Dp.reads I d x v hd rx
  obtain ⟨bs, r2⟩ := Dp.reads I _ y u he ry
  cases b with
  | true => exact SeqAt.notIn_list_reads r2 r1 (SeqAt.canLay_of_shaped se) (SeqAt.canLay_of_shaped sd) (room_in_shaped sd hu) ⟨.bl _, H, I, rfl, q⟩
  | false => exact SeqAt.notIn_tuple_reads r2 r1 (SeqAt.canLay_of_shaped se) (SeqAt.canLay_of_shaped sd) (room_in_shaped sd hu) ⟨.bl _, H, I, rfl, q⟩
end
def isIn (d : D) (ds : List D) : Bool := ds.any fun z => PyData.eqv (py z) (py d)
def dInG (neg : Bool) (d e : D) (S : Store) : Res D := match val S e with
  | .tup ds => if shD dpt (val S d) = true ∧ ds.all (shD 11) = true then .ok (.bl (if neg then !isIn (val S d) ds else isIn (val S d) ds)) S else .bad
  | .lst ds => if shD dpt (val S d) = true ∧ ds.all (shD 11) = true then .ok (.bl (if neg then !isIn (val S d) ds else isIn (val S d) ds)) S else .bad
  | .fz ds => if shD dpt (val S d) = true ∧ ds.all (shD 11) = true then .ok (.bl (if neg then !isIn (val S d) ds else isIn (val S d) ds)) S else .bad
  | _ => .bad
theorem any_pyL (d : PyData) : ∀ ds : List D, ((pyL ds).any fun z => PyData.eqv z d) = ds.any fun z => PyData.eqv (py z) d
  | [] => rfl
  | x :: ds => by unfold pyL; rw [List.any_cons, List.any_cons, any_pyL d ds]
theorem od_in {K : PySem.W.Frag} {neg : Bool} : OpD K (rInU K neg) (dInG neg) := by
  intro G ρ H S d1 d2 v1 v2 E Q r x1 x2 h
  have key : ∀ ds (b : Bool), py (val S d2) = (if b = true then PyData.list (pyL ds) else .tuple (pyL ds)) → shD dpt (val S d2) = ds.all (shD 11) →
      (Ok K G (Rep K G) ρ H (if shD dpt (val S d1) = true ∧ ds.all (shD 11) = true then .ok (.bl (if neg then !isIn (val S d1) ds else isIn (val S d1) ds)) S else .bad) E Q) → rInU K neg v1 v2 H Q := fun ds b e1 e2 h => by
    by_cases hs : shD dpt (val S d1) = true ∧ ds.all (shD 11) = true
    · rw [if_pos hs] at h
      have hs2 : shD dpt (val S d2) = true := by rw [e2]; exact hs.2
      refine ⟨_, pyL ds, b, rep_val r x1 hs.1, by rw [← e1]; exact rep_val r x2 hs2, shaped_of hs.1, by rw [← e1]; exact shaped_of hs2, ?_⟩
      rw [any_pyL]
      exact h.now r rfl
    · rw [if_neg hs] at h
      exact h.elim
  unfold dInG at h
  revert h
  cases e : val S d2 with
  | tup ds => exact key ds false (by rw [e]; rfl) (by rw [e]; rfl)
  | lst ds => exact key ds true (by rw [e]; rfl) (by rw [e]; rfl)
  | fz ds => exact key ds true (by rw [e]; rfl) (by rw [e]; rfl)
  | _ => exact fun h => h.elim
/-! ### ints -/
def i2 (f : Int → Int → D) (C : Int → Int → Bool) (d e : D) (S : Store) : Res D := match d, e with
  | .int i, .int j => if C i j = true then .ok (f i j) S else .bad
  | _, _ => .bad
def cT : Int → Int → Bool := fun _ _ => true
theorem od_i0 {K : PySem.W.Frag} {g : Int → Int → V} {f : Int → Int → D} (hf : ∀ G ρ H i j, Rep K G ρ H (f i j) (g i j)) : OpD K (rI0 g) (i2 f cT) := by
  intro G ρ H S d1 d2 v1 v2 E Q r x1 x2 h
  cases d1 with
  | int i =>
    cases d2 with
    | int j => exact ⟨i, j, x1, x2, Ok.now (a := f i j) h r (hf _ _ _ _ _)⟩
    | _ => exact h.elim
  | _ => exact h.elim
theorem od_i {K : PySem.W.Frag} {P : Int → Int → Prop} {C : Int → Int → Bool} {g : Int → Int → V} {f : Int → Int → D} (hC : ∀ i j, C i j = true → P i j) (hf : ∀ G ρ H i j, Rep K G ρ H (f i j) (g i j)) : OpD K (rI P g) (i2 f C) := by
  intro G ρ H S d1 d2 v1 v2 E Q r x1 x2 h
  cases d1 with
  | int i =>
    cases d2 with
    | int j =>
      have h : Ok K G (Rep K G) ρ H (if C i j = true then .ok (f i j) S else .bad) E Q := h
      by_cases hc : C i j = true
      · rw [if_pos hc] at h
        exact ⟨i, j, x1, x2, hC i j hc, h.now r (hf _ _ _ _ _)⟩
      · rw [if_neg hc] at h; exact h.elim
    | _ => exact h.elim
  | _ => exact h.elim
def dSub := i2 (fun i j => .int (i - j)) cT
instance (i j : Int) : Decidable (CMul i j) := by unfold CMul; infer_instance
instance (i j : Int) : Decidable (CDiv i j) := by unfold CDiv; infer_instance
instance (i j : Int) : Decidable (CPow i j) := by unfold CPow; infer_instance
def dMulI := i2 (fun i j => .int (i * j)) fun i j => decide (CMul i j)
def dFdiv := i2 (fun i j => .int (i / j)) fun i j => decide (CDiv i j)
def dMod := i2 (fun i j => .int (i % j)) fun i j => decide (0 < j)
def dPow := i2 (fun i j => .int (i ^ j.toNat)) fun i j => decide (CPow i j)
def dShl := i2 (fun i j => .int (i * 2 ^ j.toNat)) fun i j => decide (CPow i j)
def dShr := i2 (fun i j => .int (i / 2 ^ j.toNat)) fun i j => decide (0 ≤ j)
def dAnd := i2 (fun i j => .int (Builtin.bitAnd i j)) cT
def dOr := i2 (fun i j => .int (Builtin.bitOr i j)) cT
def dXor := i2 (fun i j => .int (Builtin.bitXor i j)) cT
def dLe := i2 (fun i j => .bl (decide (i ≤ j))) cT
def dGt := i2 (fun i j => .bl (decide (j < i))) cT
def dGe := i2 (fun i j => .bl (decide (j ≤ i))) cT
def dNeg (d : D) (S : Store) : Res D := match d with
  | .int i => .ok (.int (-i)) S
  | _ => .bad
section
variable {K : PySem.W.Frag}
theorem od_sub : OpD K (rI0 fun i j => .int (i - j)) dSub := od_i0 fun _ _ _ _ _ => rfl
theorem od_mulI : OpD K (rI CMul fun i j => .int (i * j)) dMulI := od_i (fun _ _ h => of_decide_eq_true h) fun _ _ _ _ _ => rfl
theorem od_fdiv : OpD K (rI CDiv fun i j => .int (i / j)) dFdiv := od_i (fun _ _ h => of_decide_eq_true h) fun _ _ _ _ _ => rfl
theorem od_mod : OpD K (rI (fun _ j => 0 < j) fun i j => .int (i % j)) dMod := od_i (fun _ _ h => of_decide_eq_true h) fun _ _ _ _ _ => rfl
theorem od_pow : OpD K (rI CPow fun i j => .int (i ^ j.toNat)) dPow := od_i (fun _ _ h => of_decide_eq_true h) fun _ _ _ _ _ => rfl
theorem od_shl : OpD K (rI CPow fun i j => .int (i * 2 ^ j.toNat)) dShl := od_i (fun _ _ h => of_decide_eq_true h) fun _ _ _ _ _ => rfl
theorem od_shr : OpD K (rI (fun _ j => 0 ≤ j) fun i j => .int (i / 2 ^ j.toNat)) dShr := od_i (fun _ _ h => of_decide_eq_true h) fun _ _ _ _ _ => rfl
theorem od_and : OpD K (rI0 fun i j => .int (Builtin.bitAnd i j)) dAnd := od_i0 fun _ _ _ _ _ => rfl
theorem od_or : OpD K (rI0 fun i j => .int (Builtin.bitOr i j)) dOr := od_i0 fun _ _ _ _ _ => rfl
theorem od_xor : OpD K (rI0 fun i j => .int (Builtin.bitXor i j)) dXor := od_i0 fun _ _ _ _ _ => rfl
theorem od_le : OpD K (rI0 fun i j => .bl (decide (i ≤ j))) dLe := od_i0 fun _ _ _ _ _ => rfl
theorem od_gt : OpD K (rI0 fun i j => .bl (decide (j < i))) dGt := od_i0 fun _ _ _ _ _ => rfl
theorem od_ge : OpD K (rI0 fun i j => .bl (decide (j ≤ i))) dGe := od_i0 fun _ _ _ _ _ => rfl
theorem ud_neg : UnD K (rU fun i => .int (-i)) dNeg := by
  intro G ρ H S d v E Q r x h
  cases d with
  | int i => exact ⟨i, x, h.now r rfl⟩
  | _ => exact h.elim
theorem ipd_add : IpD K (ipI fun i j => i + j) (i2 (fun i j => .int (i + j)) cT) := by
  intro G ρ H S d1 d2 v1 v2 E Q r x1 x2 h
  cases d1 with
  | int i =>
    cases d2 with
    | int j => exact ⟨i, j, x1, x2, Ok.now (a := D.int (i + j)) h r rfl⟩
    | _ => exact h.elim
  | _ => exact h.elim
theorem ipd_sub : IpD K (ipI fun i j => i - j) (i2 (fun i j => .int (i - j)) cT) := by
  intro G ρ H S d1 d2 v1 v2 E Q r x1 x2 h
  cases d1 with
  | int i =>
    cases d2 with
    | int j => exact ⟨i, j, x1, x2, Ok.now (a := D.int (i - j)) h r rfl⟩
    | _ => exact h.elim
  | _ => exact h.elim
end
/-! ### + of ints, tuples, lists, texts -/
theorem OpD.or {K : PySem.W.Frag} {r r' : R2} {f f' : D → D → Store → Res D} (h : OpD K r f) (h' : OpD K r' f') (g : D → D → Store → Res D) (hg : ∀ d e S, g d e S = f d e S ∨ g d e S = f' d e S) : OpD K (fun x y H Q => r x y H Q ∨ r' x y H Q) g := by
  intro G ρ H S d1 d2 v1 v2 E Q hr x1 x2 q
  rcases hg d1 d2 S with e | e
  · rw [e] at q; exact .inl (h G ρ H S d1 d2 v1 v2 E Q hr x1 x2 q)
  · rw [e] at q; exact .inr (h' G ρ H S d1 d2 v1 v2 E Q hr x1 x2 q)
def lstOf (S : Store) : D → Option (List D)
  | .lst ds => some ds
  | .cell n => match S[n]? with
    | some (.lst ds) => some ds
    | _ => none
  | _ => none
def dAddI := i2 (fun i j => .int (i + j)) cT
def dCatT (d e : D) (S : Store) : Res D := match d, e with
  | .tup xs, .tup ys => if xs.length + ys.length ≤ big then .ok (.tup (xs ++ ys)) S else .bad
  | _, _ => .bad
def dCatL (d e : D) (S : Store) : Res D := match lstOf S d, lstOf S e with
  | some xs, some ys => if xs.length + ys.length ≤ big then .ok (.lst (xs ++ ys)) S else .bad
  | _, _ => .bad
def dAdd (d e : D) (S : Store) : Res D := match d, e with
  | .int i, .int j => .ok (.int (i + j)) S
  | .tup xs, .tup ys => if xs.length + ys.length ≤ big then .ok (.tup (xs ++ ys)) S else .bad
  | d, e => dCatL d e S
section
variable {K : PySem.W.Frag} {G : Addr → Prop} {ρ : List Addr} {H : Hp} {S : Store}
theorem rep_lst (r : RelS K G ρ S H) {d : D} {v : V} {ds : List D} (h : Rep K G ρ H d v) (e : lstOf S d = some ds) : ∃ a vs, v = .ref a ∧ H a = some (.lst vs) ∧ RepL K G ρ H ds vs := by
  cases d with
  | lst ds' =>
    cases e
    obtain ⟨a, vs, rfl, h1, h2⟩ := h
    exact ⟨a, vs, rfl, h1.2.2, h2⟩
  | cell n =>
    unfold lstOf at e
    dsimp only at e
    cases eo : S[n]? with
    | none => rw [eo] at e; cases e
    | some o =>
      rw [eo] at e
      cases o with
      | dK kvs => cases e
      | lst ds' =>
        cases e
        obtain ⟨a, rfl, ha⟩ := h
        obtain ⟨vs, h1, h2⟩ := r.ob n _ a eo ha
        exact ⟨a, vs, rfl, h1, h2⟩
  | _ => cases e
end
theorem od_catL {K : PySem.W.Frag} : OpD K rCat dCatL := by
  intro G ρ H S d1 d2 v1 v2 E Q r x1 x2 h
  unfold dCatL at h
  revert h
  cases e1 : lstOf S d1 with
  | none => exact fun h => h.elim
  | some xs =>
    cases e2 : lstOf S d2 with
    | none => exact fun h => h.elim
    | some ys =>
      intro h
      dsimp only at h
      obtain ⟨a, vs, rfl, h1, h2⟩ := rep_lst r x1 e1
      obtain ⟨b, ws, rfl, h3, h4⟩ := rep_lst r x2 e2
      by_cases hl : xs.length + ys.length ≤ big
      · rw [if_pos hl] at h
        refine ⟨a, b, vs, ws, rfl, rfl, h1, h3, by rw [h2.length, h4.length]; exact big_line hl, fun p hp => ?_⟩
        have k2 : Keep G ρ H ρ (upd H p (.lst (vs ++ ws))) := Keep.new hp r.gt
        exact h _ ρ _ (r.new hp) ⟨p, vs ++ ws, rfl, ⟨r.fresh hp, r.ngn hp, upd_same⟩, RepL.keep k2 _ _ (h2.app h4)⟩ k2
      · rw [if_neg hl] at h; exact h.elim
/-- t + u -/
def rCatZ (K : PySem.W.Frag) : R2 := fun x y H Q => ∃ a b xs ys, x = .ref a ∧ y = .ref b ∧ SqT K H a xs ∧ SqT K H b ys ∧ xs.length + ys.length ≤ sizeLine ∧
  (xs = [] → Q (.ref b) H) ∧ (xs ≠ [] → ys = [] → Q (.ref a) H) ∧ (xs ≠ [] → ys ≠ [] → ∀ p (o : Obj), H p = none → o.dict = none → Q (.ref p) (upd H p (.frz o (.tup (xs ++ ys)))))
theorem op_catZ {X : Cx} : OpR X (binaryOp .Add) (rCatZ X.K) := by
  intro pins s σ H x y v u Q I rx ry h
  obtain ⟨a, b, xs, ys, rfl, rfl, ha, hb, hz, q0, q1, q2⟩ := h
  cases rx
  cases ry
  obtain ⟨its, r1, p1, _⟩ := I.tuple ha
  obtain ⟨its2, r2, p2, _⟩ := I.tuple hb
  by_cases hx : xs = []
  · subst hx
    cases r1
    exact cat_tup0 p1 p2 ⟨.ref b, H, I, rfl, q0 rfl⟩
  · refine HT.cat_tup p1 p2 (fun z => hx (r1.nil_iff.mp z)) (fun z => ⟨.ref a, H, I, rfl, q1 hx (r2.nil_iff.mp z)⟩) (fun z => ?_) (by rw [← r1.length, ← r2.length]; exact hz)
    refine ⟨.ref s.heap.objs.size, _, I.laid (t' := s.toks) (o := .frz { cls := .type "tuple", data := .seq (its ++ its2).toArray } (.tup (xs ++ ys))) (fun b ob q => Heap.get?_push_of_some _ q) (Nat.le_refl _) ?_, rfl, q2 hx (fun w => z (r2.nil_iff.mpr w)) _ _ (I.hok.fresh (Nat.le_refl _)) rfl⟩
    exact ⟨Heap.get?_push_size _ rfl, by rw [List.length_append]; exact hz, _, r1.append r2, IsTup.new _ _⟩
theorem od_catT {K : PySem.W.Frag} : OpD K (rCatZ K) dCatT := by
  intro G ρ H S d1 d2 v1 v2 E Q r x1 x2 h
  cases d1 with
  | tup xs =>
    cases d2 with
    | tup ys =>
      obtain ⟨a, vs, rfl, h1, h2⟩ := x1
      obtain ⟨b, ws, rfl, h3, h4⟩ := x2
      have h : Ok K G (Rep K G) ρ H (if xs.length + ys.length ≤ big then .ok (.tup (xs ++ ys)) S else .bad) E Q := h
      by_cases hl : xs.length + ys.length ≤ big
      · rw [if_pos hl] at h
        refine ⟨a, b, vs, ws, rfl, rfl, .inl h1, .inl h3, by rw [h2.length, h4.length]; exact big_line hl, ?_⟩
        refine ⟨fun e => ?_, fun _ e => ?_, fun _ _ p o hp ho => ?_⟩
        · subst e
          have e0 : xs = [] := List.eq_nil_of_length_eq_zero (by rw [← h2.length]; rfl)
          subst e0
          exact h.now r ⟨b, ws, rfl, h3, h4⟩
        · subst e
          have e0 : ys = [] := List.eq_nil_of_length_eq_zero (by rw [← h4.length]; rfl)
          subst e0
          exact h.now r ⟨a, vs, rfl, h1, by rw [List.append_nil]; exact h2⟩
        · have k2 : Keep G ρ H ρ (upd H p (.frz o (.tup (vs ++ ws)))) := Keep.new hp r.gt
          exact h _ ρ _ (r.new hp ho) ⟨p, vs ++ ws, rfl, .inr ⟨o, upd_same⟩, RepL.keep k2 _ _ (h2.app h4)⟩ k2
      · rw [if_neg hl] at h; exact h.elim
    | _ => exact h.elim
  | _ => exact h.elim
theorem od_add {K : PySem.W.Frag} : OpD K (fun x y H Q => (rI0 fun i j => .int (i + j)) x y H Q ∨ (rCatZ K x y H Q ∨ rCat x y H Q)) dAdd :=
  OpD.or (f := dAddI) (f' := fun d e S => match d, e with | .tup xs, .tup ys => dCatT d e S | d, e => dCatL d e S) (od_i0 (f := fun i j => .int (i + j)) (g := fun i j => .int (i + j)) fun _ _ _ _ _ => rfl) (OpD.or od_catT od_catL _ fun d e S => by
    cases d <;> cases e <;> first | exact .inl rfl | exact .inr rfl) _ fun d e S => by
    cases d <;> cases e <;> first | exact .inr rfl | exact .inl rfl
theorem op_add3 {X : Cx} : OpR X (binaryOp .Add) (fun x y H Q => (rI0 fun i j => .int (i + j)) x y H Q ∨ (rCatZ X.K x y H Q ∨ rCat x y H Q)) := op_add.or (op_catZ.or op_cat)
end Rf

/-! ### enumerate of a tuple -/
namespace PySem
open Sem (wp)
open AutoSeq1 (wpAny_loadPart')
theorem meets_enumerate_newT' (l : Addr) (items : Array Value) (n : Nat) (dct : Option Addr) (sl : Array (Option Value)) :
    Meets (Builtin.«enumerate.__new__» ⟨[.type "enumerate", .ref l], []⟩) (fun _ R s => s.heap.get? l = some { cls := .type "tuple", dict := dct, data := .seq items n, slots := sl } ∧
      R (.ok (.ret (.ref (s.heap.push { cls := .type "tuple_iterator", data := .fields #[.ref l, .int 0 0] }).objs.size)))
        { s with heap := (s.heap.push { cls := .type "tuple_iterator", data := .fields #[.ref l, .int 0 0] }).push { cls := .type "enumerate", data := .fields #[.none, .bool false, .ref s.heap.objs.size, rawInt 0, .none, .none] } }) :=
  .of_wp fun prog w A R s h => by
    obtain ⟨hp, g, d, tk, os⟩ := s; obtain ⟨hl, h⟩ := h
    have hsub := sub_enumerate
    have hL : Heap.IsTuple (Shared.heap ⟨hp, g, d, tk, os⟩) l items := ⟨_, hl, rfl, n, rfl⟩
    wp_walk using wpAny_loadPart' hl
    refine wpAny_stack_any fun st => wpAny_pure ?_
    split
    · rename_i c _ _ _ _ _
      cases (c == Value.type "enumerate")
      · wp_walk using wpAny_loadPart' hl, wpAny_pyIter_tuple hL
        exact ⟨_, rfl, h⟩
      · wp_walk using wpAny_loadPart' hl, wpAny_pyIter_tuple hL
        exact ⟨_, rfl, h⟩
    · wp_walk using wpAny_loadPart' hl, wpAny_pyIter_tuple hL
      exact ⟨_, rfl, h⟩
section
variable {prog : Program} {w : World} {A : Around} {E : Value → Shared → Prop} {s : Shared}
theorem call_enumerate_tuple' {l : Addr} {items : Array Value} {Q : Value → Shared → Prop} (hL : s.heap.IsTuple l items)
    (h : ∀ h', IsEnum h' (s.heap.objs.size + 1) s.heap.objs.size 0 .none → h'.IsTupleIter s.heap.objs.size l 0 → h'.objs.size = s.heap.objs.size + 2 →
      (∀ b o, s.heap.get? b = some o → h'.get? b = some o) → Q (.ref (s.heap.objs.size + 1)) { s with heap := h' }) :
    wpAny (model prog w) A (call (.type "enumerate") [.ref l]) Q E s := by
  obtain ⟨⟨c, dct, dt, sl⟩, hl, hc, n, hd⟩ := hL
  replace hc : c = .type "tuple" := hc
  replace hd : dt = .seq items n := hd
  subst hc hd
  refine callType_new F.called_enumerate (by decide) (F.typeCall_enumerate_1 _) (F.newCall_enumerate_1 _) (fun obj => F.args_object_init_2 obj _) F.entry_enumerate_new
    (meets_enumerate_newT' l items n dct sl) ⟨hl, ?_⟩
  have hz : (s.heap.push { cls := .type "tuple_iterator", data := .fields #[.ref l, .int 0 0] }).objs.size = s.heap.objs.size + 1 := Heap.size_push ..
  show _ ∧ _
  rw [hz]
  have he : IsEnum ((s.heap.push { cls := .type "tuple_iterator", data := .fields #[.ref l, .int 0 0] }).push
      { cls := .type "enumerate", data := .fields #[.none, .bool false, .ref s.heap.objs.size, rawInt 0, .none, .none] }) (s.heap.objs.size + 1) s.heap.objs.size 0 .none := by
    have := Heap.get?_push_size (s.heap.push { cls := .type "tuple_iterator", data := .fields #[.ref l, .int 0 0] })
      (o := { cls := .type "enumerate", data := .fields #[.none, .bool false, .ref s.heap.objs.size, rawInt 0, .none, .none] }) rfl
    rw [hz] at this; exact this
  refine ⟨⟨_, he, rfl⟩, h _ he ⟨_, Heap.get?_push_of_some _ (Heap.get?_push_size _ rfl), rfl, rfl⟩ (by rw [Heap.size_push, hz]) fun b o x => Heap.get?_push_of_some _ (Heap.get?_push_of_some _ x)⟩
end
end PySem
namespace Rf
open PySem PySem.Spec PyProof.Rows L2
def IteT (K : PySem.W.Frag) (a : Addr) : It :=
  ⟨fun i H => ∃ (xs : List V) (x : V), SqT K H a xs ∧ xs[i]? = some x, fun i H v H' => ∃ (T : Addr) (x : V) (o : Obj), v = .ref T ∧ H T = none ∧ H' = upd H T (.frz o (.tup [.int (i : Nat), x])) ∧ o.dict = none ∧ ∀ xs, SqT K H a xs → xs[i]? = some x, fun i H => ∃ xs : List V, SqT K H a xs ∧ xs.length ≤ i⟩
theorem turn_enumT {P : Program} {w : World} {K : PySem.W.Frag} {elts : List Expr} {kk : Nat} {tpos : Pos} (a e it : Addr) :
    Turn P w K (.Tuple elts kk tpos) (IteT K a) [e, it] e (fun i h => (∃ old, IsEnum h e it ((i : Nat) : Int) old) ∧ h.IsTupleIter it a i ∧ e ≠ it ∧ a ≠ it ∧ a ≠ e) where
  mem := by simp
  obj := fun i h st b hb => by
    obtain ⟨⟨old, he⟩, ⟨o, ho, hc, hd⟩, _⟩ := st
    have e' : b = e ∨ b = it := by simpa using hb
    rcases e' with z | z
    · rw [z]; exact ⟨_, he, fun v q => nomatch q⟩
    · rw [z]; exact ⟨o, ho, fun v q => by rw [hd] at q; cases q⟩
  keep := fun i h h' st k => let ⟨⟨old, he⟩, hi, hne⟩ := st; ⟨⟨old, k e (by simp) _ he⟩, hi.at fun o q => k it (by simp) o q, hne⟩
  item := by
    intro X hP hw hK hc i pins s σ H E I hf st hg
    subst hP hw hK
    obtain ⟨⟨old, he⟩, hit, hne, hat, hae⟩ := st
    obtain ⟨xs, x, hq, hx⟩ := hg
    obtain ⟨its, rv, p, hz⟩ := I.tuple hq
    obtain ⟨u, hu, ru⟩ := rv.get hx
    have hel : e < s.heap.objs.size := Heap.lt_size he
    have hil : it < s.heap.objs.size := by obtain ⟨_, q, _⟩ := hit; exact Heap.lt_size q
    have hlt : i < its.toArray.size := by rw [List.size_toArray]; exact (List.getElem?_eq_some_iff.mp hu).1
    refine wpAny_pyNext_enum_itemD (Draws.tuple (prog := X.prog) (w := X.w) (A := X.A.in1) (I.ok.hd hc) it a hat its.toArray) he ⟨hit, p⟩ hlt hne (by simp [hne, Ne.symm hae]) fun y h' tk hy ho hit' hT hsz hk => ?_
    have eu : y = u := by
      have hy : its[i]? = some y := by simpa using hy
      rw [hu] at hy
      exact (Option.some.inj hy).symm
    subst eu
    refine ⟨_, rfl, wpAny_letOwnedTupleGo_enum (s := { s with heap := h', toks := tk + 1 }) ho fun h'' he' sb => ?_⟩
    have hT2 : h''.get? s.heap.objs.size = some { cls := .type "tuple", data := .seq #[.int i tk, y] } := (sb.2 _ (Nat.ne_of_gt hel)).trans hT
    have new : ObjOk X.prog X.w (upd H s.heap.objs.size (.frz { cls := .type "tuple", data := .seq #[.int i tk, y] } (.tup [.int (i : Nat), x]))) h'' s.heap.objs.size (.frz { cls := .type "tuple", data := .seq #[.int i tk, y] } (.tup [.int (i : Nat), x])) :=
      ⟨hT2, by show 2 ≤ sizeLine; decide, [.int i tk, y], .cons ⟨_, rfl⟩ (.cons ru .nil), ⟨_, hT2, rfl, _, rfl⟩⟩
    have I1 : Inv X pins σ (upd H s.heap.objs.size (.frz { cls := .type "tuple", data := .seq #[.int i tk, y] } (.tup [.int (i : Nat), x]))) { s with heap := h'', toks := tk + 1 } :=
      I.turnedNew (ch := [e, it]) (fun b ob hb q => (sb.2 b (fun z => hb (by simp [z]))).trans (hk b ob (fun z => hb (by simp [z])) (fun z => hb (by simp [z])) q)) hf (Nat.le_refl _) new
    refine ⟨.ref s.heap.objs.size, _, I1, rfl, ⟨_, x, _, rfl, I.hok.fresh (Nat.le_refl _), rfl, rfl, fun ys hy => by rw [I.tuple_inj hy hq]; exact hx⟩, ⟨⟨y, ?_⟩, hit'.1.at fun o q => (sb.2 it (Ne.symm hne)).trans q, hne, hat, hae⟩, fun b hb => ?_⟩
    · have e1 : ((i + 1 : Nat) : Int) = (i : Int) + 1 := by omega
      rw [e1]; exact he'
    · have hb' : b < s.heap.objs.size := by
        have e' : b = e ∨ b = it := by simpa using hb
        rcases e' with z | z
        · rw [z]; exact hel
        · rw [z]; exact hil
      rw [upd_ne (Nat.ne_of_lt hb')]
      exact (hf b hb).1
  done := by
    intro X hP hw hK hc i pins s σ H E I hf st hg
    subst hP hw hK
    obtain ⟨⟨old, he⟩, hit, hne, hat, hae⟩ := st
    obtain ⟨xs, hq, hx⟩ := hg
    obtain ⟨its, rv, p, hz⟩ := I.tuple hq
    obtain ⟨f0, f1, f2, f3, f4, f5⟩ := hf it (by simp)
    have hl := rv.length
    have hT : s.TypeIs (.ref e) "enumerate" := ⟨_, he, rfl⟩
    unfold pyNext
    refine wpAny_bind (wpAny_attempt (wpAny_callSpecial?_slot (name := Str.ofString "__next__") hT F.slot_enumerate_next
      (wpAny_call_entry F.slot_enumerate_next hT F.entry_enumerate_next ?_ (F.args_enumerate_next_1 _))))
    show wpAny _ _ (field (.ref e) 2 >>= _) _ _ _
    refine wpAny_bind (wpAny_field he rfl (x := .ref it) rfl ?_)
    refine wpAny_bind (wpAny_nextOf_tuple_end (I.ok.hd hc) hit p (by simp; omega) fun h' x he' hx' => ?_)
    obtain ⟨o, ho, hc'⟩ := hx'
    refine wpAny_bind (wpAny_isInstance (T := "StopIteration") (b := true) ⟨o, ho, hc'⟩ isSubtype_stop ?_)
    exact wpAny_pure ⟨rfl, I.turned (t' := s.toks) (fun b o hb q => he' b o hb q) f0 f1 f3 f4 f5⟩
  self := fun A i s Q E st h => let ⟨⟨_, he⟩, _⟩ := st; wpAny_pyIter_enum he h
def iEnumT (K : PySem.W.Frag) (ta : TA) : TI := fun σ H R => ta σ H fun vs H1 => ∃ a xs, vs = [.ref a] ∧ SqT K H1 a xs ∧ R (IteT K a) H1
/-- the list at a as it stands at each turn, each item in a new pair -/
def IteL (K : PySem.W.Frag) (a : Addr) : It :=
  ⟨fun i H => ∃ (xs : List V) (x : V), SqL K H a xs ∧ xs[i]? = some x, fun i H v H' => ∃ (T : Addr) (x : V) (o : Obj), v = .ref T ∧ H T = none ∧ H' = upd H T (.frz o (.tup [.int (i : Nat), x])) ∧ o.dict = none ∧ ∀ xs, SqL K H a xs → xs[i]? = some x, fun i H => ∃ xs : List V, SqL K H a xs ∧ xs.length ≤ i⟩
theorem turn_enumL {P : Program} {w : World} {K : PySem.W.Frag} {elts : List Expr} {kk : Nat} {tpos : Pos} (a e it : Addr) :
    Turn P w K (.Tuple elts kk tpos) (IteL K a) [e, it] e (fun i h => (∃ old, IsEnum h e it ((i : Nat) : Int) old) ∧ h.IsListIter it a i ∧ e ≠ it) where
  mem := by simp
  obj := fun i h st b hb => by
    obtain ⟨⟨old, he⟩, ⟨o, ho, hc, hd⟩, _⟩ := st
    have e' : b = e ∨ b = it := by simpa using hb
    rcases e' with z | z
    · rw [z]; exact ⟨_, he, fun v q => nomatch q⟩
    · rw [z]; exact ⟨o, ho, fun v q => by rw [hd] at q; cases q⟩
  keep := fun i h h' st k => let ⟨⟨old, he⟩, hi, hne⟩ := st; ⟨⟨old, k e (by simp) _ he⟩, hi.at fun o q => k it (by simp) o q, hne⟩
  item := by
    intro X hP hw hK hc i pins s σ H E I hf st hg
    subst hP hw hK
    obtain ⟨⟨old, he⟩, hit, hne⟩ := st
    obtain ⟨xs, x, hq, hx⟩ := hg
    obtain ⟨its, rv, p, hz⟩ := I.list hq
    obtain ⟨u, hu, ru⟩ := rv.get hx
    have hel : e < s.heap.objs.size := Heap.lt_size he
    have hil : it < s.heap.objs.size := by obtain ⟨_, q, _⟩ := hit; exact Heap.lt_size q
    refine wpAny_pyNext_enum_item he hit p.isList (x := u) (by simpa using hu) hne fun h' ho hit' hT hsz hk => ?_
    refine ⟨_, rfl, wpAny_letOwnedTupleGo_enum (s := { s with heap := h', toks := s.toks + 1 }) ho fun h'' he' sb => ?_⟩
    have hT2 : h''.get? s.heap.objs.size = some { cls := .type "tuple", data := .seq #[.int i s.toks, u] } := (sb.2 _ (Nat.ne_of_gt hel)).trans hT
    have new : ObjOk X.prog X.w (upd H s.heap.objs.size (.frz { cls := .type "tuple", data := .seq #[.int i s.toks, u] } (.tup [.int (i : Nat), x]))) h'' s.heap.objs.size (.frz { cls := .type "tuple", data := .seq #[.int i s.toks, u] } (.tup [.int (i : Nat), x])) :=
      ⟨hT2, by show 2 ≤ sizeLine; decide, [.int i s.toks, u], .cons ⟨_, rfl⟩ (.cons ru .nil), ⟨_, hT2, rfl, _, rfl⟩⟩
    have I1 : Inv X pins σ (upd H s.heap.objs.size (.frz { cls := .type "tuple", data := .seq #[.int i s.toks, u] } (.tup [.int (i : Nat), x]))) { s with heap := h'', toks := s.toks + 1 } :=
      I.turnedNew (ch := [e, it]) (fun b ob hb q => (sb.2 b (fun z => hb (by simp [z]))).trans (hk b ob (fun z => hb (by simp [z])) (fun z => hb (by simp [z])) q)) hf (Nat.le_refl _) new
    refine ⟨.ref s.heap.objs.size, _, I1, rfl, ⟨_, x, _, rfl, I.hok.fresh (Nat.le_refl _), rfl, rfl, fun ys hy => by rw [I.list_inj hy hq]; exact hx⟩, ⟨⟨u, ?_⟩, hit'.at fun o q => (sb.2 it (Ne.symm hne)).trans q, hne⟩, fun b hb => ?_⟩
    · have e1 : ((i + 1 : Nat) : Int) = (i : Int) + 1 := by omega
      rw [e1]; exact he'
    · have hb' : b < s.heap.objs.size := by
        have e' : b = e ∨ b = it := by simpa using hb
        rcases e' with z | z
        · rw [z]; exact hel
        · rw [z]; exact hil
      rw [upd_ne (Nat.ne_of_lt hb')]
      exact (hf b hb).1
  done := by
    intro X hP hw hK hc i pins s σ H E I hf st hg
    subst hP hw hK
    obtain ⟨⟨old, he⟩, hit, hne⟩ := st
    obtain ⟨xs, hq, hx⟩ := hg
    obtain ⟨its, rv, p, hz⟩ := I.list hq
    obtain ⟨f0, f1, f2, f3, f4, f5⟩ := hf it (by simp)
    have hl := rv.length
    exact wpAny_pyNext_enum_end (I.ok.hd hc) he hit p.isList (by simp; omega) fun h' eb => ⟨rfl, I.turned (t' := s.toks) (fun b o hb q => eb b o hb q) f0 f1 f3 f4 f5⟩
  self := fun A i s Q E st h => let ⟨⟨_, he⟩, _⟩ := st; wpAny_pyIter_enum he h
def iEnumL (K : PySem.W.Frag) (ta : TA) : TI := fun σ H R => ta σ H fun vs H1 => ∃ a xs, vs = [.ref a] ∧ SqL K H1 a xs ∧ R (IteL K a) H1
theorem pi_enumL {X : Cx} {e : Expr} {ta : TA} {p pos tpos : Pos} {elts : List Expr} {kk : Nat} (hg : Gl X "enumerate") (hm : X.mg "enumerate" = none) (ha : PA X [e] ta) (hs : starEach [e] X.env = [(false, eval e X.env)] := by rfl) :
    PI X (.Tuple elts kk tpos) (.Call (.Name "enumerate" p) [e] [] pos) (iEnumL X.K ta) := by
  refine ⟨fun pins s σ H R I h => ?_⟩
  refine Call_ (ld_blt I hg hm boot_enumerate (PyProof.Rows.callWith_type1 (thn (ha.run pos pins s σ H _ I h) fun us s1 ⟨vs, H1, I1, r1, q1⟩ => ?_) hs rfl))
  obtain ⟨a, xs, ex, hq, q⟩ := q1
  subst ex
  cases r1 with
  | cons r rr =>
    cases rr
    cases r
    obtain ⟨its, rv, p', hz⟩ := I1.list hq
    refine call_enumerate_list p'.isList fun h' he hit hsz hk => wpAny_pyIter_enum he ?_
    have I2 : Inv X pins σ H1 { s1 with heap := h' } := I1.kept (t' := s1.toks) hk
    refine ⟨s1.heap.objs.size + 1, [s1.heap.objs.size + 1, s1.heap.objs.size], _, _, H1, rfl, I2, turn_enumL a (s1.heap.objs.size + 1) s1.heap.objs.size, ⟨⟨.none, he⟩, hit, Nat.succ_ne_self _⟩, fun b hb => ?_, q⟩
    have e' : b = s1.heap.objs.size + 1 ∨ b = s1.heap.objs.size := by simpa using hb
    have hle : s1.heap.objs.size ≤ b := by
      rcases e' with z | z
      · rw [z]; exact Nat.le_add_right _ _
      · rw [z]; exact Nat.le_refl _
    exact I1.fpOk hle (I1.hok.fresh hle)
theorem pi_enumT {X : Cx} {e : Expr} {ta : TA} {p pos tpos : Pos} {elts : List Expr} {kk : Nat} (hg : Gl X "enumerate") (hm : X.mg "enumerate" = none) (ha : PA X [e] ta) (hs : starEach [e] X.env = [(false, eval e X.env)] := by rfl) :
    PI X (.Tuple elts kk tpos) (.Call (.Name "enumerate" p) [e] [] pos) (iEnumT X.K ta) := by
  refine ⟨fun pins s σ H R I h => ?_⟩
  refine Call_ (ld_blt I hg hm boot_enumerate (PyProof.Rows.callWith_type1 (thn (ha.run pos pins s σ H _ I h) fun us s1 ⟨vs, H1, I1, r1, q1⟩ => ?_) hs rfl))
  obtain ⟨a, xs, ex, hq, q⟩ := q1
  subst ex
  cases r1 with
  | cons r rr =>
    cases rr
    cases r
    obtain ⟨its, rv, p', hz⟩ := I1.tuple hq
    have hal : a < s1.heap.objs.size := by obtain ⟨o, ho, _⟩ := p'; exact Heap.lt_size ho
    refine call_enumerate_tuple' p' fun h' he hit hsz hk => wpAny_pyIter_enum he ?_
    have I2 : Inv X pins σ H1 { s1 with heap := h' } := I1.kept (t' := s1.toks) hk
    refine ⟨s1.heap.objs.size + 1, [s1.heap.objs.size + 1, s1.heap.objs.size], _, _, H1, rfl, I2, turn_enumT a (s1.heap.objs.size + 1) s1.heap.objs.size, ⟨⟨.none, he⟩, hit, Nat.succ_ne_self _, Nat.ne_of_lt hal, Nat.ne_of_lt (Nat.lt_succ_of_lt hal)⟩, fun b hb => ?_, q⟩
    have e' : b = s1.heap.objs.size + 1 ∨ b = s1.heap.objs.size := by simpa using hb
    have hle : s1.heap.objs.size ≤ b := by
      rcases e' with z | z
      · rw [z]; exact Nat.le_add_right _ _
      · rw [z]; exact Nat.le_refl _
    exact I1.fpOk hle (I1.hok.fresh hle)
end Rf

namespace Rf
open PySem PySem.Spec PyProof.Rows L2
/-! ### sequences that are read -/
/-- the items; the cell they stand in; whether it is a tuple -/
def seqOf (S : Store) : D → Option (List D)
  | .tup ds => some ds
  | .lst ds => some ds
  | .fz ds => some ds
  | .cell n => match S[n]? with
    | some (.lst ds) => some ds
    | _ => none
  | _ => none
def isTup : D → Bool
  | .tup _ => true
  | _ => false
section
variable {K : PySem.W.Frag} {G : Addr → Prop} {ρ : List Addr} {H : Hp} {S : Store}
theorem rep_seq (r : RelS K G ρ S H) {d : D} {v : V} {ds : List D} (h : Rep K G ρ H d v) (e : seqOf S d = some ds) : ∃ a vs, v = .ref a ∧ (if isTup d = true then SqT K H a vs else SqL K H a vs) ∧ RepL K G ρ H ds vs := by
  cases d with
  | tup ds' =>
    cases e
    obtain ⟨a, vs, rfl, h1, h2⟩ := h
    exact ⟨a, vs, rfl, .inl h1, h2⟩
  | lst ds' =>
    cases e
    obtain ⟨a, vs, rfl, h1, h2⟩ := h
    exact ⟨a, vs, rfl, h1.sq, h2⟩
  | fz ds' =>
    cases e
    obtain ⟨a, vs, rfl, h1, h2⟩ := h
    exact ⟨a, vs, rfl, h1.sq, h2⟩
  | cell n =>
    unfold seqOf at e
    dsimp only at e
    cases eo : S[n]? with
    | none => rw [eo] at e; cases e
    | some o =>
      rw [eo] at e
      cases o with
      | dK kvs => cases e
      | lst ds' =>
        cases e
        obtain ⟨a, rfl, ha⟩ := h
        obtain ⟨vs, h1, h2⟩ := r.ob n _ a eo ha
        exact ⟨a, vs, rfl, .of h1, h2⟩
  | _ => cases e
end
/-! ### subscripts, slices -/
def dIx (d i : D) (S : Store) : Res D := match seqOf S d, i with
  | some ds, .int k => (match atI ds k with
    | some x => .ok x S
    | none => .bad)
  | _, _ => .bad
theorem atI_rep {K : PySem.W.Frag} {G : Addr → Prop} {ρ : List Addr} {H : Hp} {ds : List D} {vs : List V} {k : Int} {x : D} (h : RepL K G ρ H ds vs) (e : atI ds k = some x) : ∃ v, atI vs k = some v ∧ Rep K G ρ H x v := by
  unfold atI at e ⊢
  rw [h.length]
  cases ej : ixN ds.length k with
  | none => rw [ej] at e; cases e
  | some j =>
    rw [ej] at e
    have e : ds[j]? = some x := e
    obtain ⟨v, h1, h2⟩ := h.get e
    exact ⟨v, h1, h2⟩
theorem od_ix {K : PySem.W.Frag} : OpD K (rIx K) dIx := by
  intro G ρ H S d1 d2 v1 v2 E Q r x1 x2 h
  unfold dIx at h
  revert h
  cases e1 : seqOf S d1 with
  | none => exact fun h => h.elim
  | some ds =>
    cases d2 with
    | int k =>
      dsimp only
      cases e2 : atI ds k with
      | none => exact fun h => h.elim
      | some x =>
        intro h
        obtain ⟨a, vs, rfl, h1, h2⟩ := rep_seq r x1 e1
        obtain ⟨v, h3, h4⟩ := atI_rep h2 e2
        by_cases ht : isTup d1 = true
        · rw [if_pos ht] at h1
          exact .inr (.inl ⟨a, vs, k, v, rfl, x2, h1, h3, h.now r h4⟩)
        · rw [if_neg ht] at h1
          exact .inl ⟨a, vs, k, v, rfl, x2, h1, h3, h.now r h4⟩
    | _ => exact fun h => h.elim
def cutD (ds : List D) (lo hi : Option Int) : List D := (ds.drop (HT.sIx ds.length 0 lo)).take (HT.sIx ds.length ds.length hi - HT.sIx ds.length 0 lo)
def dSl (d : D) (lo hi : Option Int) (S : Store) : Res D := match d with
  | .tup ds => .ok (.tup (cutD ds lo hi)) S
  | d => match seqOf S d with
    | some ds => .ok (.lst (cutD ds lo hi)) S
    | none => .bad
def SlD (K : PySem.W.Frag) (r : V → Option Int → Option Int → Hp → VK → Prop) (f : D → Option Int → Option Int → Store → Res D) : Prop :=
  ∀ G ρ H S d v lo hi E Q, RelS K G ρ S H → Rep K G ρ H d v → Ok K G (Rep K G) ρ H (f d lo hi S) E Q → r v lo hi H Q
theorem cut_rep {K : PySem.W.Frag} {G : Addr → Prop} {ρ : List Addr} {H : Hp} {ds : List D} {vs : List V} {lo hi : Option Int} (h : RepL K G ρ H ds vs) : RepL K G ρ H (cutD ds lo hi) (cutV vs lo hi) := by
  unfold cutD cutV
  rw [h.length]
  exact (h.drop _).take _
/-- t[lo:hi]: the whole of it is t itself -/
def rSlZ (K : PySem.W.Frag) : V → Option Int → Option Int → Hp → VK → Prop := fun x lo hi H Q => ∃ a xs, x = .ref a ∧ SqT K H a xs ∧
  (HT.sIx xs.length 0 lo = 0 ∧ HT.sIx xs.length xs.length hi = xs.length → Q (.ref a) H) ∧ (¬ (HT.sIx xs.length 0 lo = 0 ∧ HT.sIx xs.length xs.length hi = xs.length) → ∀ p (o : Obj), H p = none → o.dict = none → Q (.ref p) (upd H p (.frz o (.tup (cutV xs lo hi)))))
theorem sl_tupZ {X : Cx} : SlR X (rSlZ X.K) := by
  intro pins s σ H x v vl vu lo hi sl Q I rx hs pl pu h
  obtain ⟨a, xs, rfl, hx, q1, q2⟩ := h
  cases rx
  obtain ⟨its, r, ht, hz⟩ := I.tuple hx
  have hlen : its.toArray.size = xs.length := by rw [List.size_toArray]; exact r.length.symm
  refine ⟨"tuple", _, PyProof.Rows.slot_tuple_getitem.lookup, ht.typeIs, ?_⟩
  by_cases hw : HT.sIx xs.length 0 lo = 0 ∧ HT.sIx xs.length xs.length hi = xs.length
  · exact getItem_tuple_whole ht hs pl pu (by rw [hlen]; exact hw) ⟨.ref a, H, I, rfl, q1 hw⟩
  · refine HT.getItem_tuple_cut ht hs pl pu (by rw [hlen]; exact hw) ?_ (by rw [hlen]; exact hz)
    rw [hlen]
    refine ⟨.ref s.heap.objs.size, _, I.laid (t' := s.toks) (o := .frz { cls := .type "tuple", data := .seq ((its.toArray.toList.drop (HT.sIx xs.length 0 lo)).take (HT.sIx xs.length xs.length hi - HT.sIx xs.length 0 lo)).toArray } (.tup (cutV xs lo hi))) (fun b ob q => Heap.get?_push_of_some _ q) (Nat.le_refl _) ?_, rfl, q2 hw _ _ (I.hok.fresh (Nat.le_refl _)) rfl⟩
    exact ⟨Heap.get?_push_size _ rfl, Nat.le_trans (cutV_length xs lo hi) hz, _, (r.drop (HT.sIx xs.length 0 lo)).take (HT.sIx xs.length xs.length hi - HT.sIx xs.length 0 lo), IsTup.new _ _⟩
theorem sld_any {K : PySem.W.Frag} : SlD K (fun x lo hi H Q => rSlZ K x lo hi H Q ∨ rSlL K x lo hi H Q) dSl := by
  intro G ρ H S d v lo hi E Q r x h
  have lst : isTup d = false → ∀ ds, seqOf S d = some ds → Ok K G (Rep K G) ρ H (.ok (.lst (cutD ds lo hi)) S) E Q → rSlL K v lo hi H Q := fun ht ds e h => by
    obtain ⟨a, vs, rfl, h1, h2⟩ := rep_seq r x e
    rw [if_neg (by rw [ht]; decide)] at h1
    refine ⟨a, vs, rfl, h1, fun p hp => ?_⟩
    have k2 : Keep G ρ H ρ (upd H p (.lst (cutV vs lo hi))) := Keep.new hp r.gt
    exact h _ ρ _ (r.new hp) ⟨p, _, rfl, ⟨r.fresh hp, r.ngn hp, upd_same⟩, RepL.keep k2 _ _ (cut_rep h2)⟩ k2
  cases d with
  | tup ds =>
    obtain ⟨a, vs, rfl, h1, h2⟩ := x
    refine .inl ⟨a, vs, rfl, .inl h1, fun hw => ?_, fun hw p o hp ho => ?_⟩
    · refine Ok.now (a := D.tup (cutD ds lo hi)) h r ⟨a, vs, rfl, h1, ?_⟩
      have e : cutV vs lo hi = vs := by
        unfold cutV
        rw [hw.1, hw.2]
        simp
      have := cut_rep (lo := lo) (hi := hi) h2
      rw [e] at this
      exact this
    · have k2 : Keep G ρ H ρ (upd H p (.frz o (.tup (cutV vs lo hi)))) := Keep.new hp r.gt
      exact h (.ref p) ρ _ (r.new hp ho) ⟨p, _, rfl, .inr ⟨o, upd_same⟩, RepL.keep k2 _ _ (cut_rep h2)⟩ k2
  | lst ds => exact .inr (lst rfl ds rfl h)
  | fz ds => exact .inr (lst rfl ds rfl h)
  | cell n =>
    have h : Ok K G (Rep K G) ρ H (match seqOf S (.cell n) with | some ds => .ok (.lst (cutD ds lo hi)) S | none => .bad) E Q := h
    cases e : seqOf S (.cell n) with
    | none => rw [e] at h; exact h.elim
    | some ds => rw [e] at h; exact .inr (lst rfl ds e h)
  | _ => exact h.elim
section
variable {X : Cx} {e a b : Expr} {lo hi : Option Expr} {pos p2 : Pos} {cA : Nat → Addr} {W : WX}
theorem je_ix {ma mb : M D} (ha : PE X a (tE X.K cA W ma)) (hb : PE X b (tE X.K cA W mb)) (hs : PlainIx b := by exact fun _ _ => rfl) : PE X (.Subscript a b pos) (tE X.K cA W (e2 dIx ma mb)) :=
  pe_imp (pe_ix ix_seq ha hb hs) (op_read od_ix)
theorem po_imp {o : Option Expr} {t t' : TO} (h : PO X o t) (i : ∀ σ H Q, t' σ H Q → t σ H Q) : PO X o t' := ⟨fun pins s σ H Q I hw => h.run pins s σ H Q I (i σ H Q hw)⟩
def tOo (K : PySem.W.Frag) (cA : Nat → Addr) (W : WX) (m : M (Option Int)) : TO := fun σ H Q => ∃ G ρ env S, RelE K G ρ H env σ ∧ RelS K G ρ S H ∧ Ok K G (fun _ _ (a b : Option Int) => b = a) ρ H (m env S) (WE' cA W σ) Q
def oNone : M (Option Int) := fun _ S => .ok none S
def oSome (m : M D) : M (Option Int) := fun env S => (m env S).bind fun d S1 => match d with
  | .int i => .ok (some i) S1
  | _ => .bad
theorem jo_none : PO X none (tOo X.K cA W oNone) := po_imp po_none fun _ _ _ ⟨_, _, _, _, _, hS, h⟩ => h.now hS rfl
theorem jo_some {m : M D} (h : PE X e (tE X.K cA W m)) : PO X (some e) (tOo X.K cA W (oSome m)) := by
  refine po_imp (po_some h) ?_
  rintro σ H Q ⟨G, ρ, env, S, hE, hS, h⟩
  refine ⟨G, ρ, env, S, hE, hS, Ok.bind h fun x S1 v ρ1 H1 r1 x1 k1 h1 => ?_⟩
  cases x with
  | int i => exact ⟨i, x1, h1.now r1 rfl⟩
  | _ => exact h1.elim
def eSl (f : D → Option Int → Option Int → Store → Res D) (ma : M D) (ml mh : M (Option Int)) : M D := fun env S => (ma env S).bind fun x S1 => (ml env S1).bind fun l S2 => (mh env S2).bind fun u S3 => f x l u S3
theorem je_sl {ma : M D} {ml mh : M (Option Int)} (ha : PE X a (tE X.K cA W ma)) (hl : PO X lo (tOo X.K cA W ml)) (hh : PO X hi (tOo X.K cA W mh)) : PE X (.Subscript a (.Slice lo hi none p2) pos) (tE X.K cA W (eSl dSl ma ml mh)) := by
  refine pe_imp (pe_slice (sl_tupZ.or sl_list) ha hl hh) ?_
  rintro σ H Q ⟨G, ρ, env, S, hE, hS, h⟩
  refine ⟨G, ρ, env, S, hE, hS, Ok.bind h fun x S1 v ρ1 H1 r1 x1 k1 h1 => ?_⟩
  refine ⟨G, ρ1, env, S1, hE.keep k1, r1, Ok.bind h1 fun l S2 l' ρ2 H2 r2 x2 k2 h2 => ?_⟩
  refine ⟨G, ρ2, env, S2, (hE.keep k1).keep k2, r2, Ok.bind h2 fun u S3 u' ρ3 H3 r3 x3 k3 h3 => ?_⟩
  cases (show l' = l from x2)
  cases (show u' = u from x3)
  exact sld_any G ρ3 H3 S3 x v l u _ Q r3 (Rep.keep (k2.trans k3) _ _ x1) h3
end
/-! ### what a loop walks -/
def fIt (S : Store) : D → Option IT
  | .tup ds => some ⟨ds, []⟩
  | .lst ds => some ⟨ds, []⟩
  | .fz ds => some ⟨ds, []⟩
  | .cell n => match S[n]? with
    | some (.lst ds) => some ⟨ds, [(n, ds)]⟩
    | _ => none
  | _ => none
def iSeq (m : M D) : M IT := fun env S => (m env S).bind fun d S1 => match fIt S1 d with
  | some t => .ok t S1
  | none => .bad
section
variable {K : PySem.W.Frag} {G : Addr → Prop} {ρ : List Addr} {H : Hp} {S : Store}
/-- how a sequence stands at every later turn -/
structure SeqT (K : PySem.W.Frag) (G : Addr → Prop) (ρ : List Addr) (H : Hp) (t : IT) (a : Addr) (b : Bool) : Prop where
  st : ∀ G1 ρ1 S1 H1, Keep2 G ρ H G1 ρ1 H1 → RelS K G1 ρ1 S1 H1 → t.chk S1 → ∃ vs, (if b = true then SqT K H1 a vs else SqL K H1 a vs) ∧ RepL K G1 ρ1 H1 t.ds vs
theorem seq_at (r : RelS K G ρ S H) {d : D} {v : V} {t : IT} (h : Rep K G ρ H d v) (e : fIt S d = some t) : ∃ a, v = .ref a ∧ SeqT K G ρ H t a (isTup d) ∧ t.chk S := by
  cases d with
  | tup ds =>
    cases e
    obtain ⟨a, vs, rfl, h1, h2⟩ := h
    exact ⟨a, rfl, ⟨fun G1 ρ1 S1 H1 k r1 c => ⟨vs, .inl (k.tup a vs h1), RepL.keep2 k ds vs h2⟩⟩, fun p hp => nomatch hp⟩
  | lst ds =>
    cases e
    obtain ⟨a, vs, rfl, h1, h2⟩ := h
    exact ⟨a, rfl, ⟨fun G1 ρ1 S1 H1 k r1 c => ⟨vs, (k.frL h1).sq, RepL.keep2 k ds vs h2⟩⟩, fun p hp => nomatch hp⟩
  | fz ds =>
    cases e
    obtain ⟨a, vs, rfl, h1, h2⟩ := h
    exact ⟨a, rfl, ⟨fun G1 ρ1 S1 H1 k r1 c => ⟨vs, (k.fzL h1).sq, RepL.keep2 k ds vs h2⟩⟩, fun p hp => nomatch hp⟩
  | cell n =>
    unfold fIt at e
    dsimp only at e
    cases eo : S[n]? with
    | none => rw [eo] at e; cases e
    | some o =>
      rw [eo] at e
      cases o with
      | dK kvs => cases e
      | lst ds =>
        cases e
        obtain ⟨a, rfl, ha⟩ := h
        refine ⟨a, rfl, ⟨fun G1 ρ1 S1 H1 k r1 c => ?_⟩, fun p hp => ?_⟩
        · have c1 : S1[n]? = some (.lst ds) := c (n, ds) List.mem_cons_self
          obtain ⟨vs, h1, h2⟩ := r1.ob n _ a c1 (k.get ha)
          exact ⟨vs, .of h1, h2⟩
        · have : p = (n, ds) := by simpa using hp
          subst this
          exact eo
  | _ => cases e
end
section
variable {X : Cx} {tg e e2 : Expr} {pos p : Pos} {cA : Nat → Addr} {W : WX}
theorem wd_tup {K : PySem.W.Frag} {G : Addr → Prop} {ρ : List Addr} {H : Hp} {t : IT} {a : Addr} (q : SeqT K G ρ H t a true) : WD K G ρ H t (Itt K a) where
  go := fun G1 ρ1 S1 H1 i k r c hi => by
    obtain ⟨vs, h1, h2⟩ := q.st G1 ρ1 S1 H1 k r c
    have hv : i < vs.length := by rw [h2.length]; exact hi
    exact ⟨vs, vs[i], h1, List.getElem?_eq_getElem hv⟩
  stop := fun G1 ρ1 S1 H1 k r c => by
    obtain ⟨vs, h1, h2⟩ := q.st G1 ρ1 S1 H1 k r c
    exact ⟨vs, h1, Nat.le_of_eq h2.length⟩
  yld := fun G1 ρ1 S1 H1 i d x H2 k r c hd y => by
    obtain ⟨vs, h1, h2⟩ := q.st G1 ρ1 S1 H1 k r c
    obtain ⟨rfl, y2⟩ := y
    obtain ⟨v, h3, h4⟩ := h2.get hd
    have : some x = some v := (y2 vs h1).symm.trans h3
    cases this
    exact ⟨h4, Keep.refl, r⟩
theorem wd_lst {K : PySem.W.Frag} {G : Addr → Prop} {ρ : List Addr} {H : Hp} {t : IT} {a : Addr} (q : SeqT K G ρ H t a false) : WD K G ρ H t (Itl K a) where
  go := fun G1 ρ1 S1 H1 i k r c hi => by
    obtain ⟨vs, h1, h2⟩ := q.st G1 ρ1 S1 H1 k r c
    have hv : i < vs.length := by rw [h2.length]; exact hi
    exact ⟨vs, vs[i], h1, List.getElem?_eq_getElem hv⟩
  stop := fun G1 ρ1 S1 H1 k r c => by
    obtain ⟨vs, h1, h2⟩ := q.st G1 ρ1 S1 H1 k r c
    exact ⟨vs, h1, Nat.le_of_eq h2.length⟩
  yld := fun G1 ρ1 S1 H1 i d x H2 k r c hd y => by
    obtain ⟨vs, h1, h2⟩ := q.st G1 ρ1 S1 H1 k r c
    obtain ⟨rfl, y2⟩ := y
    obtain ⟨v, h3, h4⟩ := h2.get hd
    have : some x = some v := (y2 vs h1).symm.trans h3
    cases this
    exact ⟨h4, Keep.refl, r⟩
theorem pi_or {t u : TI} (h : PI X tg e t) (h' : PI X tg e u) : PI X tg e (fun σ H R => t σ H R ∨ u σ H R) := ⟨fun pins s σ H R I q => q.elim (h.run pins s σ H R I) (h'.run pins s σ H R I)⟩
theorem Keep2.refl {G : Addr → Prop} {ρ : List Addr} {H : Hp} : Keep2 G ρ H G ρ H := Keep.refl.two
theorem ji_seq {m : M D} (h : PE X e (tE X.K cA W m)) : PI X tg e (tI X.K cA W (iSeq m)) := by
  refine pi_imp (pi_or (pi_tup h) (pi_list h)) ?_
  rintro σ H R ⟨G, ρ, env, S, hE, hS, h⟩
  unfold iSeq at h
  cases hm : m env S with
  | bad => rw [hm] at h; exact h.elim
  | err c S1 =>
    rw [hm] at h
    refine .inl ⟨G, ρ, env, S, hE, hS, ?_⟩
    rw [hm]
    exact h
  | ok d S1 =>
    rw [hm] at h
    dsimp only [bind_ok] at h
    cases ei : fIt S1 d with
    | none => rw [ei] at h; exact h.elim
    | some t =>
      rw [ei] at h
      dsimp only at h
      cases ht : isTup d with
      | true =>
        refine .inl ⟨G, ρ, env, S, hE, hS, ?_⟩
        rw [hm]
        intro v ρ1 H1 r1 x1 k1
        obtain ⟨a, rfl, q, c⟩ := seq_at r1 x1 ei
        rw [ht] at q
        obtain ⟨vs, q1, q2⟩ := q.st G ρ1 S1 H1 Keep2.refl r1 c
        exact ⟨a, rfl, ⟨vs, q1⟩, h _ ρ1 H1 r1 (wd_tup q) k1⟩
      | false =>
        refine .inr ⟨G, ρ, env, S, hE, hS, ?_⟩
        rw [hm]
        intro v ρ1 H1 r1 x1 k1
        obtain ⟨a, rfl, q, c⟩ := seq_at r1 x1 ei
        rw [ht] at q
        obtain ⟨vs, q1, q2⟩ := q.st G ρ1 S1 H1 Keep2.refl r1 c
        exact ⟨a, rfl, ⟨vs, q1⟩, h _ ρ1 H1 r1 (wd_lst q) k1⟩
/-! range -/
def rangeD (lo : Int) (n : Nat) : List D := (List.range n).map fun i => .int (lo + (i : Nat))
def iR1 (ma : M (List D)) : M IT := fun env S => (ma env S).bind fun ds S1 => match ds with
  | [.int j] => if -(2 ^ 62) ≤ j ∧ j < 2 ^ 62 then .ok ⟨(List.range j.toNat).map fun i => .int (i : Nat), []⟩ S1 else .bad
  | _ => .bad
def iR2 (ma : M (List D)) : M IT := fun env S => (ma env S).bind fun ds S1 => match ds with
  | [.int i, .int j] => if -(2 ^ 62) ≤ i ∧ i < 2 ^ 62 ∧ -(2 ^ 62) ≤ j ∧ j < 2 ^ 62 then .ok ⟨rangeD i (j - i).toNat, []⟩ S1 else .bad
  | _ => .bad
theorem wd_range {K : PySem.W.Frag} {G : Addr → Prop} {ρ : List Addr} {H : Hp} (lo : Int) (n : Nat) : WD K G ρ H ⟨rangeD lo n, []⟩ (Itr lo n) where
  go := fun G1 ρ1 S1 H1 i k r c hi => by
    have hi : i < (rangeD lo n).length := hi
    unfold rangeD at hi
    simp at hi
    exact hi
  stop := fun G1 ρ1 S1 H1 k r c => by
    show n ≤ (rangeD lo n).length
    unfold rangeD
    simp
  yld := fun G1 ρ1 S1 H1 i d x H2 k r c hd y => by
    obtain ⟨rfl, rfl⟩ := y
    have hd1 : (rangeD lo n)[i]? = some d := hd
    unfold rangeD at hd1
    rw [List.getElem?_map] at hd1
    cases hr : (List.range n)[i]? with
    | none => rw [hr] at hd1; cases hd1
    | some j =>
      rw [hr] at hd1
      have ej : j = i := by
        have := List.getElem?_eq_some_iff.mp hr
        obtain ⟨h1, h2⟩ := this
        simp at h2
        exact h2.symm
      rw [ej] at hd1
      have hd2 : some (D.int (lo + (i : Nat))) = some d := hd1
      rw [← Option.some.inj hd2]
      exact ⟨rfl, Keep.refl, r⟩
theorem ji_range1 {ma : M (List D)} (hg : Gl X "range") (hm : X.mg "range" = none) (ha : PA X [e] (tAr X.K cA W ma)) (hs : starEach [e] X.env = [(false, eval e X.env)] := by rfl) : PI X tg (.Call (.Name "range" p) [e] [] pos) (tI X.K cA W (iR1 ma)) := by
  refine pi_imp (pi_range1 hg hm ha hs) ?_
  rintro σ H R ⟨G, ρ, env, S, hE, hS, h⟩
  refine ⟨G, ρ, env, S, hE, hS, Ok.bind h fun ds S1 vs ρ1 H1 r1 x1 k1 h1 => ?_⟩
  match ds, h1, x1 with
  | [.int j], h1, x1 =>
    obtain ⟨v, _, rfl, q1, rfl⟩ := x1
    cases (show v = .int j from q1)
    dsimp only at h1
    by_cases hj : -(2 ^ 62) ≤ j ∧ j < 2 ^ 62
    · rw [if_pos hj] at h1
      refine ⟨j, rfl, hj.1, hj.2, h1 _ ρ1 H1 r1 ?_ Keep.refl⟩
      have e : (List.range j.toNat).map (fun i => D.int (i : Nat)) = rangeD 0 j.toNat := by
        unfold rangeD
        congr
        funext i
        rw [Int.zero_add]
      rw [e]
      exact wd_range 0 j.toNat
    · rw [if_neg hj] at h1; exact h1.elim
theorem ji_range2 {ma : M (List D)} (hg : Gl X "range") (hm : X.mg "range" = none) (ha : PA X [e, e2] (tAr X.K cA W ma)) (hs : starEach [e, e2] X.env = [(false, eval e X.env), (false, eval e2 X.env)] := by rfl) (hs2 : starEach [e2] X.env = [(false, eval e2 X.env)] := by rfl) : PI X tg (.Call (.Name "range" p) [e, e2] [] pos) (tI X.K cA W (iR2 ma)) := by
  refine pi_imp (pi_range2 hg hm ha hs hs2) ?_
  rintro σ H R ⟨G, ρ, env, S, hE, hS, h⟩
  refine ⟨G, ρ, env, S, hE, hS, Ok.bind h fun ds S1 vs ρ1 H1 r1 x1 k1 h1 => ?_⟩
  match ds, h1, x1 with
  | [.int i, .int j], h1, x1 =>
    obtain ⟨v, _, rfl, q1, w, _, rfl, q2, rfl⟩ := x1
    cases (show v = .int i from q1)
    cases (show w = .int j from q2)
    dsimp only at h1
    by_cases hj : -(2 ^ 62) ≤ i ∧ i < 2 ^ 62 ∧ -(2 ^ 62) ≤ j ∧ j < 2 ^ 62
    · rw [if_pos hj] at h1
      exact ⟨i, j, rfl, hj, h1 _ ρ1 H1 r1 (wd_range i (j - i).toNat) Keep.refl⟩
    · rw [if_neg hj] at h1; exact h1.elim
/-! enumerate, zip -/
def enumD : Nat → List D → List D
  | _, [] => []
  | n, d :: ds => .tup [.int (n : Nat), d] :: enumD (n + 1) ds
theorem enumD_get : ∀ (n : Nat) (ds : List D) (i : Nat) (x : D), (enumD n ds)[i]? = some x → ∃ d, ds[i]? = some d ∧ x = .tup [.int ((n + i : Nat) : Int), d]
  | _, [], i, x, h => by simp [enumD] at h
  | n, d :: ds, 0, x, h => by
    have h : some (D.tup [.int (n : Nat), d]) = some x := h
    cases h
    exact ⟨d, rfl, rfl⟩
  | n, d :: ds, i + 1, x, h => by
    obtain ⟨d', h1, h2⟩ := enumD_get (n + 1) ds i x h
    exact ⟨d', h1, by rw [h2]; congr 4; omega⟩
theorem enumD_len : ∀ (n : Nat) (ds : List D), (enumD n ds).length = ds.length
  | _, [] => rfl
  | n, d :: ds => by show (enumD (n + 1) ds).length + 1 = ds.length + 1; rw [enumD_len]
def iEnumM (ma : M (List D)) : M IT := fun env S => (ma env S).bind fun ds S1 => match ds with
  | [d] => (match fIt S1 d with
    | some t => .ok ⟨enumD 0 t.ds, t.cells⟩ S1
    | none => .bad)
  | _ => .bad
theorem wd_enum {K : PySem.W.Frag} {G : Addr → Prop} {ρ : List Addr} {H : Hp} {t : IT} {a : Addr} {b : Bool} (q : SeqT K G ρ H t a b) : WD K G ρ H ⟨enumD 0 t.ds, t.cells⟩ (if b = true then IteT K a else IteL K a) := by
  cases b with
  | true =>
    refine ⟨fun G1 ρ1 S1 H1 i k r c hi => ?_, fun G1 ρ1 S1 H1 k r c => ?_, fun G1 ρ1 S1 H1 i d x H2 k r c hd y => ?_⟩
    · obtain ⟨vs, h1, h2⟩ := q.st G1 ρ1 S1 H1 k r c
      have hi : i < (enumD 0 t.ds).length := hi
      rw [enumD_len] at hi
      have hv : i < vs.length := by rw [h2.length]; exact hi
      exact ⟨vs, vs[i], h1, List.getElem?_eq_getElem hv⟩
    · obtain ⟨vs, h1, h2⟩ := q.st G1 ρ1 S1 H1 k r c
      exact ⟨vs, h1, by show vs.length ≤ (enumD 0 t.ds).length; rw [enumD_len, h2.length]; exact Nat.le_refl _⟩
    · obtain ⟨vs, h1, h2⟩ := q.st G1 ρ1 S1 H1 k r c
      obtain ⟨d', e1, e2⟩ := enumD_get 0 t.ds i d hd
      obtain ⟨T, y', o, rfl, hT, rfl, ho, hy⟩ := y
      obtain ⟨v, h3, h4⟩ := h2.get e1
      have : some y' = some v := (hy vs h1).symm.trans h3
      cases this
      have k2 : Keep G1 ρ1 H1 ρ1 (upd H1 T (.frz o (.tup [.int (i : Nat), y']))) := Keep.new hT r.gt
      refine ⟨?_, k2, r.new hT ho⟩
      rw [e2]
      exact ⟨T, _, rfl, .inr ⟨o, upd_same⟩, .int (i : Nat), [y'], rfl, by rw [Nat.zero_add]; rfl, y', [], rfl, Rep.keep k2 _ _ h4, rfl⟩
  | false =>
    refine ⟨fun G1 ρ1 S1 H1 i k r c hi => ?_, fun G1 ρ1 S1 H1 k r c => ?_, fun G1 ρ1 S1 H1 i d x H2 k r c hd y => ?_⟩
    · obtain ⟨vs, h1, h2⟩ := q.st G1 ρ1 S1 H1 k r c
      have hi : i < (enumD 0 t.ds).length := hi
      rw [enumD_len] at hi
      have hv : i < vs.length := by rw [h2.length]; exact hi
      exact ⟨vs, vs[i], h1, List.getElem?_eq_getElem hv⟩
    · obtain ⟨vs, h1, h2⟩ := q.st G1 ρ1 S1 H1 k r c
      exact ⟨vs, h1, by show vs.length ≤ (enumD 0 t.ds).length; rw [enumD_len, h2.length]; exact Nat.le_refl _⟩
    · obtain ⟨vs, h1, h2⟩ := q.st G1 ρ1 S1 H1 k r c
      obtain ⟨d', e1, e2⟩ := enumD_get 0 t.ds i d hd
      obtain ⟨T, y', o, rfl, hT, rfl, ho, hy⟩ := y
      obtain ⟨v, h3, h4⟩ := h2.get e1
      have : some y' = some v := (hy vs h1).symm.trans h3
      cases this
      have k2 : Keep G1 ρ1 H1 ρ1 (upd H1 T (.frz o (.tup [.int (i : Nat), y']))) := Keep.new hT r.gt
      refine ⟨?_, k2, r.new hT ho⟩
      rw [e2]
      exact ⟨T, _, rfl, .inr ⟨o, upd_same⟩, .int (i : Nat), [y'], rfl, by rw [Nat.zero_add]; rfl, y', [], rfl, Rep.keep k2 _ _ h4, rfl⟩
theorem ji_enum {ma : M (List D)} {elts : List Expr} {kk : Nat} {tpos : Pos} (hg : Gl X "enumerate") (hm : X.mg "enumerate" = none) (ha : PA X [e] (tAr X.K cA W ma)) (hs : starEach [e] X.env = [(false, eval e X.env)] := by rfl) : PI X (.Tuple elts kk tpos) (.Call (.Name "enumerate" p) [e] [] pos) (tI X.K cA W (iEnumM ma)) := by
  refine pi_imp (pi_or (pi_enumT hg hm ha hs) (pi_enumL hg hm ha hs)) ?_
  rintro σ H R ⟨G, ρ, env, S, hE, hS, h⟩
  unfold iEnumM at h
  cases hm : ma env S with
  | bad => rw [hm] at h; exact h.elim
  | err c S1 =>
    rw [hm] at h
    refine .inl ⟨G, ρ, env, S, hE, hS, ?_⟩
    rw [hm]
    exact h
  | ok ds S1 =>
    rw [hm] at h
    dsimp only [bind_ok] at h
    match ds, hm, h with
    | [d], hm, h =>
      dsimp only at h
      cases ei : fIt S1 d with
      | none => rw [ei] at h; exact h.elim
      | some t =>
        rw [ei] at h
        dsimp only at h
        cases ht : isTup d with
        | true =>
          refine .inl ⟨G, ρ, env, S, hE, hS, ?_⟩
          rw [hm]
          intro vs ρ1 H1 r1 x1 k1
          obtain ⟨v, _, rfl, q1, rfl⟩ := x1
          obtain ⟨a, rfl, q, c⟩ := seq_at r1 q1 ei
          rw [ht] at q
          obtain ⟨vs, q1, q2⟩ := q.st G ρ1 S1 H1 Keep2.refl r1 c
          exact ⟨a, vs, rfl, q1, h _ ρ1 H1 r1 (wd_enum q) k1⟩
        | false =>
          refine .inr ⟨G, ρ, env, S, hE, hS, ?_⟩
          rw [hm]
          intro vs ρ1 H1 r1 x1 k1
          obtain ⟨v, _, rfl, q1, rfl⟩ := x1
          obtain ⟨a, rfl, q, c⟩ := seq_at r1 q1 ei
          rw [ht] at q
          obtain ⟨vs, q1, q2⟩ := q.st G ρ1 S1 H1 Keep2.refl r1 c
          exact ⟨a, vs, rfl, q1, h _ ρ1 H1 r1 (wd_enum q) k1⟩
end
end Rf

namespace Rf
open PySem PySem.Spec PyProof.Rows L2
/-! ### len, isinstance, int, tuple, list -/
def dLen (ds : List D) (S : Store) : Res D := match ds with
  | [d] => (match seqOf S d with
    | some xs => .ok (.int (xs.length : Nat)) S
    | none => .bad)
  | _ => .bad
theorem cd_len {K : PySem.W.Frag} : CallD K (fun xs H Q => ∃ p ys, xs = [.ref p] ∧ (SqL K H p ys ∨ SqT K H p ys) ∧ Q (.int ys.length) H) dLen := by
  intro G ρ H S ds vs E Q r x h
  match ds, h, x with
  | [d], h, x =>
    obtain ⟨v, _, rfl, q1, rfl⟩ := x
    unfold dLen at h
    dsimp only at h
    cases e : seqOf S d with
    | none => rw [e] at h; exact h.elim
    | some xs =>
      rw [e] at h
      obtain ⟨a, ws, rfl, h1, h2⟩ := rep_seq r q1 e
      refine ⟨a, ws, rfl, ?_, h.now r (by rw [h2.length]; rfl)⟩
      by_cases ht : isTup d = true
      · rw [if_pos ht] at h1; exact .inr h1
      · rw [if_neg ht] at h1; exact .inl h1
def tyN : D → Option String
  | .non => some "NoneType"
  | .bl _ => some "bool"
  | .int _ => some "int"
  | .str _ => some "str"
  | .tup _ => some "tuple"
  | .lst _ => some "list"
  | .fz _ => some "list"
  | .cell _ => none
  | .ty _ => none
/-- isinstance, by the model's own table -/
def isiT : String → String → Option Bool
  | "NoneType", "int" => some false | "NoneType", "bool" => some false | "NoneType", "tuple" => some false | "NoneType", "str" => some false
  | "bool", "int" => some true | "bool", "bool" => some true | "bool", "tuple" => some false | "bool", "str" => some false
  | "int", "int" => some true | "int", "bool" => some false | "int", "tuple" => some false | "int", "str" => some false
  | "str", "int" => some false | "str", "bool" => some false | "str", "tuple" => some false | "str", "str" => some true
  | "tuple", "int" => some false | "tuple", "bool" => some false | "tuple", "tuple" => some true | "tuple", "str" => some false
  | "list", "int" => some false | "list", "bool" => some false | "list", "tuple" => some false | "list", "str" => some false
  | _, _ => none
theorem isiT_ok {a b : String} {r : Bool} (h : isiT a b = some r) : kitB a b = some r := by
  unfold isiT at h
  split at h <;> first | (cases h; decide +kernel) | cases h
def dIsi (ds : List D) (S : Store) : Res D := match ds with
  | [d, .ty T] => (match tyN d with
    | some a => (match isiT a T with
      | some b => .ok (.bl b) S
      | none => .bad)
    | none => .bad)
  | _ => .bad
theorem sqT_ty {K : PySem.W.Frag} {H : Hp} {a : Addr} {vs : List V} (h : SqT K H a vs) : TyX K H (.ref a) (.type "tuple") := by
  rcases h with (h | ⟨o, h⟩) | ⟨o, its, n, h1, h2, _⟩
  · exact .base (.tup h)
  · exact .fTuple h
  · exact .kTuple h1 h2
theorem tyN_ok {K : PySem.W.Frag} {G : Addr → Prop} {ρ : List Addr} {H : Hp} {d : D} {v : V} {a : String} (x : Rep K G ρ H d v) (e : tyN d = some a) : TyX K H v (.type a) := by
  cases d with
  | non => cases e; cases (show v = .non from x); exact .base .non
  | bl b => cases e; cases (show v = .bl b from x); exact .base (.bl b)
  | int b => cases e; cases (show v = .int b from x); exact .base (.int b)
  | str b => cases e; cases (show v = .str b from x); exact .base (.str b)
  | tup ds => cases e; obtain ⟨a, vs, rfl, h1, _⟩ := x; exact sqT_ty (.inl h1)
  | lst ds => cases e; obtain ⟨a, vs, rfl, h1, _⟩ := x; exact .base (.lst h1.2.2)
  | fz ds =>
    cases e
    obtain ⟨a, vs, rfl, h1, _⟩ := x
    rcases h1 with ⟨o, h⟩ | ⟨o, its, n, h1, h2, _⟩
    · exact .base (.frz h)
    · exact .kList h1 h2
  | cell n => cases e
  | ty n => cases e
theorem cd_isi {K : PySem.W.Frag} : CallD K (rIsi K) dIsi := by
  intro G ρ H S ds vs E Q r x h
  unfold dIsi at h
  split at h
  · rename_i d T
    obtain ⟨v, _, rfl, q1, w, _, rfl, q2, rfl⟩ := x
    cases (show w = .ty T from q2)
    split at h
    · rename_i a ea
      split at h
      · rename_i b eb
        exact ⟨v, .ty T, .type a, .type T, b, rfl, .ty T, tyN_ok q1 ea, kit_ty (isiT_ok eb), h.now r rfl⟩
      · exact h.elim
    · exact h.elim
  · exact h.elim
def dInt (ds : List D) (S : Store) : Res D := match ds with
  | [.int i] => .ok (.int i) S
  | [.bl b] => .ok (.int (if b then 1 else 0)) S
  | _ => .bad
theorem cd_int {K : PySem.W.Frag} : CallD K (fun xs H Q => (∃ i, xs = [.int i] ∧ Q (.int i) H) ∨ ∃ k, xs = [.bl k] ∧ Q (.int (if k then 1 else 0)) H) dInt := by
  intro G ρ H S ds vs E Q r x h
  unfold dInt at h
  split at h
  · rename_i i
    obtain ⟨v, _, rfl, q1, rfl⟩ := x
    cases (show v = .int i from q1)
    exact .inl ⟨i, rfl, h.now r rfl⟩
  · rename_i b
    obtain ⟨v, _, rfl, q1, rfl⟩ := x
    cases (show v = .bl b from q1)
    exact .inr ⟨b, rfl, h.now r rfl⟩
  · exact h.elim
def dTuple (ds : List D) (S : Store) : Res D := match ds with
  | [d] => (match seqOf S d with
    | some xs => .ok (.tup xs) S
    | none => .bad)
  | _ => .bad
theorem call_tupleZ {X : Cx} : CallR X (.type "tuple") (fun xs H Q => ∃ p ys, xs = [.ref p] ∧ ((SqL X.K H p ys ∧ ∀ l (o : Obj), H l = none → o.dict = none → Q (.ref l) (upd H l (.frz o (.tup ys)))) ∨ (SqT X.K H p ys ∧ Q (.ref p) H))) := by
  intro pins s σ H xs us Q I r h
  obtain ⟨p, ys, rfl, h⟩ := h
  obtain ⟨u, rfl, rx⟩ := vals1 r
  cases rx
  rcases h with ⟨hq, q⟩ | ⟨hq, q⟩
  · obtain ⟨its, r', pl, hz⟩ := I.list hq
    have hlen := r'.length
    refine call_tuple_list pl.isList (fun h' kp => ?_) (by simp only [List.size_toArray] <;> omega)
    have I1 : Inv X pins σ H { s with heap := h' } := I.kept (t' := s.toks) kp
    have I2 : Inv X pins σ (upd H h'.objs.size (.frz { cls := .type "tuple", data := .seq its.toArray } (.tup ys))) { s with heap := h'.push { cls := .type "tuple", data := .seq its.toArray } } :=
      I1.laid (t' := s.toks) (fun b o e => Heap.get?_push_of_some _ e) (Nat.le_refl _) (show ObjOk X.prog X.w _ _ _ (.frz _ (.tup ys)) from ⟨Heap.get?_push_size _ rfl, hz, its, r', IsTup.new _ _⟩)
    exact ⟨.ref h'.objs.size, _, I2, rfl, q _ _ (I1.hok.fresh (Nat.le_refl _)) rfl⟩
  · obtain ⟨its, r', pl, hz⟩ := I.tuple hq
    exact call_tuple_same pl ⟨.ref p, H, I, rfl, q⟩
theorem cd_tuple {K : PySem.W.Frag} : CallD K (fun xs H Q => ∃ p ys, xs = [.ref p] ∧ ((SqL K H p ys ∧ ∀ l (o : Obj), H l = none → o.dict = none → Q (.ref l) (upd H l (.frz o (.tup ys)))) ∨ (SqT K H p ys ∧ Q (.ref p) H))) dTuple := by
  intro G ρ H S ds vs E Q r x h
  match ds, h, x with
  | [d], h, x =>
    obtain ⟨v, _, rfl, q1, rfl⟩ := x
    unfold dTuple at h
    dsimp only at h
    cases e : seqOf S d with
    | none => rw [e] at h; exact h.elim
    | some xs =>
      rw [e] at h
      obtain ⟨a, ws, rfl, h1, h2⟩ := rep_seq r q1 e
      refine ⟨a, ws, rfl, ?_⟩
      by_cases ht : isTup d = true
      · rw [if_pos ht] at h1
        refine .inr ⟨h1, h.now r ?_⟩
        cases d with
        | tup ds => cases e; exact q1
        | _ => cases ht
      · rw [if_neg ht] at h1
        refine .inl ⟨h1, fun p o hp ho => ?_⟩
        have k2 : Keep G ρ H ρ (upd H p (.frz o (.tup ws))) := Keep.new hp r.gt
        exact h _ ρ _ (r.new hp ho) ⟨p, ws, rfl, .inr ⟨o, upd_same⟩, RepL.keep k2 _ _ h2⟩ k2
def fList (ds : List D) (S : Store) : Res (List D) := match ds with
  | [d] => (match seqOf S d with
    | some xs => .ok xs S
    | none => .bad)
  | _ => .bad
theorem cf_list {K : PySem.W.Frag} : CallF K (fun xs H Q => ∃ p ys, xs = [.ref p] ∧ (SqL K H p ys ∨ SqT K H p ys) ∧ ∀ l, H l = none → Q (.ref l) (upd H l (.lst ys))) fList := by
  intro G ρ H S ds vs E Q r x h
  match ds, h, x with
  | [d], h, x =>
    obtain ⟨v, _, rfl, q1, rfl⟩ := x
    unfold fList at h
    dsimp only at h
    cases e : seqOf S d with
    | none => rw [e] at h; exact h.elim
    | some xs =>
      rw [e] at h
      obtain ⟨a, ws, rfl, h1, h2⟩ := rep_seq r q1 e
      refine ⟨a, ws, rfl, ?_, fun p hp => h p ws ρ H r h2 Keep.refl hp⟩
      by_cases ht : isTup d = true
      · rw [if_pos ht] at h1; exact .inr h1
      · rw [if_neg ht] at h1; exact .inl h1
/-! ### < of nums and of tuples of nums -/
def nums : List D → Option (List Int)
  | [] => some []
  | .int i :: r => (nums r).map (i :: ·)
  | _ :: _ => none
theorem ints_map : ∀ {ds : List D} {ns : List Int}, nums ds = some ns → ds = ns.map .int
  | [], ns, h => by cases h; rfl
  | .int i :: r, ns, h => by
    unfold nums at h
    cases e : nums r with
    | none => rw [e] at h; cases h
    | some ms =>
      rw [e] at h
      have h : some (i :: ms) = some ns := h
      cases h
      rw [ints_map e]; rfl
  | .non :: _, _, h => by cases h
  | .bl _ :: _, _, h => by cases h
  | .str _ :: _, _, h => by cases h
  | .ty _ :: _, _, h => by cases h
  | .tup _ :: _, _, h => by cases h
  | .lst _ :: _, _, h => by cases h
  | .fz _ :: _, _, h => by cases h
  | .cell _ :: _, _, h => by cases h
@[simp] theorem ints_of : ∀ ns : List Int, nums (ns.map .int) = some ns
  | [] => rfl
  | n :: ns => by show (nums (ns.map .int)).map (n :: ·) = _; rw [ints_of]; rfl
theorem rep_ints {K : PySem.W.Frag} {G : Addr → Prop} {ρ : List Addr} {H : Hp} : ∀ {ns : List Int} {vs : List V}, RepL K G ρ H (ns.map .int) vs → vs = ns.map V.int
  | [], vs, h => h
  | n :: ns, vs, h => by
    obtain ⟨v, vs', rfl, h1, h2⟩ := h
    cases (show v = .int n from h1)
    rw [rep_ints h2]; rfl
def dLt (d e : D) (S : Store) : Res D := match d, e with
  | .int i, .int j => .ok (.bl (decide (i < j))) S
  | .tup xs, .tup ys => (match nums xs, nums ys with
    | some ns, some ms => .ok (.bl (HT.lexLt ns ms)) S
    | _, _ => .bad)
  | _, _ => .bad
theorem od_lt {K : PySem.W.Frag} : OpD K (fun x y H Q => (rI0 fun i j => .bl (decide (i < j))) x y H Q ∨ rLtT K x y H Q) dLt := by
  intro G ρ H S d1 d2 v1 v2 E Q r x1 x2 h
  unfold dLt at h
  split at h
  · rename_i i j
    exact .inl ⟨i, j, x1, x2, h.now r rfl⟩
  · rename_i xs ys
    split at h
    · rename_i ns ms e1 e2
      obtain ⟨a, vs, rfl, h1, h2⟩ := x1
      obtain ⟨b, ws, rfl, h3, h4⟩ := x2
      rw [ints_map e1] at h2
      rw [ints_map e2] at h4
      rw [rep_ints h2] at h1
      rw [rep_ints h4] at h3
      exact .inr ⟨a, b, ns, ms, rfl, rfl, .inl h1, .inl h3, h.now r rfl⟩
    · exact h.elim
  · exact h.elim
theorem op_lt2 {X : Cx} (hu : X.A.units < cLine) : OpR X (compareOp .Lt) (fun x y H Q => (rI0 fun i j => .bl (decide (i < j))) x y H Q ∨ rLtT X.K x y H Q) := op_lt.or (op_ltT hu)
/-! ### min, max -/
def dMin2 (mx : Bool) (ds : List D) (S : Store) : Res D := match ds with
  | [.int i, .int j] => .ok (.int (if mx = true then (if j > i then j else i) else (if j < i then j else i))) S
  | [d] => (match seqOf S d with
    | some (.int x :: xs) => (match nums xs with
      | some ns => .ok (.int (if mx = true then ns.foldl max x else ns.foldl min x)) S
      | none => .bad)
    | _ => .bad)
  | _ => .bad
def rMm (K : PySem.W.Frag) (mx : Bool) : List V → Hp → VK → Prop := fun xs H Q => (∃ i j, xs = [.int i, .int j] ∧ Q (.int (if mx = true then (if j > i then j else i) else (if j < i then j else i))) H) ∨
  ∃ (a : Addr) (x : Int) (ns : List Int), xs = [.ref a] ∧ (SqL K H a ((x :: ns).map V.int) ∨ SqT K H a ((x :: ns).map V.int)) ∧ Q (.int (if mx = true then ns.foldl max x else ns.foldl min x)) H
theorem cd_mm {K : PySem.W.Frag} {mx : Bool} : CallD K (rMm K mx) (dMin2 mx) := by
  intro G ρ H S ds vs E Q r x h
  unfold dMin2 at h
  split at h
  · rename_i i j
    obtain ⟨v, _, rfl, q1, w, _, rfl, q2, rfl⟩ := x
    cases (show v = .int i from q1)
    cases (show w = .int j from q2)
    exact .inl ⟨i, j, rfl, h.now r rfl⟩
  · rename_i d
    obtain ⟨v, _, rfl, q1, rfl⟩ := x
    split at h
    · rename_i y ys es
      split at h
      · rename_i ns en
        obtain ⟨a, ws, rfl, h1, h2⟩ := rep_seq r q1 es
        have e0 : D.int y :: ys = (y :: ns).map .int := by rw [ints_map en]; rfl
        rw [e0] at h2
        rw [rep_ints h2] at h1
        refine .inr ⟨a, y, ns, rfl, ?_, h.now r rfl⟩
        by_cases ht : isTup d = true
        · rw [if_pos ht] at h1; exact .inr h1
        · rw [if_neg ht] at h1; exact .inl h1
      · exact h.elim
    · exact h.elim
  · exact h.elim
theorem reads_ints {h : Heap} : ∀ {us : List Value} {ns : List Int}, IntsAre us ns → ∃ as, ReadsAll h us (ns.map .int) as
  | us, ns, hi => by
    induction ns generalizing us with
    | nil =>
      have := hi.length
      have e : us = [] := List.eq_nil_of_length_eq_zero this
      subst e
      exact ⟨_, .nil⟩
    | cons n ns ih =>
      match us, hi with
      | u :: us, hi =>
        obtain ⟨⟨t, e⟩, hr⟩ : (∃ t, u = Value.int n t) ∧ IntsAre us ns := by
          cases hi with
          | cons h1 h2 => exact ⟨⟨_, rfl⟩, by assumption⟩
        subst e
        obtain ⟨as, q⟩ := ih us hr
        exact ⟨_, .cons (Reads.int n t) q⟩
end Rf

namespace PyProof.Rows
open PySem PySem.Calls
section
variable {prog : Program} {w : World} {A : Around} {E : Value → Shared → Prop} {s : Shared}
theorem collect_tup' {l : Addr} {vs : List Value} {Q : List Value → Shared → Prop} (hl : s.heap.IsTuple l vs.toArray)
    (h : Q vs { s with heap := (s.heap.push (seqObj "list" #[] 0)).update s.heap.objs.size (Obj.mapSeq (· ++ vs.toArray)) }) (hsz : vs.length ≤ sizeLine) :
    wpAny (model prog w) A (collect (.ref l)) Q E s := by
  obtain ⟨o, ho, hc, n, hd⟩ := id hl
  unfold collect
  refine wpAny_bind (wpAny_runValue (codeAny_builtin entry_proto_collect' ?_))
  show wpAny _ _ (do again (.builtin "list.__iadd__" ⟨[← newList [], .ref l], []⟩)) _ _ s
  refine wpAny_bind (wpAny_newList (wpAny_pure ⟨Code.quiet_builtin _ (by decide +kernel), codeAny_builtin entry_list_iadd' ?_⟩))
  show wpAny _ _ (Builtin.List.listExtendWith (.ref s.heap.objs.size) (.ref l) (.ref s.heap.objs.size)) _ _ { s with heap := s.heap.push (seqObj "list" #[] 0) }
  unfold Builtin.List.listExtendWith
  have ho' : (s.heap.push (seqObj "list" #[] 0)).get? l = some o := Heap.get?_push_of_some _ ho
  refine wpAny_bind (wpAny_typeOf (T := "tuple") ⟨o, ho', hc⟩ ?_)
  have ht : (Value.type "tuple" == Value.type "tuple") = true := by rfl
  rw [if_pos (by rw [ht]; simp)]
  refine wpAny_bind (listItems_at ho' hd ?_)
  refine wpAny_bind (listItems_at (xs := #[]) (n := 0) (Heap.get?_push_size _ rfl) rfl ?_)
  rw [if_neg (by simp)]
  refine wpAny_bind (listUpdate_at (xs := #[]) (n := 0) (Heap.get?_push_size _ rfl) rfl ?_ (Nat.zero_le _) (by show (#[] ++ vs.toArray).size ≤ sizeLine + 1; simp only [Array.size_append, List.size_toArray, List.length_nil]; omega))
  refine wpAny_pure ?_
  show wpAny (model prog w) A (do
      let o ← load s.heap.objs.size
      match o.data with
      | .seq xs _ => pure xs.toList
      | _ => unsupported "internal:collect") Q E { s with heap := (s.heap.push (seqObj "list" #[] 0)).update s.heap.objs.size (Obj.mapSeq (· ++ vs.toArray)) }
  refine wpAny_bind (wpAny_load (get?_update_seq (Heap.get?_push_size _ rfl) _) ?_)
  show wpAny _ _ (pure ((#[] : Array Value) ++ vs.toArray).toList) Q E _
  rw [show ((#[] : Array Value) ++ vs.toArray).toList = vs by simp]
  exact wpAny_pure h
end
end PyProof.Rows
namespace PySem.W
open PySem PySem.Calls PyProof.Rows
section
variable {prog : Program} {w : World} {A : Around} {E : Value → Shared → Prop} {s : Shared}
theorem sorted_of_sortT' {l : Addr} {vs : List Value} {kw : List (Str × Value)} {Q : Value → Shared → Prop} (hl : s.heap.IsTuple l vs.toArray) (hL : vs.length ≤ sizeLine) (ha1 : argsOk "sorted" ⟨[.ref l], kw⟩) (ha2 : ∀ x, argsOk "list.sort" ⟨[.ref x], kw⟩)
    (body : ∀ E' : Value → Shared → Prop, wpAny (model prog w) A.in1.in1 (Builtin.«list.sort» ⟨[.ref (s.heap.objs.size + 1)], kw⟩) (fun f s' => f = .done (.ret .none) ∧ Q (.ref (s.heap.objs.size + 1)) s') E' { s with heap := copyHeap s.heap vs }) :
    wpAny (model prog w) A (call (.builtin "sorted") [.ref l] kw) Q E s := by
  refine call_function_entry_kw kind_sorted plain_sorted entry_sorted ha1 ?_
  unfold Builtin.«sorted»
  refine wpAny_bind (m := checkCount "sorted" 1 1 _) (wpAny_pure ?_)
  refine wpAny_bind (collect_tup' hl ?_ hL)
  refine wpAny_bind (wpAny_newList ?_ hL)
  have hsz : ((s.heap.push (seqObj "list" #[] 0)).update s.heap.objs.size (Obj.mapSeq (· ++ vs.toArray))).objs.size = s.heap.objs.size + 1 := by
    rw [Heap.size_update, size_push']
  show wpAny _ _ _ _ _ { s with heap := copyHeap s.heap vs }
  rw [hsz]
  refine wpAny_bind (wpAny_holding (wpAny_call_entry_kw slot_list_sort ⟨_, copyHeap_at s.heap vs, rfl⟩ entry_list_sort ?body (ha2 _)))
  case body =>
    show wpAny (model prog w) A.in1.in1 (Builtin.«list.sort» ⟨[.ref (s.heap.objs.size + 1)], kw⟩) _ _ _
    refine wpAny_mono (body _) (fun f s' hf => ?_) fun _ _ e => e
    obtain ⟨rfl, hq⟩ := hf
    exact ⟨_, rfl, wpAny_pure ⟨_, rfl, hq⟩⟩
variable {β : Type} {R : Value → β → Prop} {enc : β → PyData} {vs : List Value} {bs : List β}
theorem sorted_dataT' {l : Addr} {Q : Value → Shared → Prop} (hl : s.heap.IsTuple l vs.toArray) (e : EachIs R vs bs) (er : EachIs (fun v b => ∃ as, Reads s.heap v (enc b) as) vs bs) (hal : AllAlike (bs.map enc)) (hk : Sortable (bs.map enc)) (hL : bs.length ≤ sizeLine)
    (hu : ∀ b, b ∈ bs → A.units + 2 + (enc b).depth < cLine) (h : ∀ out, out.length = bs.length → EachIs R out (bs.mergeSort (dataLe false enc)) → Q (.ref (s.heap.objs.size + 1)) { s with heap := sortedAll s.heap vs (List.toArray out) }) :
    wpAny (model prog w) A (call (.builtin "sorted") [.ref l]) Q E s := by
  have er' : EachIs (fun v b => ∃ as, Reads (sortingHeap (copyHeap s.heap vs) (s.heap.objs.size + 1) vs) v (enc b) as) vs bs := er.mono fun _ _ ⟨as, r⟩ => ⟨as, PyProof.Rows.Reads.keeps (fun _ _ => sorting_copy_old) r⟩
  exact sorted_of_sortT' hl (by rw [e.length]; exact hL) (args_sorted1 _) (fun _ => args_list_sort _) fun _ => list_sort_vals (s := { s with heap := copyHeap s.heap vs }) (copyHeap_at s.heap vs) (SortsAt.data (s := { s with heap := sortingHeap (copyHeap s.heap vs) (s.heap.objs.size + 1) vs }) (each_map (R := fun v d => ∃ as, Reads (sortingHeap (copyHeap s.heap vs) (s.heap.objs.size + 1) vs) v d as) enc er') hal hk (bound_map hu)) (by rw [e.length]; exact hL)
    ⟨rfl, h _ (by rw [sortVals_length false rfl]; exact e.length) (sortVals_data false e er' hal)⟩
end
end PySem.W
namespace Rf
open PySem PySem.Spec PyProof.Rows L2
open PySem.W (EachIs AllAlike alike dataLe)
section
variable {X : Cx}
/-! ### min, max: the rule -/
theorem cr_mm {mx : Bool} (hc : X.calm = true) (hu : X.A.units + 64 < cLine) : CallR X (.builtin (if mx = true then "max" else "min")) (rMm X.K mx) := by
  intro pins s σ H xs us Q I r h
  rcases h with ⟨i, j, rfl, q⟩ | ⟨a, x, ns, rfl, hq, q⟩
  · cases mx with
    | true => exact call_max2 hc pins s σ H _ us Q I r ⟨i, j, rfl, q⟩
    | false => exact call_min2 hc pins s σ H _ us Q I r ⟨i, j, rfl, q⟩
  · have dep : PyData.depthAll ((x :: ns).map PyData.int) = 0 := PySem.W.depth_ints _
    have alk : PySem.W.AlikeAll ((x :: ns).map PyData.int) := by
      refine ⟨fun d hd d' hd' => ?_, fun d hd => ?_⟩
      · obtain ⟨i, _, rfl⟩ := List.mem_map.mp hd
        obtain ⟨j, _, rfl⟩ := List.mem_map.mp hd'
        rfl
      · obtain ⟨i, _, rfl⟩ := List.mem_map.mp hd
        exact fun z => nomatch z
    have hu' : X.A.units + 1 + PyData.depthAll ((x :: ns).map PyData.int) < cLine := by rw [dep]; omega
    have fin : ∀ (its : List Value), Vals ((x :: ns).map V.int) its → ∀ (i : Nat) v h' tk bs (m : Int), its.toArray[i]? = some v → Reads h' v (.int m) bs → (∀ b o, s.heap.get? b = some o → h'.get? b = some o) → m = (if mx = true then ns.foldl max x else ns.foldl min x) → EP X pins σ Q v { s with heap := h', toks := tk } := fun its rv i v h' tk bs m hv rd hk em => by
      have hi : IntsAre its (x :: ns) := rv.ints
      have hv' : its[i]? = some v := by simpa using hv
      have : ∃ j t, v = Value.int j t := by
        obtain ⟨hlt, ev⟩ := List.getElem?_eq_some_iff.mp hv'
        have hlt2 : i < (x :: ns).length := by rw [← hi.length]; exact hlt
        obtain ⟨u, e1, e2⟩ := rv.get (i := i) (x := V.int (x :: ns)[i]) (by rw [List.getElem?_map, List.getElem?_eq_getElem hlt2]; rfl)
        rw [hv'] at e1
        cases e1
        obtain ⟨t, e⟩ := e2
        exact ⟨_, t, e⟩
      obtain ⟨j, t, rfl⟩ := this
      have ej : j = m := by cases rd; rfl
      subst ej
      exact ⟨.int j, H, I.kept (t' := tk) hk, ⟨t, rfl⟩, by rw [em]; exact q⟩
    rw [Vals.ref1 r]
    rcases hq with hq | hq
    · obtain ⟨its, rv, pl, hz⟩ := I.list hq
      obtain ⟨as, ra⟩ := reads_ints (h := s.heap) rv.ints
      cases mx with
      | true => exact PySem.W.max_list_data (I.ok.hd hc) pl.isList (by simpa using ra) alk hu' fun i v h' tk bs hv rd hk => fin its rv i v h' tk bs (ns.foldl max x) hv (by rw [← PySem.W.maxD_ints]; exact rd) hk rfl
      | false => exact PySem.W.min_list_data (I.ok.hd hc) pl.isList (by simpa using ra) alk hu' fun i v h' tk bs hv rd hk => fin its rv i v h' tk bs (ns.foldl min x) hv (by rw [← PySem.W.minD_ints]; exact rd) hk rfl
    · obtain ⟨its, rv, pl, hz⟩ := I.tuple hq
      obtain ⟨as, ra⟩ := reads_ints (h := s.heap) rv.ints
      cases mx with
      | true => exact PySem.W.max_tuple_data (I.ok.hd hc) pl (by simpa using ra) alk hu' fun i v h' tk bs hv rd hk => fin its rv i v h' tk bs (ns.foldl max x) hv (by rw [← PySem.W.maxD_ints]; exact rd) hk rfl
      | false => exact PySem.W.min_tuple_data (I.ok.hd hc) pl (by simpa using ra) alk hu' fun i v h' tk bs hv rd hk => fin its rv i v h' tk bs (ns.foldl min x) hv (by rw [← PySem.W.minD_ints]; exact rd) hk rfl
/-! ### sorted of data -/
def rSortD (K : PySem.W.Frag) : List V → Hp → VK → Prop := fun xs H Q => ∃ (a : Addr) (bs : List (PyData × V)), xs = [.ref a] ∧ (SqL K H a (bs.map (·.2)) ∨ SqT K H a (bs.map (·.2))) ∧ (∀ b ∈ bs, Dp K H b.2 b.1) ∧ AllAlike (bs.map (·.1)) ∧ PySem.W.Sortable (bs.map (·.1)) ∧ (∀ b ∈ bs, b.1.depth ≤ 12) ∧ bs.length ≤ sizeLine ∧
  ∀ p, H p = none → Q (.ref p) (upd H p (.lst ((bs.mergeSort (dataLe false (·.1))).map (·.2))))
theorem each_zip {P : PyData × V → Prop} : ∀ {bs : List (PyData × V)} {us : List Value}, Vals (bs.map (·.2)) us → EachIs (fun u b => RelV b.2 u) us bs
  | [], _, .nil => .nil
  | b :: bs, _, .cons r t => .cons r (each_zip (P := P) t)
theorem each_reads {pins : List (Addr × Obj)} {σ : L2.St} {H : Hp} {s : Shared} (I : L2.Inv X pins σ H s) : ∀ {bs : List (PyData × V)} {us : List Value}, (∀ b ∈ bs, Dp X.K H b.2 b.1) → Vals (bs.map (·.2)) us → EachIs (fun u b => ∃ as, Reads s.heap u b.1 as) us bs
  | [], _, _, .nil => .nil
  | b :: bs, _, h, .cons r t => .cons (Dp.reads I b.1 b.2 _ (h b List.mem_cons_self) r) (each_reads I (fun c hc => h c (List.mem_cons_of_mem _ hc)) t)
theorem vals_each : ∀ {bs : List (PyData × V)} {us : List Value}, EachIs (fun u (b : PyData × V) => RelV b.2 u) us bs → Vals (bs.map (·.2)) us
  | [], _, .nil => .nil
  | b :: bs, _, .cons r t => .cons r (vals_each t)
theorem cr_sortD (hu : X.A.units + 64 < cLine) : CallR X (.builtin "sorted") (rSortD X.K) := by
  intro pins s σ H xs us Q I r h
  obtain ⟨a, bs, rfl, hq, hd, hal, hk, hdep, hL, q⟩ := h
  have key : ∀ (its : List Value) (out : List Value), out.length = bs.length → EachIs (fun u (b : PyData × V) => RelV b.2 u) out (bs.mergeSort (dataLe false (·.1))) → EP X pins σ Q (.ref (s.heap.objs.size + 1)) { s with heap := sortedAll s.heap its (List.toArray out) } := fun its out ho he => by
    obtain ⟨ep, he'⟩ := PyProof.Rows.sortedAll_at s.heap its (List.toArray out)
    have hv := vals_each he
    have hlen : ((bs.mergeSort (dataLe false (·.1))).map (·.2)).length ≤ sizeLine := by rw [List.length_map, List.length_mergeSort]; exact hL
    exact ⟨.ref _, upd H (s.heap.objs.size + 1) (.lst ((bs.mergeSort (dataLe false (·.1))).map (·.2))), I.laid (t' := s.toks) (fun _ _ => PyProof.Rows.sortedAll_old) (Nat.le_succ _) ⟨hlen, out, ep, hv, by simpa using he'⟩, rfl, q _ (I.hok.fresh (Nat.le_succ _))⟩
  have hu2 : ∀ b, b ∈ bs → X.A.units + 2 + b.1.depth < cLine := fun b hb => by have := hdep b hb; omega
  rw [Vals.ref1 r]
  rcases hq with hq | hq
  · obtain ⟨its, rv, pl, hz⟩ := I.list hq
    exact PySem.W.sorted_data (R := fun u (b : PyData × V) => RelV b.2 u) (enc := (·.1)) pl.isList (each_zip (P := fun _ => True) rv) (each_reads I hd rv) hal hk hL hu2 (key its)
  · obtain ⟨its, rv, pl, hz⟩ := I.tuple hq
    exact PySem.W.sorted_dataT' (R := fun u (b : PyData × V) => RelV b.2 u) (enc := (·.1)) pl (each_zip (P := fun _ => True) rv) (each_reads I hd rv) hal hk hL hu2 (key its)
end
open Classical in
/-- sorted(xs): data that can be compared -/
noncomputable def fSorted (ds : List D) (S : Store) : Res (List D) := match ds with
  | [d] => (match seqOf S d with
    | some xs => if xs.length ≤ big ∧ xs.all (shD 11) = true ∧ AllAlike (xs.map py) ∧ PySem.W.Sortable (xs.map py) then .ok (xs.mergeSort (dataLe false py)) S else .bad
    | none => .bad)
  | _ => .bad
theorem rep_dpl {K : PySem.W.Frag} {G : Addr → Prop} {ρ : List Addr} {H : Hp} : ∀ {xs : List D} {vs : List V}, RepL K G ρ H xs vs → xs.all (shD 11) = true → ∃ bs : List (D × V), bs.map (·.1) = xs ∧ bs.map (·.2) = vs ∧ ∀ b ∈ bs, Rep K G ρ H b.1 b.2 ∧ Dp K H b.2 (py b.1) ∧ (py b.1).depth ≤ 12
  | [], vs, h, _ => ⟨[], rfl, by rw [show vs = [] from h]; rfl, fun b hb => nomatch hb⟩
  | d :: xs, vs, h, hs => by
    obtain ⟨v, vs', rfl, h1, h2⟩ := h
    rw [List.all_cons, Bool.and_eq_true] at hs
    obtain ⟨bs, e1, e2, hb⟩ := rep_dpl h2 hs.2
    refine ⟨(d, v) :: bs, by rw [List.map_cons, e1], by rw [List.map_cons, e2], fun b hb' => ?_⟩
    rcases List.mem_cons.mp hb' with rfl | hb'
    · exact ⟨h1, rep_dp 11 d v hs.1 h1, Nat.le_succ_of_le (shD_ok 11 d hs.1).2⟩
    · exact hb b hb'
theorem repl_of {K : PySem.W.Frag} {G : Addr → Prop} {ρ : List Addr} {H : Hp} : ∀ (bs : List (D × V)), (∀ b ∈ bs, Rep K G ρ H b.1 b.2) → RepL K G ρ H (bs.map (·.1)) (bs.map (·.2))
  | [], _ => rfl
  | b :: bs, h => ⟨b.2, bs.map (·.2), rfl, h b List.mem_cons_self, repl_of bs fun c hc => h c (List.mem_cons_of_mem _ hc)⟩
theorem cf_sorted {K : PySem.W.Frag} : CallF K (rSortD K) fSorted := by
  intro G ρ H S ds vs E Q r x h
  match ds, h, x with
  | [d], h, x =>
    obtain ⟨v, _, rfl, q1, rfl⟩ := x
    unfold fSorted at h
    dsimp only at h
    cases e : seqOf S d with
    | none => rw [e] at h; exact h.elim
    | some xs =>
      rw [e] at h
      dsimp only at h
      by_cases hc : xs.length ≤ big ∧ xs.all (shD 11) = true ∧ AllAlike (xs.map py) ∧ PySem.W.Sortable (xs.map py)
      · rw [if_pos hc] at h
        obtain ⟨c1, c2, c3, c4⟩ := hc
        obtain ⟨a, ws, rfl, h1, h2⟩ := rep_seq r q1 e
        obtain ⟨bs, e1, e2, hb⟩ := rep_dpl h2 c2
        have em : (bs.map fun b => (py b.1, b.2)).map (·.1) = xs.map py := by rw [List.map_map, ← e1, List.map_map]; rfl
        have em2 : (bs.map fun b => (py b.1, b.2)).map (·.2) = ws := by rw [List.map_map, ← e2]; rfl
        have es : (bs.mergeSort fun p q => dataLe false py p.1 q.1).map (fun b => (py b.1, b.2)) = (bs.map fun b => (py b.1, b.2)).mergeSort (dataLe false (·.1)) := PySem.W.sort_maps (fun b : D × V => (py b.1, b.2)) fun _ _ _ _ => rfl
        have es1 : (bs.mergeSort fun p q => dataLe false py p.1 q.1).map (·.1) = xs.mergeSort (dataLe false py) := by rw [PySem.W.sort_maps (s := dataLe false py) (fun b : D × V => b.1) fun _ _ _ _ => rfl, e1]
        refine ⟨a, bs.map fun b => (py b.1, b.2), rfl, ?_, fun b hb' => ?_, by rw [em]; exact c3, by rw [em]; exact c4, fun b hb' => ?_, ?_, fun p hp => ?_⟩
        · rw [em2]
          by_cases ht : isTup d = true
          · rw [if_pos ht] at h1; exact .inr h1
          · rw [if_neg ht] at h1; exact .inl h1
        · obtain ⟨c, hc, rfl⟩ := List.mem_map.mp hb'
          exact (hb c hc).2.1
        · obtain ⟨c, hc, rfl⟩ := List.mem_map.mp hb'
          exact (hb c hc).2.2
        · rw [List.length_map, ← List.length_map (f := (·.1)), e1]; exact big_line c1
        · have em3 : ((bs.map fun b => (py b.1, b.2)).mergeSort (dataLe false (·.1))).map (·.2) = (bs.mergeSort fun p q => dataLe false py p.1 q.1).map (·.2) := by rw [← es, List.map_map]; rfl
          rw [em3]
          refine h p _ ρ H r ?_ Keep.refl hp
          rw [← es1]
          exact repl_of _ fun b hb' => (hb b ((List.mergeSort_perm _ _).mem_iff.mp hb')).1
      · rw [if_neg hc] at h; exact h.elim
end Rf

namespace Rf
open PySem PySem.Spec PyProof.Rows L2
/-! ### how many unlike ints -/
def ded : List Int → List Int
  | [] => []
  | x :: r => if x ∈ r then ded r else x :: ded r
theorem mem_ded {y : Int} : ∀ {l : List Int}, y ∈ ded l ↔ y ∈ l
  | [] => Iff.rfl
  | x :: r => by
    unfold ded
    by_cases h : x ∈ r
    · rw [if_pos h, mem_ded (l := r), List.mem_cons]
      exact ⟨.inr, fun q => q.elim (fun e => e ▸ h) id⟩
    · rw [if_neg h, List.mem_cons, List.mem_cons, mem_ded (l := r)]
theorem ded_nodup : ∀ l : List Int, (ded l).Nodup
  | [] => List.nodup_nil
  | x :: r => by
    unfold ded
    by_cases h : x ∈ r
    · rw [if_pos h]; exact ded_nodup r
    · rw [if_neg h]; exact List.nodup_cons.mpr ⟨fun q => h (mem_ded.mp q), ded_nodup r⟩
theorem len_le_of_sub : ∀ {l m : List Int}, l.Nodup → (∀ x ∈ l, x ∈ m) → l.length ≤ m.length
  | [], _, _, _ => Nat.zero_le _
  | x :: l, m, hn, hs => by
    obtain ⟨h1, h2⟩ := List.nodup_cons.mp hn
    have hx := hs x List.mem_cons_self
    have := len_le_of_sub (l := l) (m := m.erase x) h2 fun y hy => by
      have hne : y ≠ x := fun e => h1 (e ▸ hy)
      exact (List.mem_erase_of_ne hne).mpr (hs y (List.mem_cons_of_mem _ hy))
    rw [List.length_erase_of_mem hx] at this
    have hp : 0 < m.length := List.length_pos_of_mem hx
    show l.length + 1 ≤ m.length
    omega
theorem len_eq_of_same {l m : List Int} (h1 : l.Nodup) (h2 : m.Nodup) (h : ∀ x, x ∈ l ↔ x ∈ m) : l.length = m.length :=
  Nat.le_antisymm (len_le_of_sub h1 fun x hx => (h x).mp hx) (len_le_of_sub h2 fun x hx => (h x).mpr hx)
theorem fold_dedup : ∀ (l acc : List Int), acc.Nodup → (l.foldl step_dedup acc).Nodup ∧ ∀ x, x ∈ l.foldl step_dedup acc ↔ x ∈ acc ∨ x ∈ l
  | [], acc, h => ⟨h, fun x => by simp⟩
  | y :: l, acc, h => by
    have hstep : (step_dedup acc y).Nodup ∧ ∀ x, x ∈ step_dedup acc y ↔ x ∈ acc ∨ x = y := by
      unfold step_dedup
      by_cases hy : acc.any (· == y) = true
      · rw [if_pos hy]
        refine ⟨h, fun x => ⟨.inl, fun q => q.elim id fun e => ?_⟩⟩
        subst e
        obtain ⟨z, hz, ez⟩ := List.any_eq_true.mp hy
        rw [← eq_of_beq ez]; exact hz
      · rw [if_neg hy]
        refine ⟨?_, fun x => by simp⟩
        rw [List.nodup_append]
        refine ⟨h, by simp, fun a ha b hb => ?_⟩
        rintro rfl
        simp at hb
        exact hy (List.any_eq_true.mpr ⟨a, ha, by rw [hb]; simp⟩)
    obtain ⟨q1, q2⟩ := fold_dedup l (step_dedup acc y) hstep.1
    refine ⟨q1, fun x => ?_⟩
    rw [List.foldl_cons, q2 x, hstep.2 x, List.mem_cons]
    exact ⟨fun z => z.elim (fun z => z.elim .inl fun e => .inr (.inl e)) fun z => .inr (.inr z), fun z => z.elim (fun z => .inl (.inl z)) fun z => z.elim (fun e => .inl (.inr e)) .inr⟩
theorem getD_range (ns : List Int) : (List.range ns.length).map (fun i => ns.getD i 0) = ns := by
  apply List.ext_getElem?
  intro i
  rw [List.getElem?_map]
  by_cases hi : i < ns.length
  · rw [List.getElem?_range hi]
    simp [hi]
  · rw [List.getElem?_eq_none (by simpa using hi), List.getElem?_eq_none (by omega)]
    rfl
theorem firstMet_len (ns : List Int) : (firstMet (fun i => ns.getD i 0) ns.length).length = (ded ns).length := by
  unfold firstMet
  rw [getD_range]
  obtain ⟨h1, h2⟩ := fold_dedup ns [] List.nodup_nil
  exact len_eq_of_same h1 (ded_nodup ns) fun x => by rw [h2 x, mem_ded]; simp
def dLenSet (d : D) (S : Store) : Res D := match seqOf S d with
  | some xs => (match nums xs with
    | some ns => if ns.length < 1000 then .ok (.int ((ded ns).length : Nat)) S else .bad
    | none => .bad)
  | none => .bad
section
variable {X : Cx} {a : Expr} {p p2 q pos : Pos} {cA : Nat → Addr} {W : WX}
def tLenSet (K : PySem.W.Frag) (ta : TE) : TE := fun σ H Q => ta σ H fun x H1 => ∃ (l : Addr) (ns : List Int), x = V.ref l ∧ (SqL K H1 l (ns.map V.int) ∨ SqT K H1 l (ns.map V.int)) ∧ ns.length < 1000 ∧ Q (.int ((ded ns).length : Nat)) H1
theorem pe_lenSet {ta : TE} (hc : X.calm = true) (hg : Gl X "len") (hm : X.mg "len" = none) (hg2 : Gl X "set") (hm2 : X.mg "set" = none) (ha : PE X a ta)
    (na : starEach [a] X.env = (false, eval a X.env) :: starEach [] X.env := by rfl) : PE X (.Call (.Name "len" p) [.Call (.Name "set" p2) [a] [] q] [] pos) (tLenSet X.K ta) := by
  refine ⟨fun pins s σ H Q I h => ?_⟩
  refine Call_ (ld_blt I hg hm PySem.boot_len ?_)
  refine PyProof.Rows.callWith_builtin1 (PyProof.Rows.args_cons ?_ rfl) rfl rfl
  refine Call_ (ld_blt I hg2 hm2 PyProof.Rows.boot_set ?_)
  refine PyProof.Rows.callWith_type1 (PyProof.Rows.args_cons (thn (ha.run pins s σ H _ I h) fun v s1 ⟨x, H1, I1, r1, q1⟩ => PyProof.Rows.args_nil ?_) na) na rfl
  obtain ⟨l, ns, rfl, hq, hl3, q1⟩ := q1
  cases r1
  rcases hq with hq | hq
  · obtain ⟨its, r, pl, hz⟩ := I1.list hq
    have hl : its.toArray.size = ns.length := by rw [List.size_toArray, ← r.length, List.length_map]
    refine call_set_list (I1.ok.hd hc) pl.isList (ns := ns) (by simpa using r.ints) (by unfold scanBound; omega) fun h' tk hS hk => ?_
    rw [hl] at hS
    refine PyProof.Rows.args_nil ?_
    obtain ⟨o, es, ep, t, ho, hex, hd, _, _, _, hf, hn⟩ := hS
    have I2 : L2.Inv X pins σ H1 { s1 with heap := h', toks := tk } := I1.kept fun b o e => hk b o (Heap.lt_size e) e
    rw [firstMet_len] at hn
    have hle : (ded ns).length ≤ ns.length := len_le_of_sub (ded_nodup ns) fun x hx => mem_ded.mp hx
    exact call_len_set ho hex hd hf (by rw [hn]; omega) ⟨.int ((ded ns).length : Nat), H1, I2.tok _, ⟨_, by rw [hn]⟩, q1⟩
  · obtain ⟨its, r, pl, hz⟩ := I1.tuple hq
    refine call_set_tupI ns (I1.ok.hd hc) pl (by simpa using r.ints) (by unfold scanBound; omega) fun h' tk c hS hcn hk => ?_
    refine PyProof.Rows.args_nil ?_
    obtain ⟨o, es, ep, t, ho, hex, hd, _, hnd, hmem, _, hf, hn, _⟩ := hS
    have I2 : L2.Inv X pins σ H1 { s1 with heap := h', toks := tk } := I1.kept fun b o e => hk b o e
    have hcnt : es.size = (ded ns).length := by
      have e1 : (es.toList.map keyOf).length = (ded ns).length := len_eq_of_same hnd (ded_nodup ns) fun x => by
        rw [← hmem x, mem_ded]; exact decide_eq_true_iff
      rw [List.length_map, Array.length_toList] at e1
      exact e1
    have hle : (ded ns).length ≤ ns.length := len_le_of_sub (ded_nodup ns) fun x hx => mem_ded.mp hx
    exact call_len_set ho hex hd hf (by rw [hcnt]; omega) ⟨.int ((ded ns).length : Nat), H1, I2.tok _, ⟨_, by rw [hcnt]⟩, q1⟩
theorem je_lenSet {m : M D} (hc : X.calm = true) (hg : Gl X "len") (hm : X.mg "len" = none) (hg2 : Gl X "set") (hm2 : X.mg "set" = none) (ha : PE X a (tE X.K cA W m))
    (na : starEach [a] X.env = (false, eval a X.env) :: starEach [] X.env := by rfl) : PE X (.Call (.Name "len" p) [.Call (.Name "set" p2) [a] [] q] [] pos) (tE X.K cA W (e1 dLenSet m)) := by
  refine pe_imp (pe_lenSet hc hg hm hg2 hm2 ha na) ?_
  rintro σ H Q ⟨G, ρ, env, S, hE, hS, h⟩
  refine ⟨G, ρ, env, S, hE, hS, Ok.bind h fun x S1 v ρ1 H1 r1 x1 k1 h1 => ?_⟩
  unfold dLenSet at h1
  split at h1
  · rename_i xs ex
    split at h1
    · rename_i ns en
      obtain ⟨l, ws, rfl, q1, q2⟩ := rep_seq r1 x1 ex
      rw [ints_map en] at q2
      rw [rep_ints q2] at q1
      by_cases hl : ns.length < 1000
      · rw [if_pos hl] at h1
        refine ⟨l, ns, rfl, ?_, hl, h1.now r1 rfl⟩
        by_cases ht : isTup x = true
        · rw [if_pos ht] at q1; exact .inr q1
        · rw [if_neg ht] at q1; exact .inl q1
      · rw [if_neg hl] at h1; exact h1.elim
    · exact h1.elim
  · exact h1.elim
end
/-! ### sorted(set(a list of pairs of ints)) -/
abbrev PI2 := Int × Int
def pD (x : PI2) : D := .tup [.int x.1, .int x.2]
def prs : List D → Option (List PI2)
  | [] => some []
  | .tup [.int i, .int j] :: r => (prs r).map ((i, j) :: ·)
  | _ :: _ => none
theorem prs_map : ∀ {ds : List D} {xs : List PI2}, prs ds = some xs → ds = xs.map pD := by
  intro ds
  induction ds with
  | nil => intro xs h; cases h; rfl
  | cons d r ih =>
    intro xs h
    unfold prs at h
    split at h
    · cases ‹_ = []›
    · rename_i i j r' e
      cases e
      cases e2 : prs r with
      | none => rw [e2] at h; cases h
      | some ys =>
        rw [e2] at h
        have h : some ((i, j) :: ys) = some xs := h
        cases h
        rw [ih e2]; rfl
    · cases h
@[simp] theorem prs_of : ∀ xs : List PI2, prs (xs.map pD) = some xs
  | [] => rfl
  | x :: xs => by show (prs (xs.map pD)).map ((x.1, x.2) :: ·) = _; rw [prs_of]; rfl
/-- lexicographic order of pairs -/
def leP (x y : PI2) : Bool := decide (x.1 < y.1 ∨ (x.1 = y.1 ∧ x.2 ≤ y.2))
def dedP : List PI2 → List PI2
  | [] => []
  | x :: r => if x ∈ r then dedP r else x :: dedP r
theorem mem_dedP {y : PI2} : ∀ {l : List PI2}, y ∈ dedP l ↔ y ∈ l
  | [] => Iff.rfl
  | x :: r => by
    unfold dedP
    by_cases h : x ∈ r
    · rw [if_pos h, mem_dedP (l := r), List.mem_cons]
      exact ⟨.inr, fun q => q.elim (fun e => e ▸ h) id⟩
    · rw [if_neg h, List.mem_cons, List.mem_cons, mem_dedP (l := r)]
theorem dedP_nodup : ∀ l : List PI2, (dedP l).Nodup
  | [] => List.nodup_nil
  | x :: r => by
    unfold dedP
    by_cases h : x ∈ r
    · rw [if_pos h]; exact dedP_nodup r
    · rw [if_neg h]; exact List.nodup_cons.mpr ⟨fun q => h (mem_dedP.mp q), dedP_nodup r⟩
def sortU (l : List PI2) : List PI2 := (dedP l).mergeSort leP
theorem leP_total (a b : PI2) : (leP a b || leP b a) = true := by
  unfold leP
  rw [Bool.or_eq_true, decide_eq_true_iff, decide_eq_true_iff]
  omega
theorem leP_trans (a b c : PI2) (h1 : leP a b = true) (h2 : leP b c = true) : leP a c = true := by
  unfold leP at *
  rw [decide_eq_true_iff] at *
  omega
theorem leP_anti {a b : PI2} (h1 : leP a b = true) (h2 : leP b a = true) : a = b := by
  unfold leP at *
  rw [decide_eq_true_iff] at *
  obtain ⟨a1, a2⟩ := a
  obtain ⟨b1, b2⟩ := b
  simp only at *
  have : a1 = b1 ∧ a2 = b2 := by omega
  rw [this.1, this.2]
theorem sortU_pw (l : List PI2) : (sortU l).Pairwise (fun a b => leP a b = true) := List.pairwise_mergeSort leP_trans leP_total _
theorem sortU_nodup (l : List PI2) : (sortU l).Nodup := (List.mergeSort_perm _ _).nodup_iff.mpr (dedP_nodup l)
theorem mem_sortU {x : PI2} {l : List PI2} : x ∈ sortU l ↔ x ∈ l := by
  unfold sortU
  rw [(List.mergeSort_perm _ _).mem_iff, mem_dedP]
theorem sorted_one : ∀ {l m : List PI2}, l.Nodup → m.Nodup → (∀ x, x ∈ l ↔ x ∈ m) → l.Pairwise (fun a b => leP a b = true) → m.Pairwise (fun a b => leP a b = true) → l = m
  | [], [], _, _, _, _, _ => rfl
  | [], y :: m, _, _, h, _, _ => absurd ((h y).mpr List.mem_cons_self) (by simp)
  | x :: l, [], _, _, h, _, _ => absurd ((h x).mp List.mem_cons_self) (by simp)
  | x :: l, y :: m, n1, n2, h, p1, p2 => by
    obtain ⟨a1, a2⟩ := List.pairwise_cons.mp p1
    obtain ⟨b1, b2⟩ := List.pairwise_cons.mp p2
    obtain ⟨c1, c2⟩ := List.nodup_cons.mp n1
    obtain ⟨d1, d2⟩ := List.nodup_cons.mp n2
    have e : x = y := by
      rcases List.mem_cons.mp ((h x).mp List.mem_cons_self) with z | z
      · exact z
      · rcases List.mem_cons.mp ((h y).mpr List.mem_cons_self) with w | w
        · exact w.symm
        · exact leP_anti (a1 y w) (b1 x z)
    subst e
    congr 1
    refine sorted_one c2 d2 (fun z => ⟨fun hz => ?_, fun hz => ?_⟩) a2 b2
    · rcases List.mem_cons.mp ((h z).mp (List.mem_cons_of_mem _ hz)) with w | w
      · exact absurd (w ▸ hz) c1
      · exact w
    · rcases List.mem_cons.mp ((h z).mpr (List.mem_cons_of_mem _ hz)) with w | w
      · exact absurd (w ▸ hz) d1
      · exact w
def inB (x : PI2) : Bool := decide (0 ≤ x.1 ∧ x.1 < 64 ∧ 0 ≤ x.2 ∧ x.2 < 64)
def fSortSet (d : D) (S : Store) : Res (List D) := match d with
  | .lst ds => (match prs ds with
    | some xs => if xs.length < 64 ∧ xs.all inB = true then .ok ((sortU xs).map pD) S else .bad
    | none => .bad)
  | _ => .bad
section
variable {X : Cx} {a : Expr} {p p2 q pos : Pos} {cA : Nat → Addr} {W : WX}
/-- the addresses of a list of pairs -/
theorem rep_pairs {K : PySem.W.Frag} {G : Addr → Prop} {ρ : List Addr} {H : Hp} : ∀ {xs : List PI2} {vs : List V}, RepL K G ρ H (xs.map pD) vs → ∃ ks : List (Addr × List Int), vs = ks.map (fun p => V.ref p.1) ∧ ks.map (·.2) = xs.map (fun x => [x.1, x.2]) ∧ ∀ p ∈ ks, Rd H p.1 (.tup (p.2.map V.int))
  | [], vs, h => ⟨[], h, rfl, fun p hp => nomatch hp⟩
  | x :: xs, vs, h => by
    obtain ⟨v, vs', rfl, h1, h2⟩ := h
    obtain ⟨ks, e1, e2, e3⟩ := rep_pairs h2
    obtain ⟨b, ws, rfl, q1, q2⟩ := h1
    have ew : ws = [V.int x.1, V.int x.2] := by
      obtain ⟨v1, _, rfl, z1, v2, _, rfl, z2, rfl⟩ := q2
      cases (show v1 = .int x.1 from z1)
      cases (show v2 = .int x.2 from z2)
      rfl
    subst ew
    refine ⟨(b, [x.1, x.2]) :: ks, by rw [e1]; rfl, by rw [List.map_cons, e2]; rfl, fun p hp => ?_⟩
    rcases List.mem_cons.mp hp with rfl | hp
    · exact q1
    · exact e3 p hp
theorem pairs_rep {K : PySem.W.Frag} {G : Addr → Prop} {ρ : List Addr} {H : Hp} : ∀ {ks : List (Addr × List Int)} {xs : List PI2}, ks.map (·.2) = xs.map (fun x => [x.1, x.2]) → (∀ p ∈ ks, Rd H p.1 (.tup (p.2.map V.int))) → RepL K G ρ H (xs.map pD) (ks.map fun p => V.ref p.1)
  | [], [], _, _ => rfl
  | [], x :: xs, e, _ => by cases e
  | k :: ks, [], e, _ => by cases e
  | k :: ks, x :: xs, e, h => by
    rw [List.map_cons, List.map_cons] at e
    injection e with ea eb
    refine ⟨.ref k.1, ks.map fun p => V.ref p.1, rfl, ⟨k.1, k.2.map V.int, rfl, h k List.mem_cons_self, ?_⟩, pairs_rep eb fun p hp => h p (List.mem_cons_of_mem _ hp)⟩
    rw [ea]
    exact ⟨_, _, rfl, rfl, _, _, rfl, rfl, rfl⟩
theorem jf_sortSet {m : M D} (hc : X.calm = true) (hu : X.A.units + 64 < cLine) (hg : Gl X "sorted") (hm : X.mg "sorted" = none) (hg2 : Gl X "set") (hm2 : X.mg "set" = none) (ha : PE X a (tE X.K cA W m))
    (hs : starEach [a] X.env = (false, eval a X.env) :: starEach [] X.env := by rfl) (hs1 : starEach [.Call (.Name "set" p2) [a] [] q] X.env = (false, eval (.Call (.Name "set" p2) [a] [] q) X.env) :: starEach [] X.env := by rfl) :
    PE X (.Call (.Name "sorted" p) [.Call (.Name "set" p2) [a] [] q] [] pos) (tFr X.K cA W (fun env S => (m env S).bind fun d S1 => fSortSet d S1)) := by
  refine pe_imp (pe_callB (cr_sortedT hc) hg hm (by decide +kernel) (pa_cons (pe_callTy (cr_setOfT hc hu) hg2 hm2 (by decide +kernel) (pa_cons ha pa_nil hs) (he := hs)) pa_nil hs1) (he := hs1)) ?_
  rintro σ H Q ⟨G, ρ, env, S, hE, hS, h⟩
  refine ⟨G, ρ, env, S, hE, hS, OkF.bind h fun x S1 v ρ1 H1 r1 x1 k1 h1 => ?_⟩
  unfold fSortSet at h1
  split at h1
  · rename_i ds
    split at h1
    · rename_i xs ex
      by_cases hl : xs.length < 64 ∧ xs.all inB = true
      · rw [if_pos hl] at h1
        obtain ⟨b, vs, rfl, q1, q2⟩ := x1
        rw [prs_map ex] at q2
        obtain ⟨ks, e1, e2, e3⟩ := rep_pairs q2
        have hkl : ks.length = xs.length := by rw [← List.length_map (f := (·.2)), e2, List.length_map]
        refine ⟨b, ks, rfl, by rw [← e1]; exact q1.sq, fun p hp => .inl (e3 p hp), by rw [hkl]; exact hl.1, fun sA L hn hL1 hL2 => ?_⟩
        have kN : Keep G ρ1 H1 ρ1 (upd H1 sA (SetTO X.prog X.w sA L)) := Keep.new hn r1.gt
        have mem_xs : ∀ p ∈ ks, ∃ x ∈ xs, p.2 = [x.1, x.2] := fun p hp => by
          have : p.2 ∈ ks.map (·.2) := List.mem_map.mpr ⟨p, hp, rfl⟩
          rw [e2] at this
          obtain ⟨x, hx, ex⟩ := List.mem_map.mp this
          exact ⟨x, hx, ex.symm⟩
        have bnd : ∀ x ∈ xs, 0 ≤ x.1 ∧ x.1 < 64 ∧ 0 ≤ x.2 ∧ x.2 < 64 := fun x hx => of_decide_eq_true (List.all_eq_true.mp hl.2 x hx)
        refine ⟨sA, L, 2, 64, rfl, upd_same, fun p hp => kN.sqT (.inl (e3 p (hL1 p hp))), by decide, fun p hp => ?_, fun L' pA hperm hnd h64 hpw hn2 => ?_⟩
        · obtain ⟨x, hx, ep⟩ := mem_xs p (hL1 p hp)
          have hb := bnd x hx
          rw [ep]
          refine ⟨rfl, ?_⟩
          intro y hy
          simp at hy
          rcases hy with rfl | rfl
          · exact ⟨hb.1, hb.2.1⟩
          · exact ⟨hb.2.2.1, hb.2.2.2⟩
        · -- the list is the sorted one
          have hL'k : ∀ p ∈ L', p ∈ ks := fun p hp => hL1 p (hperm.mem_iff.mp hp)
          obtain ⟨ys, ey, hys⟩ : ∃ ys : List PI2, L'.map (·.2) = ys.map (fun x => [x.1, x.2]) ∧ ∀ y ∈ ys, y ∈ xs := by
            clear hpw h64 hnd hperm
            induction L' with
            | nil => exact ⟨[], rfl, fun y hy => nomatch hy⟩
            | cons p L' ih =>
              obtain ⟨ys, ey, hys⟩ := ih fun q hq => hL'k q (List.mem_cons_of_mem _ hq)
              obtain ⟨x, hx, ep⟩ := mem_xs p (hL'k p List.mem_cons_self)
              refine ⟨x :: ys, by rw [List.map_cons, List.map_cons, ey, ep], fun y hy => ?_⟩
              rcases List.mem_cons.mp hy with rfl | hy
              · exact hx
              · exact hys y hy
          have inj : ∀ x y : PI2, ([x.1, x.2] : List Int) = [y.1, y.2] → x = y := fun x y e => by
            injection e with e1 e2
            injection e2 with e2 _
            exact Prod.ext e1 e2
          have ynd : ys.Nodup := by
            rw [ey] at hnd
            exact List.Pairwise.of_map (fun x : PI2 => ([x.1, x.2] : List Int)) (fun a b hne e => hne (by rw [e])) hnd
          have ymem : ∀ x, x ∈ ys ↔ x ∈ xs := fun x => by
            refine ⟨hys x, fun hx => ?_⟩
            have h1 : ([x.1, x.2] : List Int) ∈ ks.map (·.2) := by rw [e2]; exact List.mem_map.mpr ⟨x, hx, rfl⟩
            obtain ⟨p, hp, ep⟩ := List.mem_map.mp h1
            have h2 := hL2 p hp
            rw [ep] at h2
            have h3 : ([x.1, x.2] : List Int) ∈ L'.map (·.2) := (hperm.map (·.2)).mem_iff.mpr h2
            rw [ey] at h3
            obtain ⟨y, hy, e⟩ := List.mem_map.mp h3
            rw [← inj y x e]; exact hy
          have ypw : ys.Pairwise (fun a b => leP a b = true) := by
            have hpw2 : (L'.map (·.2)).Pairwise (fun u v => TS.code 64 u ≤ TS.code 64 v) := List.pairwise_map.mpr hpw
            rw [ey, List.pairwise_map] at hpw2
            refine List.Pairwise.imp_of_mem (fun {a b} ha hb hab => ?_) hpw2
            have ba := bnd a (hys a ha)
            have bb := bnd b (hys b hb)
            rw [code_pair, code_pair] at hab
            unfold leP
            rw [decide_eq_true_iff]
            omega
          have eys : ys = sortU xs := sorted_one ynd (sortU_nodup xs) (fun x => by rw [ymem x, mem_sortU]) ypw (sortU_pw xs)
          refine h1 pA (L'.map fun q => V.ref q.1) ρ1 _ (r1.new hn) ?_ kN hn2
          rw [← eys]
          exact RepL.keep kN _ _ (pairs_rep ey fun p hp => e3 p (hL'k p hp))
      · rw [if_neg hl] at h1; exact h1.elim
    · exact h1.elim
  · exact h1.elim
/-! ### xs.append(e), and its like -/
def cellOf (S : Store) : D → Option (Nat × List D)
  | .cell n => match S[n]? with
    | some (.lst ds) => some (n, ds)
    | _ => none
  | _ => none
theorem cellOf_some {S : Store} {d : D} {n : Nat} {ds : List D} (h : cellOf S d = some (n, ds)) : d = .cell n ∧ S[n]? = some (.lst ds) := by
  cases d with
  | cell k =>
    unfold cellOf at h
    dsimp only at h
    cases e : S[k]? with
    | none => rw [e] at h; cases h
    | some o =>
      rw [e] at h
      cases o with
      | lst xs => cases h; exact ⟨rfl, e⟩
      | dK kvs => cases h
  | _ => cases h
def MtD (K : PySem.W.Frag) (r : V → List V → Hp → VK → Prop) (f : D → List D → Store → Res D) : Prop :=
  ∀ G ρ H S d ds v vs E Q, RelS K G ρ S H → Rep K G ρ H d v → RepL K G ρ H ds vs → Ok K G (Rep K G) ρ H (f d ds S) E Q → r v vs H Q
def eMt (f : D → List D → Store → Res D) (T : D → Store → Bool) (mo : M D) (ma : M (List D)) : M D := fun env S => (mo env S).bind fun o S1 => if T o S1 = true then (ma env S1).bind fun xs S2 => f o xs S2 else .bad
def isLst (d : D) (S : Store) : Bool := (seqOf S d).isSome && !isTup d
def isTupB (d : D) (_ : Store) : Bool := isTup d
def TyD (K : PySem.W.Frag) (T : String) (t : D → Store → Bool) : Prop := ∀ G ρ H S d v, RelS K G ρ S H → Rep K G ρ H d v → t d S = true → tyV K T v H
theorem tyd_list {K : PySem.W.Frag} : TyD K "list" isLst := by
  intro G ρ H S d v r x h
  unfold isLst at h
  rw [Bool.and_eq_true] at h
  cases e : seqOf S d with
  | none => rw [e] at h; cases h.1
  | some xs =>
    obtain ⟨a, vs, rfl, h1, h2⟩ := rep_seq r x e
    have ht : isTup d = false := by simpa using h.2
    rw [if_neg (by rw [ht]; decide)] at h1
    exact .inl ⟨rfl, _, h1⟩
theorem je_mt {o e : Expr} {es : List Expr} {T : String} {name : Str} {apos : Pos} {mo : M D} {ma : M (List D)} {r : V → List V → Hp → VK → Prop} {f : D → List D → Store → Res D} {t : D → Store → Bool} (hty' : TyD X.K T t) (hd : MtD X.K r f)
    (hpe : PE X (.Call (.Attribute o name apos) (e :: es) [] pos) (tBM X.K T r (tE X.K cA W mo) (tAr X.K cA W ma))) : PE X (.Call (.Attribute o name apos) (e :: es) [] pos) (tE X.K cA W (eMt f t mo ma)) := by
  refine pe_imp hpe ?_
  rintro σ H Q ⟨G, ρ, env, S, hE, hS, h⟩
  refine ⟨G, ρ, env, S, hE, hS, Ok.bind h fun x S1 v ρ1 H1 r1 x1 k1 h1 => ?_⟩
  by_cases ht : t x S1 = true
  · rw [if_pos ht] at h1
    refine ⟨hty' G ρ1 H1 S1 x v r1 x1 ht, G, ρ1, env, S1, hE.keep k1, r1, Ok.bind h1 fun xs S2 vs ρ2 H2 r2 x2 k2 h2 => ?_⟩
    exact hd G ρ2 H2 S2 x xs v vs _ Q r2 (Rep.keep k2 _ _ x1) x2 h2
  · rw [if_neg ht] at h1; exact h1.elim
def dAppend (d : D) (xs : List D) (S : Store) : Res D := match cellOf S d, xs with
  | some (n, ds), [y] => if ds.length < big then .ok .non (S.set n (.lst (ds ++ [y]))) else .bad
  | _, _ => .bad
theorem md_append {K : PySem.W.Frag} : MtD K rAppend dAppend := by
  intro G ρ H S d ds v vs E Q r x1 x2 h
  unfold dAppend at h
  split at h
  · rename_i n xs y ec
    obtain ⟨rfl, eS⟩ := cellOf_some ec
    obtain ⟨a, rfl, ha⟩ := x1
    obtain ⟨w, _, rfl, q1, rfl⟩ := x2
    obtain ⟨ws, h1, h2⟩ := r.ob n _ a eS ha
    by_cases hl : xs.length < big
    · rw [if_pos hl] at h
      refine ⟨a, ws, w, rfl, rfl, h1, by rw [h2.length]; exact big_lt hl, ?_⟩
      have k : Keep G ρ H ρ (upd H a (.lst (ws ++ [w]))) := Keep.write (List.mem_of_getElem? ha) (r.ng a (List.mem_of_getElem? ha)) (.inl ⟨_, h1⟩)
      obtain ⟨r', k'⟩ := r.write (o := .lst (xs ++ [y])) (u := .lst (ws ++ [w])) ha (.inl ⟨_, h1⟩) ⟨_, upd_same, RepL.keep k _ _ (h2.snoc q1)⟩
      exact h .non ρ _ r' rfl k'
    · rw [if_neg hl] at h; exact h.elim
  · exact h.elim
def dSetL (o i v : D) (S : Store) : Option Store := match cellOf S o, i with
  | some (n, ds), .int k => (match ixN ds.length k with
    | some j => some (S.set n (.lst (ds.set j v)))
    | none => none)
  | _, _ => none
theorem sd_setL {K : PySem.W.Frag} : SetD K rSetL dSetL := by
  intro G ρ H S do_ di dv o i v S' r x1 x2 x3 e Q q
  unfold dSetL at e
  split at e
  · rename_i n ds k ec
    obtain ⟨rfl, eS⟩ := cellOf_some ec
    obtain ⟨a, rfl, ha⟩ := x1
    cases (show i = .int k from x2)
    obtain ⟨ws, h1, h2⟩ := r.ob n _ a eS ha
    split at e
    · rename_i j ej
      cases e
      refine ⟨a, ws, k, j, rfl, rfl, h1, by rw [h2.length]; exact ej, ?_⟩
      have kk : Keep G ρ H ρ (upd H a (.lst (ws.set j v))) := Keep.write (List.mem_of_getElem? ha) (r.ng a (List.mem_of_getElem? ha)) (.inl ⟨_, h1⟩)
      obtain ⟨r', k'⟩ := r.write (o := .lst (ds.set j dv)) (u := .lst (ws.set j v)) ha (.inl ⟨_, h1⟩) ⟨_, upd_same, RepL.keep kk _ _ (h2.set j x3)⟩
      exact q _ r' k'
    · cases e
  · cases e
end
end Rf

namespace Rf
open PySem PySem.Spec PyProof.Rows L2
section
variable {X : Cx} {a b c d : Expr} {pos : Pos} {cA : Nat → Addr} {W : WX}
/-! ### chains of comparisons -/
def eChain (f g : D → D → Store → Res D) (ma mb mc : M D) : M D := fun env S => (ma env S).bind fun x S1 => (mb env S1).bind fun y S2 => (f x y S2).bind fun k S3 => match k with
  | .bl true => (mc env S3).bind fun z S4 => g y z S4
  | .bl false => .ok (.bl false) S3
  | _ => .bad
theorem chain_read {r r' : R2} {f g : D → D → Store → Res D} {ma mb mc : M D} (hd : OpD X.K r f) (hd' : OpD X.K r' g) : ∀ σ H Q, tE X.K cA W (eChain f g ma mb mc) σ H Q → tChain r r' (tE X.K cA W ma) (tE X.K cA W mb) (tE X.K cA W mc) σ H Q := by
  rintro σ H Q ⟨G, ρ, env, S, hE, hS, h⟩
  refine ⟨G, ρ, env, S, hE, hS, Ok.bind h fun x S1 v ρ1 H1 r1 x1 k1 h1 => ?_⟩
  refine ⟨G, ρ1, env, S1, hE.keep k1, r1, Ok.bind h1 fun y S2 u ρ2 H2 r2 x2 k2 h2 => ?_⟩
  refine hd G ρ2 H2 S2 x y v u (WE' cA W σ) _ r2 (Rep.keep k2 x v x1) x2 (Ok.bind h2 fun k S3 w ρ3 H3 r3 x3 k3 h3 => ?_)
  cases k with
  | bl k =>
    cases (show w = .bl k from x3)
    cases k with
    | true =>
      refine ⟨true, rfl, iteT ⟨G, ρ3, env, S3, ((hE.keep k1).keep k2).keep k3, r3, Ok.bind h3 fun z S4 t ρ4 H4 r4 x4 k4 h4 => ?_⟩⟩
      exact hd' G ρ4 H4 S4 y z u t _ Q r4 (Rep.keep (k3.trans k4) y u x2) x4 h4
    | false => exact ⟨false, rfl, iteF (h3.now r3 rfl)⟩
  | _ => exact h3.elim
theorem je_chain {op op' : CmpOp} {r r' : R2} {f g : D → D → Store → Res D} {ma mb mc : M D} (ho : OpR X (compareOp op) r) (hd : OpD X.K r f) (ho' : OpR X (compareOp op') r') (hd' : OpD X.K r' g) (ha : PE X a (tE X.K cA W ma)) (hb : PE X b (tE X.K cA W mb)) (hc : PE X c (tE X.K cA W mc))
    (hm : lastMarks [op, op'] [b, c] = false := by with_unfolding_all rfl) : PE X (.Compare a [op, op'] [b, c] pos) (tE X.K cA W (eChain f g ma mb mc)) :=
  pe_imp (pe_chain ho ho' ha hb hc hm) (chain_read hd hd')
theorem jt_chain {op op' : CmpOp} {r r' : R2} {f g : D → D → Store → Res D} {ma mb mc : M D} (ho : OpR X (compareOp op) r) (hd : OpD X.K r f) (ho' : OpR X (compareOp op') r') (hd' : OpD X.K r' g) (ha : PE X a (tE X.K cA W ma)) (hb : PE X b (tE X.K cA W mb)) (hc : PE X c (tE X.K cA W mc))
    (hm : lastMarks [op, op'] [b, c] = false := by with_unfolding_all rfl) : PT X (.Compare a [op, op'] [b, c] pos) (tT X.K cA W (tst (eChain f g ma mb mc))) :=
  pt_imp (pt_chain ho ho' ha hb hc hm) fun σ H Q h => chain_read hd hd' _ _ _ (test_read σ H Q h)
def tChain3 (r1 r2 r3 : R2) (ta tb tc td : TE) : TE := fun σ H Q => ta σ H fun x H1 => tb σ H1 fun y H2 => r1 x y H2 fun k1 H3 => ∃ b1, k1 = .bl b1 ∧
  (if b1 = true then tc σ H3 fun z H4 => r2 y z H4 fun k2 H5 => ∃ b2, k2 = .bl b2 ∧ (if b2 = true then td σ H5 fun w' H6 => r3 z w' H6 Q else Q (.bl false) H5) else Q (.bl false) H3)
theorem pe_chain3 {op1 op2 op3 : CmpOp} {r1 r2 r3 : R2} {ta tb tc td : TE} (h1 : OpR X (compareOp op1) r1) (h2 : OpR X (compareOp op2) r2) (h3 : OpR X (compareOp op3) r3) (ha : PE X a ta) (hb : PE X b tb) (hc : PE X c tc) (hd : PE X d td)
    (hm : lastMarks [op1, op2, op3] [b, c, d] = false := by with_unfolding_all rfl) (he : evalEach [d] X.env = [eval d X.env] := by rfl) : PE X (.Compare a [op1, op2, op3] [b, c, d] pos) (tChain3 r1 r2 r3 ta tb tc td) := by
  refine ⟨fun pins s σ H Q I h => ?_⟩
  refine Compare_chain (thn (ha.run pins s σ H _ I h) fun v s1 ⟨x, H1, I1, q1, h⟩ => ?_) hm
  rw [he]
  refine chain_link (thn (hb.run pins s1 σ H1 _ I1 h) fun u s2 ⟨y, H2, I2, q2, h⟩ => thn (h1 pins s2 σ H2 x y v u _ I2 q1 q2 h) fun k s3 ⟨z, H3, I3, q3, b1, e, h⟩ => ?_)
  subst e
  cases q3
  refine wpAny_truthy_bool ?_
  cases b1 with
  | false => exact ite_ff ⟨.bl false, H3, I3, rfl, h⟩
  | true =>
    refine ite_tt (chain_link (thn (hc.run pins s3 σ H3 _ I3 h) fun u2 s4 ⟨z2, H4, I4, q4, h⟩ => thn (h2 pins s4 σ H4 y z2 u u2 _ I4 q2 q4 h) fun k s5 ⟨z3, H5, I5, q5, b2, e, h⟩ => ?_))
    subst e
    cases q5
    refine wpAny_truthy_bool ?_
    cases b2 with
    | false => exact ite_ff ⟨.bl false, H5, I5, rfl, h⟩
    | true => exact ite_tt (chain_last (thn (hd.run pins s5 σ H5 _ I5 h) fun w' s6 ⟨z4, H6, I6, q6, h⟩ => h3 pins s6 σ H6 z2 z4 u2 w' Q I6 q4 q6 h))
def eChain3 (f g h : D → D → Store → Res D) (ma mb mc md : M D) : M D := fun env S => (ma env S).bind fun x S1 => (mb env S1).bind fun y S2 => (f x y S2).bind fun k S3 => match k with
  | .bl true => (mc env S3).bind fun z S4 => (g y z S4).bind fun k2 S5 => (match k2 with
    | .bl true => (md env S5).bind fun w S6 => h z w S6
    | .bl false => .ok (.bl false) S5
    | _ => .bad)
  | .bl false => .ok (.bl false) S3
  | _ => .bad
theorem je_chain3 {op1 op2 op3 : CmpOp} {r1 r2 r3 : R2} {f g h : D → D → Store → Res D} {ma mb mc md : M D} (h1 : OpR X (compareOp op1) r1) (d1 : OpD X.K r1 f) (h2 : OpR X (compareOp op2) r2) (d2 : OpD X.K r2 g) (h3 : OpR X (compareOp op3) r3) (d3 : OpD X.K r3 h) (ha : PE X a (tE X.K cA W ma)) (hb : PE X b (tE X.K cA W mb)) (hc : PE X c (tE X.K cA W mc)) (hd : PE X d (tE X.K cA W md))
    (hm : lastMarks [op1, op2, op3] [b, c, d] = false := by with_unfolding_all rfl) (he : evalEach [d] X.env = [eval d X.env] := by rfl) : PE X (.Compare a [op1, op2, op3] [b, c, d] pos) (tE X.K cA W (eChain3 f g h ma mb mc md)) := by
  refine pe_imp (pe_chain3 h1 h2 h3 ha hb hc hd hm he) ?_
  rintro σ H Q ⟨G, ρ, env, S, hE, hS, h⟩
  refine ⟨G, ρ, env, S, hE, hS, Ok.bind h fun x S1 v ρ1 H1 r1 x1 k1 h1 => ?_⟩
  refine ⟨G, ρ1, env, S1, hE.keep k1, r1, Ok.bind h1 fun y S2 u ρ2 H2 r2 x2 k2 h2 => ?_⟩
  refine d1 G ρ2 H2 S2 x y v u (WE' cA W σ) _ r2 (Rep.keep k2 x v x1) x2 (Ok.bind h2 fun k S3 w ρ3 H3 r3 x3 k3 h3 => ?_)
  cases k with
  | bl k =>
    cases (show w = .bl k from x3)
    cases k with
    | true =>
      refine ⟨true, rfl, iteT ⟨G, ρ3, env, S3, ((hE.keep k1).keep k2).keep k3, r3, Ok.bind h3 fun z S4 t ρ4 H4 r4 x4 k4 h4 => ?_⟩⟩
      refine d2 G ρ4 H4 S4 y z u t (WE' cA W σ) _ r4 (Rep.keep (k3.trans k4) y u x2) x4 (Ok.bind h4 fun k S5 w ρ5 H5 r5 x5 k5 h5 => ?_)
      cases k with
      | bl k =>
        cases (show w = .bl k from x5)
        cases k with
        | true =>
          refine ⟨true, rfl, iteT ⟨G, ρ5, env, S5, ((((hE.keep k1).keep k2).keep k3).keep k4).keep k5, r5, Ok.bind h5 fun z2 S6 t2 ρ6 H6 r6 x6 k6 h6 => ?_⟩⟩
          exact d3 G ρ6 H6 S6 z z2 t t2 _ Q r6 (Rep.keep (k5.trans k6) z t x4) x6 h6
        | false => exact ⟨false, rfl, iteF (h5.now r5 rfl)⟩
      | _ => exact h5.elim
    | false => exact ⟨false, rfl, iteF (h3.now r3 rfl)⟩
  | _ => exact h3.elim
/-! ### is None -/
def isNon : D → Bool
  | .non => true
  | _ => false
def dIsN (neg : Bool) (d e : D) (S : Store) : Res D := match e with
  | .non => .ok (.bl (if neg then !isNon d else isNon d)) S
  | _ => .bad
theorem rep_non {K : PySem.W.Frag} {G : Addr → Prop} {ρ : List Addr} {H : Hp} {d : D} {v : V} (h : Rep K G ρ H d v) : decide (v = .non) = isNon d := by
  cases d with
  | non => rw [show v = .non from h]; rfl
  | bl b => rw [show v = .bl b from h]; rfl
  | int b => rw [show v = .int b from h]; rfl
  | str b => rw [show v = .str b from h]; rfl
  | ty b => rw [show v = .ty b from h]; rfl
  | tup ds => obtain ⟨a, vs, rfl, _⟩ := h; rfl
  | lst ds => obtain ⟨a, vs, rfl, _⟩ := h; rfl
  | fz ds => obtain ⟨a, vs, rfl, _⟩ := h; rfl
  | cell n => obtain ⟨a, rfl, _⟩ := h; rfl
theorem od_isN {K : PySem.W.Frag} : OpD K (fun x y H Q => y = .non ∧ Q (.bl (decide (x = .non))) H) (dIsN false) := by
  intro G ρ H S d1 d2 v1 v2 E Q r x1 x2 h
  cases d2 with
  | non => exact ⟨x2, by rw [rep_non x1]; exact h.now r rfl⟩
  | _ => exact h.elim
theorem od_notN {K : PySem.W.Frag} : OpD K (fun x y H Q => y = .non ∧ Q (.bl (!decide (x = .non))) H) (dIsN true) := by
  intro G ρ H S d1 d2 v1 v2 E Q r x1 x2 h
  cases d2 with
  | non => exact ⟨x2, by rw [rep_non x1]; exact h.now r rfl⟩
  | _ => exact h.elim
/-! ### sum, all, any of a list -/
def dSum (ds : List D) (S : Store) : Res D := match ds with
  | [d] => (match isTup d, seqOf S d with
    | false, some xs => (match nums xs with
      | some ns => .ok (.int ns.sum) S
      | none => .bad)
    | _, _ => .bad)
  | _ => .bad
theorem cd_sum {K : PySem.W.Frag} : CallD K (rSum K) dSum := by
  intro G ρ H S ds vs E Q r x h
  unfold dSum at h
  split at h
  · rename_i d
    obtain ⟨v, _, rfl, q1, rfl⟩ := x
    split at h
    · rename_i xs ht es
      split at h
      · rename_i ns en
        obtain ⟨a, ws, rfl, h1, h2⟩ := rep_seq r q1 es
        rw [if_neg (by rw [ht]; decide), ] at h1
        rw [ints_map en] at h2
        rw [rep_ints h2] at h1
        exact ⟨a, ns, rfl, h1, h.now r rfl⟩
      · exact h.elim
    · exact h.elim
  · exact h.elim
def bls : List D → Option (List Bool)
  | [] => some []
  | .bl i :: r => (bls r).map (i :: ·)
  | _ :: _ => none
theorem bls_map : ∀ {ds : List D} {ns : List Bool}, bls ds = some ns → ds = ns.map .bl := by
  intro ds
  induction ds with
  | nil => intro ns h; cases h; rfl
  | cons d r ih =>
    intro ns h
    cases d with
    | bl i =>
      unfold bls at h
      cases e : bls r with
      | none => rw [e] at h; cases h
      | some ms =>
        rw [e] at h
        have h : some (i :: ms) = some ns := h
        cases h
        rw [ih e]; rfl
    | _ => cases h
@[simp] theorem bls_of : ∀ ns : List Bool, bls (ns.map .bl) = some ns
  | [] => rfl
  | n :: ns => by show (bls (ns.map .bl)).map (n :: ·) = _; rw [bls_of]; rfl
theorem rep_bls {K : PySem.W.Frag} {G : Addr → Prop} {ρ : List Addr} {H : Hp} : ∀ {ns : List Bool} {vs : List V}, RepL K G ρ H (ns.map .bl) vs → vs = ns.map V.bl
  | [], vs, h => h
  | n :: ns, vs, h => by
    obtain ⟨v, vs', rfl, h1, h2⟩ := h
    cases (show v = .bl n from h1)
    rw [rep_bls h2]; rfl
def dAll (any : Bool) (ds : List D) (S : Store) : Res D := match ds with
  | [d] => (match isTup d, seqOf S d with
    | false, some xs => (match bls xs with
      | some ns => .ok (.bl (if any = true then ns.any id else ns.all id)) S
      | none => .bad)
    | _, _ => .bad)
  | _ => .bad
theorem cd_all {K : PySem.W.Frag} : CallD K (rAll K) (dAll false) := by
  intro G ρ H S ds vs E Q r x h
  unfold dAll at h
  split at h
  · rename_i d
    obtain ⟨v, _, rfl, q1, rfl⟩ := x
    split at h
    · rename_i xs ht es
      split at h
      · rename_i ns en
        obtain ⟨a, ws, rfl, h1, h2⟩ := rep_seq r q1 es
        rw [if_neg (by rw [ht]; decide), ] at h1
        rw [bls_map en] at h2
        rw [rep_bls h2] at h1
        exact ⟨a, ns, rfl, h1, h.now r rfl⟩
      · exact h.elim
    · exact h.elim
  · exact h.elim
end
end Rf

namespace Rf
open PySem PySem.Spec PyProof.Rows L2
theorem hu65 {k : Nat} {A : Around} (hr : Room k A) : A.units + 65 < cLine := by have := hr.un; omega
def fuel0 : Nat := 1000000
theorem no_cx {P : Program} {w : World} {l : List Env} {H : Hp} {s : Shared} {e : Value} {s' : Shared} (h : L2.CX P w l H s (fun _ _ _ => False) e s') : False := by
  obtain ⟨_, _, _, _, _, _, _, _, _, _, _, _, z⟩ := h
  exact z
theorem rep_script {K : PySem.W.Frag} {G : Addr → Prop} {ρ : List Addr} {H : Hp} : ∀ ns : List Int, RepL K G ρ H (ns.map .int) (ns.map V.int)
  | [] => rfl
  | n :: ns => ⟨.int n, ns.map V.int, rfl, rfl, rep_script ns⟩
theorem law_sp {K : PySem.W.Frag} {cA : Nat → Addr} {m : List D → Store → Res D} {H : Hp} {a : Addr} {ns : List Int} {E : XK} (hm : ∃ S', m [.fz (ns.map .int)] [] = .ok (.bl true) S') (hO : Only H) (hS : SqL K H a (ns.map V.int)) :
    spF K cA 1 m [.ref a] H (fun v _ => v = .bl true) E := by
  obtain ⟨S', e⟩ := hm
  have hz : FzL K H a (ns.map V.int) := by
    rcases hS with (h | h) | h
    · rcases hO a with q | ⟨o, xs, q⟩
      · rw [h] at q; cases q
      · rw [h] at q; cases q
    · exact .inl h
    · exact .inr h
  refine ⟨rfl, fun _ => False, [], [], [.fz (ns.map .int)], ⟨rfl, List.nodup_nil, (fun _ h => nomatch h), (fun _ h => h.elim), (fun b o e => by
    rcases hO b with q | ⟨o', xs, q⟩
    · rw [e] at q; cases q
    · rw [e] at q; cases q; exact True.intro), fun i o b h => by simp at h⟩, ⟨.ref a, [], rfl, ⟨a, _, rfl, hz, rep_script ns⟩, rfl⟩, ?_⟩
  rw [e]
  intro v ρ' H' _ hv _
  exact hv
end Rf

namespace Rf
open PySem PySem.Spec PyProof.Rows L2
/-! ### how a def ends -/
theorem fin_val {S S' : Store} {d : D} (h : stOk S S') (hp : pureD d = true) : fin .val S d S' = .ok d (S'.take S.length) := by
  unfold fin
  rw [if_pos h]
  dsimp only
  rw [if_pos hp]
theorem run_pure {N : Nat} {body : MS} {ds : List D} {S : Store} {d : D} (h : body (ds.map some ++ List.replicate (N - ds.length) none) S = .ret d S) (hp : pureD d = true) : runFn .val N body ds S = .ok d S := by
  unfold runFn
  rw [h]
  show fin .val S d S = _
  rw [fin_val (stOk_refl S) hp, List.take_length]
/-- with lists of its own -/
theorem run_loc {N : Nat} {body : MS} {ds : List D} {S L : Store} {d : D} (h : body (ds.map some ++ List.replicate (N - ds.length) none) S = .ret d (S ++ L)) (hp : pureD d = true) : runFn .val N body ds S = .ok d S := by
  unfold runFn
  rw [h]
  show fin .val S d (S ++ L) = _
  rw [fin_val (stOk_app S L) hp, List.take_left]
theorem stOk_set {S L : Store} {k : Nat} {xs : List D} (hp : pureL xs = true) : stOk S (S.set k (.lst xs) ++ L) := by
  refine ⟨by simp, fun i hi => ?_⟩
  rw [List.getElem?_append_left (by simpa using hi)]
  by_cases e : i = k
  · subst e
    exact .inr ⟨.lst xs, by rw [List.getElem?_set_self hi], hp⟩
  · exact .inl (List.getElem?_set_ne (Ne.symm e))
/-- .. and one of the caller's changed -/
theorem run_set {N : Nat} {body : MS} {ds : List D} {S L : Store} {d : D} {k : Nat} {xs : List D} (h : body (ds.map some ++ List.replicate (N - ds.length) none) S = .ret d (S.set k (.lst xs) ++ L)) (hp : pureD d = true) (hx : pureL xs = true) : runFn .val N body ds S = .ok d (S.set k (.lst xs)) := by
  unfold runFn
  rw [h]
  show fin .val S d _ = _
  rw [fin_val (stOk_set hx) hp]
  have e : S.length = (S.set k (.lst xs)).length := by simp
  rw [e, List.take_left]
theorem run_own {N : Nat} {body : MS} {ds : List D} {S : Store} {xs : List D} (h : body (ds.map some ++ List.replicate (N - ds.length) none) S = .ret (.cell S.length) (S ++ [.lst xs])) (hx : pureL xs = true) : runFn .own N body ds S = .ok (.cell S.length) (S ++ [.lst xs]) := by
  unfold runFn
  rw [h]
  show fin .own S _ _ = _
  unfold fin
  rw [if_pos (stOk_app S _)]
  dsimp only
  rw [if_pos (Nat.le_refl _)]
  have e : (S ++ [Ob.lst xs])[S.length]? = some (.lst xs) := by rw [List.getElem?_append_right (Nat.le_refl _)]; simp
  rw [e]
  dsimp only
  rw [if_pos hx, List.take_left]
@[simp] theorem pureL_map {α : Type} {f : α → D} (h : ∀ x, pureD (f x) = true) : ∀ l : List α, pureL (l.map f) = true
  | [] => rfl
  | x :: l => by show (pureD (f x) && pureL (l.map f)) = true; rw [h x, pureL_map h l]; rfl
/-! ### loops -/
/-- a loop whose turn brings the slots back; the store by a fold -/
theorem loop_fold {p : Pat} {body : MS} {dead : List Nat} {env : En} {α : Type} (st : α → Store) (step : α → D → α) (I : α → Prop) : ∀ (ds : List D) (a : α), I a →
    (∀ d ∈ ds, ∀ a, I a → I (step a d) ∧ ∃ e1 e2, p d env = some e1 ∧ (body e1 (st a) = .next e2 (st (step a d)) ∨ body e1 (st a) = .cont e2 (st (step a d))) ∧ clr e2 dead = env) →
    loopD p body dead (fun _ => True) ds env (st a) = .next env (st (ds.foldl step a)) ∧ I (ds.foldl step a)
  | [], a, hI, _ => ⟨by unfold loopD; rw [if_pos trivial]; rfl, hI⟩
  | d :: ds, a, hI, h => by
    obtain ⟨hI2, e1, e2, q1, q2, q3⟩ := h d List.mem_cons_self a hI
    have ih := loop_fold st step I ds (step a d) hI2 fun d' hd => h d' (List.mem_cons_of_mem _ hd)
    refine ⟨?_, ih.2⟩
    unfold loopD
    rw [if_pos trivial, q1]
    dsimp only
    rcases q2 with q2 | q2
    · rw [q2]
      dsimp only
      rw [q3]
      exact ih.1
    · rw [q2]
      dsimp only
      rw [q3]
      exact ih.1
theorem chk_nil (ds : List D) : (IT.chk ⟨ds, []⟩) = fun _ => True := by
  funext S
  unfold IT.chk
  apply propext
  constructor
  · exact fun _ => trivial
  · intro _ p hp
    cases hp
/-- a loop by what holds of the store behind each part -/
theorem loop_inv {p : Pat} {body : MS} {dead : List Nat} {env : En} (I : List D → Store → Prop) : ∀ (post pre : List D) (S : Store), I pre S →
    (∀ pre1 d post1, pre ++ post = pre1 ++ d :: post1 → ∀ S, I pre1 S → ∃ e1 e2 S2, p d env = some e1 ∧ (body e1 S = .next e2 S2 ∨ body e1 S = .cont e2 S2) ∧ clr e2 dead = env ∧ I (pre1 ++ [d]) S2) →
    ∃ S', loopD p body dead (fun _ => True) post env S = .next env S' ∧ I (pre ++ post) S'
  | [], pre, S, h, _ => ⟨S, by unfold loopD; rw [if_pos trivial], by rw [List.append_nil]; exact h⟩
  | d :: post, pre, S, h, hs => by
    obtain ⟨e1, e2, S2, q1, q2, q3, q4⟩ := hs pre d post rfl S h
    obtain ⟨S', r1, r2⟩ := loop_inv I post (pre ++ [d]) S2 q4 fun pre1 d1 post1 e => hs pre1 d1 post1 (by rw [← e]; simp)
    refine ⟨S', ?_, by rw [← List.append_cons pre d post] at r2; exact r2⟩
    unfold loopD
    rw [if_pos trivial, q1]
    dsimp only
    rcases q2 with q2 | q2
    · rw [q2]
      dsimp only
      rw [q3]
      exact r1
    · rw [q2]
      dsimp only
      rw [q3]
      exact r1
/-- a loop that goes on or hands something back -/
theorem loop_ret {p : Pat} {body : MS} {dead : List Nat} {env : En} (I : List D → Store → Prop) (R : RS → Prop) : ∀ (post pre : List D) (S : Store), I pre S →
    (∀ pre1 d post1, pre ++ post = pre1 ++ d :: post1 → ∀ S, I pre1 S → ∃ e1, p d env = some e1 ∧ ((∃ e2 S2, (body e1 S = .next e2 S2 ∨ body e1 S = .cont e2 S2) ∧ clr e2 dead = env ∧ I (pre1 ++ [d]) S2) ∨ (∃ x S2, body e1 S = .ret x S2 ∧ R (.ret x S2)))) →
    (∃ S', loopD p body dead (fun _ => True) post env S = .next env S' ∧ I (pre ++ post) S') ∨ R (loopD p body dead (fun _ => True) post env S)
  | [], pre, S, h, _ => .inl ⟨S, by unfold loopD; rw [if_pos trivial], by rw [List.append_nil]; exact h⟩
  | d :: post, pre, S, h, hs => by
    obtain ⟨e1, q1, q⟩ := hs pre d post rfl S h
    rcases q with ⟨e2, S2, q2, q3, q4⟩ | ⟨x, S2, q2, q3⟩
    · have ih := loop_ret I R post (pre ++ [d]) S2 q4 fun pre1 d1 post1 e => hs pre1 d1 post1 (by rw [← e]; simp)
      have e : loopD p body dead (fun _ => True) (d :: post) env S = loopD p body dead (fun _ => True) post env S2 := by
        conv => lhs; unfold loopD
        rw [if_pos trivial, q1]
        dsimp only
        rcases q2 with q2 | q2
        · rw [q2]; dsimp only; rw [q3]
        · rw [q2]; dsimp only; rw [q3]
      rw [e]
      rcases ih with ⟨S', r1, r2⟩ | ih
      · exact .inl ⟨S', r1, by rw [← List.append_cons pre d post] at r2; exact r2⟩
      · exact .inr ih
    · refine .inr ?_
      have e : loopD p body dead (fun _ => True) (d :: post) env S = .ret x S2 := by
        conv => lhs; unfold loopD
        rw [if_pos trivial, q1]
        dsimp only
        rw [q2]
      rw [e]
      exact q3
/-! ### comprehensions -/
theorem cmp_map {p : Pat} {me : M D} {env : En} {S : Store} {α : Type} (g f : α → D) : ∀ l : List α, (∀ x ∈ l, ∃ e1, p (g x) env = some e1 ∧ me e1 S = .ok (f x) S) → compD p tYes' me (fun _ => True) env (l.map g) S = .ok (l.map f) S
  | [], _ => by rw [List.map_nil]; unfold compD; rw [if_pos trivial]; rfl
  | x :: l, h => by
    obtain ⟨e1, q1, q2⟩ := h x List.mem_cons_self
    rw [List.map_cons]
    unfold compD
    rw [if_pos trivial, q1]
    show (match me e1 S with | .ok x S2 => (compD p tYes' me (fun _ => True) env (l.map g) S2).bind fun xs S3 => Res.ok (x :: xs) S3 | _ => Res.bad) = _
    rw [q2]
    dsimp only
    rw [cmp_map g f l fun d' hd => h d' (List.mem_cons_of_mem _ hd)]
    rfl
theorem cmp_filter {p : Pat} {mt : M Bool} {me : M D} {env : En} {S : Store} {α : Type} (g : α → D) (t : α → Bool) (f : α → D) : ∀ l : List α, (∀ x ∈ l, ∃ e1, p (g x) env = some e1 ∧ mt e1 S = .ok (t x) S ∧ (t x = true → me e1 S = .ok (f x) S)) → compD p mt me (fun _ => True) env (l.map g) S = .ok ((l.filter t).map f) S
  | [], _ => by rw [List.map_nil]; unfold compD; rw [if_pos trivial]; rfl
  | x :: l, h => by
    obtain ⟨e1, q1, q2, q3⟩ := h x List.mem_cons_self
    rw [List.map_cons]
    unfold compD
    rw [if_pos trivial, q1]
    dsimp only
    rw [q2]
    have ih := cmp_filter g t f l fun d' hd => h d' (List.mem_cons_of_mem _ hd)
    cases ht : t x with
    | true =>
      dsimp only
      rw [q3 ht]
      dsimp only
      rw [ih, List.filter_cons_of_pos ht]
      rfl
    | false =>
      dsimp only
      rw [ih, List.filter_cons_of_neg (by rw [ht]; decide)]
/-- loops over mapped lists, the store a function of what is carried -/
theorem lp_fold {p : Pat} {body : MS} {dead : List Nat} {env : En} {α β : Type} (g : β → D) (st : α → Store) (step : α → β → α) (I : α → Prop) : ∀ (l : List β) (a : α), I a →
    (∀ x ∈ l, ∀ a, I a → I (step a x) ∧ ∃ e1 e2, p (g x) env = some e1 ∧ (body e1 (st a) = .next e2 (st (step a x)) ∨ body e1 (st a) = .cont e2 (st (step a x))) ∧ clr e2 dead = env) →
    loopD p body dead (fun _ => True) (l.map g) env (st a) = .next env (st (l.foldl step a)) ∧ I (l.foldl step a)
  | [], a, hI, _ => ⟨by rw [List.map_nil]; unfold loopD; rw [if_pos trivial]; rfl, hI⟩
  | x :: l, a, hI, h => by
    obtain ⟨hI2, e1, e2, q1, q2, q3⟩ := h x List.mem_cons_self a hI
    have ih := lp_fold g st step I l (step a x) hI2 fun d' hd => h d' (List.mem_cons_of_mem _ hd)
    refine ⟨?_, ih.2⟩
    rw [List.map_cons]
    unfold loopD
    rw [if_pos trivial, q1]
    dsimp only
    rcases q2 with q2 | q2
    · rw [q2]
      dsimp only
      rw [q3]
      exact ih.1
    · rw [q2]
      dsimp only
      rw [q3]
      exact ih.1
/-- what holds behind each turn, the items mapped -/
theorem lp_inv {p : Pat} {body : MS} {dead : List Nat} {env : En} {β : Type} (g : β → D) (I : List β → Store → Prop) : ∀ (post pre : List β) (S : Store), I pre S →
    (∀ pre1 x post1, pre ++ post = pre1 ++ x :: post1 → ∀ S, I pre1 S → ∃ e1 e2 S2, p (g x) env = some e1 ∧ (body e1 S = .next e2 S2 ∨ body e1 S = .cont e2 S2) ∧ clr e2 dead = env ∧ I (pre1 ++ [x]) S2) →
    ∃ S', loopD p body dead (fun _ => True) (post.map g) env S = .next env S' ∧ I (pre ++ post) S'
  | [], pre, S, h, _ => ⟨S, by rw [List.map_nil]; unfold loopD; rw [if_pos trivial], by rw [List.append_nil]; exact h⟩
  | d :: post, pre, S, h, hs => by
    obtain ⟨e1, e2, S2, q1, q2, q3, q4⟩ := hs pre d post rfl S h
    obtain ⟨S', r1, r2⟩ := lp_inv g I post (pre ++ [d]) S2 q4 fun pre1 d1 post1 e => hs pre1 d1 post1 (by rw [← e]; simp)
    refine ⟨S', ?_, by rw [← List.append_cons pre d post] at r2; exact r2⟩
    rw [List.map_cons]
    unfold loopD
    rw [if_pos trivial, q1]
    dsimp only
    rcases q2 with q2 | q2
    · rw [q2]
      dsimp only
      rw [q3]
      exact r1
    · rw [q2]
      dsimp only
      rw [q3]
      exact r1
theorem sortSet_of (xs : List PI2) (S : Store) (h1 : xs.length < 64) (h2 : xs.all inB = true) : fSortSet (.lst (xs.map pD)) S = .ok ((sortU xs).map pD) S := by
  unfold fSortSet
  dsimp only
  rw [prs_of]
  dsimp only
  rw [if_pos ⟨h1, h2⟩]
end Rf

namespace HT
open PySem PySem.Spec PyProof.Rows
section
variable {prog : Program} {w : World} {A : Around} {E : Value → Shared → Prop} {s : Shared}
theorem sliceApplied_rev {sl : Addr} {vk : Value} {n : Nat} {Q : Int × Int × Nat → Shared → Prop} (hs : s.heap.IsSliceOf sl .none .none vk) (pk : IsPart vk (some (-1)))
    (h : Q ((n : Int) - 1, -1, n) s) : wpAny (model prog w) A (Builtin.Slice.sliceApplied (.ref sl) (pure (n : Int))) Q E s := by
  obtain ⟨os, hos, hcs, hds⟩ := id hs
  unfold Builtin.Slice.sliceApplied Builtin.Slice.sliceFields
  refine wpAny_bind (wpAny_bind (wpAny_field hos hds (x := .none) rfl (wpAny_bind (wpAny_field hos hds (x := .none) rfl (wpAny_bind (wpAny_field hos hds (x := vk) rfl (wpAny_pure ?_)))))))
  refine wpAny_bind (slicePart_ pk ?_)
  show wpAny _ _ (if ((-1 : Int) == 0) = true then _ else _) _ _ s
  rw [if_neg (by decide)]
  refine wpAny_bind (slicePart_none (wpAny_bind (slicePart_none (wpAny_bind (wpAny_pure ?_)))))
  show wpAny _ _ (pure ((n : Int) - 1, (-1 : Int), Builtin.Slice.slicePlaces ((n : Int) - 1) (-1) (-1))) _ _ s
  have e : Builtin.Slice.slicePlaces ((n : Int) - 1) (-1) (-1) = n := by
    unfold Builtin.Slice.slicePlaces
    have h1 : ¬ ((-1 : Int) > 0) := by omega
    simp only [h1, if_false, Int.neg_neg, Int.ediv_one]
    split <;> omega
  rw [e]
  exact wpAny_pure h
theorem pick_rev (xs : Array Value) : ((List.range xs.size).filterMap fun (k : Nat) => xs[(((xs.size : Nat) : Int) - 1 + (k : Int) * (-1)).toNat]?) = xs.toList.reverse := by
  obtain ⟨l⟩ := xs
  show ((List.range l.length).filterMap fun (k : Nat) => l.toArray[(((l.length : Nat) : Int) - 1 + (k : Int) * (-1)).toNat]?) = l.reverse
  apply List.ext_getElem?
  intro i
  have e : ((List.range l.length).filterMap fun (k : Nat) => l.toArray[(((l.length : Nat) : Int) - 1 + (k : Int) * (-1)).toNat]?) = (List.range l.length).map fun k => l.getD (l.length - 1 - k) .none := by
    have hh : ∀ (f g : Nat → Option Value) (ks : List Nat), (∀ k ∈ ks, f k = g k) → ks.filterMap f = ks.filterMap g := fun f g ks hk => by
      induction ks with
      | nil => rfl
      | cons k ks ih => simp only [List.filterMap_cons, hk k List.mem_cons_self, ih fun k hk2 => hk k (List.mem_cons_of_mem _ hk2)]
    rw [hh _ (fun k => some (l.getD (l.length - 1 - k) .none)) _ ?_]
    · simp
    · intro k hk
      have := List.mem_range.mp hk
      have e2 : (((l.length : Nat) : Int) - 1 + (k : Int) * (-1)).toNat = l.length - 1 - k := by omega
      have hlt : l.length - 1 - k < l.length := by omega
      rw [e2]
      simp [hlt]
  rw [e]
  by_cases hi : i < l.length
  · have hlt : l.length - 1 - i < l.length := by omega
    simp [hi, hlt]
  · simp [hi, List.getElem?_eq_none]
theorem getItem_tuple_rev {t sl : Addr} {items : Array Value} {vk : Value} {Q : Value → Shared → Prop} (ht : IsTup s.heap t items) (hs : s.heap.IsSliceOf sl .none .none vk) (pk : IsPart vk (some (-1)))
    (h : Q (.ref s.heap.objs.size) { s with heap := s.heap.push { cls := .type "tuple", data := .seq items.toList.reverse.toArray } })
    (hsz : items.size ≤ sizeLine) : wpAny (model prog w) A (getItem (.ref t) (.ref sl)) Q E s := by
  have htake : sizeOk (.seq items.toList.reverse.toArray) := by
    show items.toList.reverse.toArray.size ≤ sizeLine
    rw [List.size_toArray, List.length_reverse, Array.length_toList]
    exact hsz
  obtain ⟨os, hos, hcs, hds⟩ := id hs
  have hTs : s.TypeIs (.ref sl) "slice" := ⟨os, hos, hcs⟩
  unfold getItem
  try with_reducible refine wpAny_holding ?_
  first | refine wpAny_bind (wpAny_pure ?_) | skip
  refine wpAny_bind (wpAny_sequenceKey ht.typeIs (by decide) ?_)
  refine wpAny_bind (wpAny_callSpecial?_slot (name := Str.ofString "__getitem__") ht.typeIs PyProof.Rows.slot_tuple_getitem
    (wpAny_call_entry PyProof.Rows.slot_tuple_getitem ht.typeIs entry_tuple_getitem ?_ (args_tuple_getitem _ _)))
  show wpAny _ _ (Builtin.Tuple.tupleItemsOf (.ref t) >>= _) _ _ s
  refine wpAny_bind (tupleItemsOf_ ht ?_)
  refine wpAny_bind (wpAny_typeOf hTs ?_)
  rw [if_pos (by decide)]
  refine wpAny_bind (sliceApplied_rev hs pk ?_)
  have hno : ¬ ((((items.size : Nat) : Int) - 1 == 0 && (-1 : Int) == 1 && items.size == items.size) = true) := by
    intro q
    rw [Bool.and_eq_true, Bool.and_eq_true] at q
    exact absurd q.1.2 (by decide)
  show wpAny _ _ (if (((items.size : Nat) : Int) - 1 == 0 && (-1 : Int) == 1 && items.size == items.size) = true then _ else _) _ _ s
  rw [if_neg hno, pick_rev]
  first
    | exact wpAny_bind (m := Builtin.Tuple.tupleExact _) (wpAny_newObj_type (wpAny_pure ⟨_, rfl, wpAny_pure h⟩) htake)
    | exact wpAny_bind (m := Builtin.Tuple.tupleExact _) (wpAny_newObj_type (wpAny_bind (wpAny_pure (wpAny_pure ⟨_, rfl, wpAny_pure h⟩))) htake)
    | exact wpAny_bind (wpAny_bind (m := Builtin.Tuple.tupleExact _) (wpAny_newObj_type (wpAny_pure (wpAny_pure ⟨_, rfl, wpAny_pure h⟩)) htake))
    | exact wpAny_bind (wpAny_bind (m := Builtin.Tuple.tupleExact _) (wpAny_newObj_type (wpAny_pure ⟨_, rfl, wpAny_pure h⟩) htake))
end
end HT
namespace Rf
open PySem PySem.Spec PyProof.Rows L2
section
variable {X : Cx} {e : Expr} {pos : Pos} {cA : Nat → Addr} {W : WX}
theorem pe_or {t u : TE} (h : PE X e t) (h' : PE X e u) : PE X e (fun σ H Q => t σ H Q ∨ u σ H Q) := ⟨fun pins s σ H Q I q => q.elim (h.run pins s σ H Q I) (h'.run pins s σ H Q I)⟩
/-! ### t[::-1] -/
def tRevT (K : PySem.W.Frag) (te : TE) : TE := fun σ H Q => te σ H fun x H1 => ∃ a xs, x = .ref a ∧ SqT K H1 a xs ∧ ∀ p (o : Obj), H1 p = none → o.dict = none → Q (.ref p) (upd H1 p (.frz o (.tup xs.reverse)))
theorem pe_revT {te : TE} {k : Nat} {p1 p2 p3 pos : Pos} (he : PE X e te) : PE X (.Subscript e (.Slice none none (some (.UnaryOp .USub (.Constant (.int 1) k p1) p2)) p3) pos) (tRevT X.K te) := by
  refine ⟨fun pins s σ H Q I h => ?_⟩
  refine Subscript_ (thn (he.run pins s σ H _ I h) fun v s1 ⟨x, H1, I1, r1, q1⟩ => ?_)
  obtain ⟨a, xs, ex, hx, q⟩ := q1
  subst ex
  cases r1
  have hst : PO X (some (.UnaryOp .USub (.Constant (.int 1) k p1) p2)) (tPart (tUn (rU fun i => .int (-i)) (tC (.int 1)))) := po_some (pe_un un_neg pe_int)
  refine wpAny_Slice (thn (po_none.run pins s1 σ H1 (fun o H2 => o = none ∧ H2 = H1) I1 ⟨rfl, rfl⟩) fun vl s2 ⟨l, H2, I2, pl, el, e2⟩ => ?_)
  subst el e2
  refine thn (po_none.run pins s2 σ H2 (fun o H3 => o = none ∧ H3 = H2) I2 ⟨rfl, rfl⟩) fun vu s3 ⟨u, H3, I3, pu, eu, e3⟩ => ?_
  subst eu e3
  refine thn (hst.run pins s3 σ H3 (fun o H4 => o = some (-1) ∧ H4 = H3) I3 ⟨1, rfl, -1, rfl, rfl, rfl⟩) fun vs s4 ⟨o, H4, I4, ps, eo, e4⟩ => ?_
  subst eo e4
  have I5 : Inv X pins σ H4 { s4 with heap := s4.heap.push { cls := .type "slice", data := .fields #[vl, vu, vs] } } := I4.kept (t' := s4.toks) fun b ob q => Heap.get?_push_of_some _ q
  obtain ⟨its, r, ht, hz⟩ := I5.tuple hx
  have hlen := r.length
  show wpAny (model X.prog X.w) X.A (subscriptTail e (.Slice none none (some (.UnaryOp .USub (.Constant (.int 1) k p1) p2)) p3) (.ref a) (.ref s4.heap.objs.size)) (EP X pins σ Q) X.xe { s4 with heap := s4.heap.push { cls := .type "slice", data := .fields #[vl, vu, vs] } }
  refine tail_any (ops := [.ref a, .ref s4.heap.objs.size]) ht.typeIs (PyProof.Rows.slot_tuple_getitem.lookup) ?_ (by with_unfolding_all rfl)
  have evl : vl = .none := by cases pl; rfl
  have evu : vu = .none := by cases pu; rfl
  subst evl evu
  refine HT.getItem_tuple_rev ht (Heap.IsSliceOf.new _ .none .none vs) ps ?_ (by rw [List.size_toArray]; omega)
  refine ⟨.ref _, _, I5.laid (t' := s4.toks) (o := .frz { cls := .type "tuple", data := .seq its.toArray.toList.reverse.toArray } (.tup xs.reverse)) (fun b ob q => Heap.get?_push_of_some _ q) (Nat.le_refl _) ?_, rfl, q _ _ (I5.hok.fresh (Nat.le_refl _)) rfl⟩
  exact ⟨Heap.get?_push_size _ rfl, by rw [List.length_reverse]; exact hz, _, r.reverse, IsTup.new _ _⟩
def dRev (d : D) (S : Store) : Res D := match d with
  | .tup ds => .ok (.tup ds.reverse) S
  | d => (match seqOf S d with
    | some ds => .ok (.lst ds.reverse) S
    | none => .bad)
theorem je_rev {m : M D} {k : Nat} {p1 p2 p3 pos : Pos} (h : PE X e (tE X.K cA W m)) : PE X (.Subscript e (.Slice none none (some (.UnaryOp .USub (.Constant (.int 1) k p1) p2)) p3) pos) (tE X.K cA W (e1 dRev m)) := by
  refine pe_imp (pe_or (pe_revT h) (pe_revL h)) ?_
  rintro σ H Q ⟨G, ρ, env, S, hE, hS, h⟩
  unfold e1 at h
  cases hm : m env S with
  | bad => rw [hm] at h; exact h.elim
  | err c S1 => rw [hm] at h; exact .inl ⟨G, ρ, env, S, hE, hS, by rw [hm]; exact h⟩
  | ok d S1 =>
    rw [hm] at h
    dsimp only [bind_ok] at h
    have lst : isTup d = false → ∀ ds, seqOf S1 d = some ds → Ok X.K G (Rep X.K G) ρ H (.ok (.lst ds.reverse) S1) (WE' cA W σ) Q → tRevL X.K (tE X.K cA W m) σ H Q := fun ht ds e h => by
      refine ⟨G, ρ, env, S, hE, hS, ?_⟩
      rw [hm]
      intro v ρ1 H1 r1 x1 k1
      obtain ⟨a, vs, rfl, h1, h2⟩ := rep_seq r1 x1 e
      rw [if_neg (by rw [ht]; decide)] at h1
      refine ⟨a, vs, rfl, h1, fun p hp => ?_⟩
      have k2 : Keep G ρ1 H1 ρ1 (upd H1 p (.lst vs.reverse)) := Keep.new hp r1.gt
      exact h _ ρ1 _ (r1.new hp) ⟨p, _, rfl, ⟨r1.fresh hp, r1.ngn hp, upd_same⟩, RepL.keep k2 _ _ h2.reverse⟩ (k1.trans k2)
    cases d with
    | tup ds =>
      refine .inl ⟨G, ρ, env, S, hE, hS, ?_⟩
      rw [hm]
      intro v ρ1 H1 r1 x1 k1
      obtain ⟨a, vs, rfl, h1, h2⟩ := x1
      refine ⟨a, vs, rfl, .inl h1, fun p o hp ho => ?_⟩
      have k2 : Keep G ρ1 H1 ρ1 (upd H1 p (.frz o (.tup vs.reverse))) := Keep.new hp r1.gt
      exact h _ ρ1 _ (r1.new hp ho) ⟨p, _, rfl, .inr ⟨o, upd_same⟩, RepL.keep k2 _ _ h2.reverse⟩ (k1.trans k2)
    | lst ds => exact .inr (lst rfl ds rfl h)
    | fz ds => exact .inr (lst rfl ds rfl h)
    | cell n =>
      unfold dRev at h
      dsimp only at h
      cases e : seqOf S1 (.cell n) with
      | none => rw [e] at h; exact h.elim
      | some ds => rw [e] at h; exact .inr (lst rfl ds e h)
    | _ => exact h.elim
/-! ### t.m(..) -/
def tBT (r : V → List V → Hp → VK → Prop) (to : TE) (t : TA) : TE := fun σ H Q => to σ H fun x H1 => (∃ a o xs, x = .ref a ∧ H1 a = some (.frz o (.tup xs)) ∧ o.dict = none) ∧ t σ H1 fun xs H2 => r x xs H2 Q
theorem pe_bmT {o : Expr} {es : List Expr} {to : TE} {t : TA} {name : Str} {apos cpos : Pos} {id : String} {r : V → List V → Hp → VK → Prop} (slot : Slot "tuple" name id) (hty : typeOf (.builtin id) = pure (.type "method_descriptor")) (hm : MtR X id r) (ho : PE X o to) (ha : PA X (e :: es) t)
    (hbase : attributeBase o name X.env (eval o X.env) = eval o X.env := by rfl)
    (hfew : ((backTo cpos (starEach (e :: es) X.env)).all (fun x => !x.1) && (backToKw cpos (keywordEach [] X.env)).all (fun x => x.1.isSome)
      && decide ((e :: es).length + ([] : List Keyword).length + (if ([] : List Keyword).isEmpty then 0 else 1) < 30)) = true := by rfl)
    (hline : (apos.endLine == cpos.line) = true := by rfl) (hs : starEach (e :: es) X.env = (false, eval e X.env) :: starEach es X.env := by rfl) (hplain : (backTo cpos (starEach es X.env)).any (·.1) = false := by rfl) :
    PE X (.Call (.Attribute o name apos) (e :: es) [] cpos) (tBT r to t) := by
  refine ⟨fun pins s σ H Q I h => ?_⟩
  refine wpAny_Call_method_late hbase hfew hline rfl (thn (ho.run pins s σ H _ I h) fun v s1 ⟨x, H1, I1, r1, ty, q1⟩ => ?_)
  obtain ⟨a, ob, xs, rfl, hH, hd⟩ := ty
  cases r1
  obtain ⟨hg, _, its, _, ht⟩ := (show ObjOk X.prog X.w H1 s1.heap a (.frz ob (.tup xs)) from I1.hok a _ hH)
  refine ⟨"tuple", id, PySem.F.plainAttrs_tuple, slot, hty, ht.typeIs, fun b e => by cases e; exact ⟨ob, hg, hd⟩, ?_⟩
  have hA := ha.run cpos pins s1 σ H1 _ I1 q1
  rw [hs] at hA ⊢
  refine Calls.callWith_builtin (by show (false || (backTo cpos (starEach es X.env)).any (·.1)) = false; rw [hplain] <;> rfl) (Calls.evalArgs_plain ?_)
  exact thn hA fun us s2 ⟨vs, H2, I2, r2, q2⟩ => hm pins s2 σ H2 (.ref a) vs (.ref a) us Q I2 rfl r2 q2
theorem tup_known {K : PySem.W.Frag} {G : Addr → Prop} {ρ : List Addr} {S : Store} {H : Hp} {a : Addr} {vs : List V} (r : RelS K G ρ S H) (h : Rd H a (.tup vs)) : ∃ o : Obj, H a = some (.frz o (.tup vs)) ∧ o.dict = none := by
  rcases h with h | ⟨o, h⟩
  · exact (r.tp a _ h).elim
  · exact ⟨o, h, r.tp a _ h⟩
/-! ### index -/
def rIndexT (K : PySem.W.Frag) : V → List V → Hp → VK → Prop := fun x xs H Q => ∃ (a : Addr) (y : V) (d : PyData) (ds : List PyData) (j : Nat) (z : PyData), x = V.ref a ∧ xs = [y] ∧ Dp K H (V.ref a) (.tuple ds) ∧ Dp K H y d ∧
  SeqAt.shaped (.tuple ds) = true ∧ SeqAt.shaped d = true ∧ ds[j]? = some z ∧ PyData.eqv z d = true ∧ (∀ (m : Nat) (z' : PyData), m < j → ds[m]? = some z' → PyData.eqv z' d = false) ∧ Q (.int (j : Nat)) H
theorem mt_indexT (hu : X.A.units + 65 < cLine) : MtR X "tuple.index" (rIndexT X.K) := by
  intro pins s σ H x xs v us Q I rx rxs h
  obtain ⟨a, y, d, ds, j, z, rfl, rfl, hl, hy, sl, sd, hz, hzj, hno, q⟩ := h
  cases rx
  cases rxs with
  | cons ry rt =>
    rename_i uy ut
    cases rt
    obtain ⟨bs, r1⟩ := Dp.reads I d y uy hy ry
    have hxs : PyData.canLayAll0 ds = true := SeqAt.canLay_of_shaped sl
    have hroom : X.A.units + 1 + min (PyData.depthAll ds) d.depth < cLine := room_in_shaped sd hu
    cases hl with
    | tup hs ha =>
      obtain ⟨its, rv, ⟨⟨cls, dd, data, sls⟩, ho, hc, n, hdt⟩, hlen⟩ := I.tuple hs
      simp only at hc hdt
      subst hc hdt
      obtain ⟨as, h4⟩ := Dp.readsAll I ds _ its ha rv
      have hn : its.length = ds.length := SeqAt.ReadsAll.length ds its as h4
      have hmap : its.map (SeqAt.readOf s.heap) = ds := SeqAt.readsAll_map ds its as hxs h4
      have hvl := rv.length
      obtain ⟨hjd, _⟩ := List.getElem?_eq_some_iff.mp hz
      have hjl : j < its.length := by omega
      have hj : j < its.toArray.size := by simpa using hjl
      have at_ : ∀ (m : Nat) (hm : m < its.toArray.size) (z' : PyData), ds[m]? = some z' → SeqAt.readOf s.heap its.toArray[m] = z' := by
        intro m hm z' hz'
        have hml : m < its.length := by simpa using hm
        rw [← hmap, List.getElem?_map, List.getElem?_eq_getElem hml] at hz'
        have e1 : SeqAt.readOf s.heap its[m] = z' := Option.some.inj (show some (SeqAt.readOf s.heap its[m]) = some z' from hz')
        simpa using e1
      refine call_meets PySem.F.slot_tuple_index ⟨_, ho, rfl⟩ PySem.F.entry_tuple_index (PySem.F.args_tuple_index_2 _ _)
        (TI.tuple_indexAt a its.toArray n dd sls uy (fun u => PyData.eqv (SeqAt.readOf s.heap u) d) j hj ?_ ?_) ⟨ho, SeqAt.items_eqAt (vs := its.toArray) (show ReadsAll s.heap its.toArray.toList ds as from h4) r1 hxs (SeqAt.canLay_of_shaped sd) hroom, ?_⟩
      · show PyData.eqv (SeqAt.readOf s.heap its.toArray[j]) d = true
        rw [at_ j hj z hz]
        exact hzj
      · intro m hm hmj
        have hmd : m < ds.length := by omega
        have hz' : ds[m]? = some ds[m] := List.getElem?_eq_getElem hmd
        show PyData.eqv (SeqAt.readOf s.heap its.toArray[m]) d = false
        rw [at_ m hm _ hz']
        exact hno m _ hmj hz'
      · exact ⟨.int (j : Nat), H, I.tok _, ⟨_, rfl⟩, q⟩
def ixOf (y : D) (ds : List D) : Option Nat := ds.findIdx? fun z => PyData.eqv (py z) (py y)
def isSeqB (d : D) (S : Store) : Bool := (seqOf S d).isSome
def dIndex (d : D) (xs : List D) (S : Store) : Res D := match xs with
  | [y] => (match seqOf S d with
    | some ds => if shD dpt (val S y) = true ∧ ds.all (shD 11) = true then (match ixOf (val S y) ds with
      | some j => .ok (.int (j : Nat)) S
      | none => .bad) else .bad
    | none => .bad)
  | _ => .bad
theorem seq_val {S : Store} {d : D} {ds : List D} (h : seqOf S d = some ds) : py (val S d) = (if isTup d = true then .tuple (pyL ds) else .list (pyL ds)) ∧ shD dpt (val S d) = ds.all (shD 11) := by
  cases d with
  | tup xs => cases h; exact ⟨rfl, rfl⟩
  | lst xs => cases h; exact ⟨rfl, rfl⟩
  | fz xs => cases h; exact ⟨rfl, rfl⟩
  | cell n =>
    unfold seqOf at h
    dsimp only at h
    cases eo : S[n]? with
    | none => rw [eo] at h; cases h
    | some o =>
      rw [eo] at h
      cases o with
      | dK kvs => cases h
      | lst xs =>
        cases h
        have e : val S (.cell n) = .lst ds := by unfold val; dsimp only; rw [eo]
        rw [e]
        exact ⟨rfl, rfl⟩
  | _ => cases h
theorem ixOf_some {y : D} {ds : List D} {j : Nat} (h : ixOf y ds = some j) : ∃ z, (pyL ds)[j]? = some z ∧ PyData.eqv z (py y) = true ∧ ∀ (m : Nat) (z' : PyData), m < j → (pyL ds)[m]? = some z' → PyData.eqv z' (py y) = false := by
  unfold ixOf at h
  obtain ⟨hj, h1, h2⟩ := List.findIdx?_eq_some_iff_getElem.mp h
  rw [pyL_map]
  refine ⟨py ds[j], by simp [hj], h1, fun m z' hm e => ?_⟩
  have hm' : m < ds.length := by omega
  have e2 : (ds.map py)[m]? = some (py ds[m]) := by simp [hm']
  rw [e2] at e
  cases e
  simpa using h2 m hm
theorem je_index {o : Expr} {apos : Pos} {mo : M D} {ma : M (List D)} (hu : X.A.units + 65 < cLine) (ho : PE X o (tE X.K cA W mo)) (ha : PA X [e] (tAr X.K cA W ma))
    (hbase : attributeBase o "index" X.env (eval o X.env) = eval o X.env := by rfl)
    (hfew : ((backTo pos (starEach [e] X.env)).all (fun x => !x.1) && (backToKw pos (keywordEach [] X.env)).all (fun x => x.1.isSome)
      && decide (([e] : List Expr).length + ([] : List Keyword).length + (if ([] : List Keyword).isEmpty then 0 else 1) < 30)) = true := by rfl)
    (hline : (apos.endLine == pos.line) = true := by rfl) (hs : starEach [e] X.env = (false, eval e X.env) :: starEach [] X.env := by rfl) (hplain : (backTo pos (starEach [] X.env)).any (·.1) = false := by rfl) :
    PE X (.Call (.Attribute o "index" apos) [e] [] pos) (tE X.K cA W (eMt dIndex isSeqB mo ma)) := by
  refine pe_imp (pe_or (pe_bmT PySem.F.slot_tuple_index PySem.F.type_tuple_index (mt_indexT hu) ho ha hbase hfew hline hs hplain) (pe_bm PySem.F.plainAttrs_list PySem.F.slot_list_index PySem.F.type_list_index (mt_indexD hu) ho ha hbase hfew hline hs hplain)) ?_
  rintro σ H Q ⟨G, ρ, env, S, hE, hS, h⟩
  unfold eMt at h
  cases hm : mo env S with
  | bad => rw [hm] at h; exact h.elim
  | err c S1 => rw [hm] at h; exact .inl ⟨G, ρ, env, S, hE, hS, by rw [hm]; exact h⟩
  | ok d S1 =>
    rw [hm] at h
    dsimp only [bind_ok] at h
    by_cases ht : isSeqB d S1 = true
    · rw [if_pos ht] at h
      cases hb : isTup d with
      | true =>
        refine .inl ⟨G, ρ, env, S, hE, hS, ?_⟩
        rw [hm]
        intro v ρ1 H1 r1 x1 k1
        cases d with
        | tup ds =>
          obtain ⟨a, vs, rfl, h1, h2⟩ := x1
          obtain ⟨ob, h3, h4⟩ := tup_known r1 h1
          refine ⟨⟨a, ob, vs, rfl, h3, h4⟩, G, ρ1, env, S1, hE.keep k1, r1, Ok.bind (h.keep k1) fun xs S2 ws ρ2 H2 r2 x2 k2 hh => ?_⟩
          unfold dIndex at hh
          split at hh
          · rename_i y
            obtain ⟨w, _, rfl, y1, rfl⟩ := x2
            dsimp only [seqOf] at hh
            by_cases hc : shD dpt (val S2 y) = true ∧ ds.all (shD 11) = true
            · rw [if_pos hc] at hh
              split at hh
              · rename_i j ej
                obtain ⟨z, e1, e2, e3⟩ := ixOf_some ej
                have x3 : Rep X.K G ρ2 H2 (.tup ds) (.ref a) := Rep.keep k2 _ _ ⟨a, vs, rfl, h1, h2⟩
                have hsd : shD dpt (.tup ds) = true := hc.2
                exact ⟨a, w, _, pyL ds, j, z, rfl, rfl, rep_dp dpt (.tup ds) _ hsd x3, rep_val r2 y1 hc.1, shaped_of (d := .tup ds) hsd, shaped_of hc.1, e1, e2, e3, hh.now r2 rfl⟩
              · exact hh.elim
            · rw [if_neg hc] at hh; exact hh.elim
          · exact hh.elim
        | _ => cases hb
      | false =>
        refine .inr ⟨G, ρ, env, S, hE, hS, ?_⟩
        rw [hm]
        intro v ρ1 H1 r1 x1 k1
        have hty : isLst d S1 = true := by unfold isLst; rw [Bool.and_eq_true]; exact ⟨ht, by rw [hb]; rfl⟩
        refine ⟨tyd_list G ρ1 H1 S1 d v r1 x1 hty, G, ρ1, env, S1, hE.keep k1, r1, Ok.bind (h.keep k1) fun xs S2 ws ρ2 H2 r2 x2 k2 hh => ?_⟩
        unfold dIndex at hh
        split at hh
        · rename_i y
          obtain ⟨w, _, rfl, y1, rfl⟩ := x2
          split at hh
          · rename_i ds es
            by_cases hc : shD dpt (val S2 y) = true ∧ ds.all (shD 11) = true
            · rw [if_pos hc] at hh
              split at hh
              · rename_i j ej
                obtain ⟨z, e1, e2, e3⟩ := ixOf_some ej
                obtain ⟨f1, f2⟩ := seq_val es
                rw [if_neg (by rw [hb]; decide)] at f1
                have x3 := Rep.keep k2 _ _ x1
                have hsd : shD dpt (val S2 d) = true := by rw [f2]; exact hc.2
                have dp := rep_val r2 x3 hsd
                obtain ⟨a, vs, rfl, _, _⟩ := rep_seq r2 x3 es
                rw [f1] at dp
                have sh := shaped_of hsd
                rw [f1] at sh
                exact ⟨a, w, _, pyL ds, j, z, rfl, rfl, dp, rep_val r2 y1 hc.1, sh, shaped_of hc.1, e1, e2, e3, hh.now r2 rfl⟩
              · exact hh.elim
            · rw [if_neg hc] at hh; exact hh.elim
          · exact hh.elim
        · exact hh.elim
    · rw [if_neg ht] at h; exact h.elim
/-! ### xs.pop(i) -/
def dPop (d : D) (xs : List D) (S : Store) : Res D := match cellOf S d, xs with
  | some (n, ds), [.int i] => if ds.length ≤ big then (match ixN ds.length i with
    | some k => (match ds[k]? with
      | some y => .ok y (S.set n (.lst (ds.eraseIdx k)))
      | none => .bad)
    | none => .bad) else .bad
  | _, _ => .bad
theorem md_pop {K : PySem.W.Frag} : MtD K rPopAt dPop := by
  intro G ρ H S d ds v vs E Q r x1 x2 h
  unfold dPop at h
  split at h
  · rename_i n xs i ec
    obtain ⟨rfl, eS⟩ := cellOf_some ec
    obtain ⟨a, rfl, ha⟩ := x1
    obtain ⟨w, _, rfl, q1, rfl⟩ := x2
    cases (show w = .int i from q1)
    obtain ⟨ws, h1, h2⟩ := r.ob n _ a eS ha
    by_cases hl : xs.length ≤ big
    · rw [if_pos hl] at h
      split at h
      · rename_i k ek
        split at h
        · rename_i y ey
          obtain ⟨f1, f2, f3, f4⟩ := ixN_seq ek
          obtain ⟨u, g1, g2⟩ := h2.get ey
          have hb : (xs.length : Int) ≤ 1000000 := by have : xs.length ≤ 1000000 := hl; omega
          refine ⟨a, ws, i, k, u, rfl, rfl, h1, by omega, by omega, by rw [h2.length]; exact f1, g1, ?_⟩
          have kk : Keep G ρ H ρ (upd H a (.lst (ws.eraseIdx k))) := Keep.write (List.mem_of_getElem? ha) (r.ng a (List.mem_of_getElem? ha)) (.inl ⟨_, h1⟩)
          obtain ⟨r', k'⟩ := r.write (o := .lst (xs.eraseIdx k)) (u := .lst (ws.eraseIdx k)) ha (.inl ⟨_, h1⟩) ⟨_, upd_same, RepL.keep kk _ _ (h2.eraseIdx k)⟩
          exact h _ ρ _ r' (Rep.keep kk _ _ g2) k'
        · exact h.elim
      · exact h.elim
    · rw [if_neg hl] at h; exact h.elim
  · exact h.elim
/-! ### list(range(..)) -/
theorem rep_range {K : PySem.W.Frag} {G : Addr → Prop} {ρ : List Addr} {H : Hp} (a b : Int) : RepL K G ρ H (rangeD a (b - a).toNat) (rgV a b) := by
  have := rep_script (K := K) (G := G) (ρ := ρ) (H := H) ((List.range (b - a).toNat).map fun i => a + (i : Nat))
  rw [List.map_map, List.map_map] at this
  exact this
def fLR1 (m : M D) : M (List D) := fun env S => (m env S).bind fun d S1 => match d with
  | .int n => if n ≤ 1000000 ∧ -1000000 ≤ n then .ok (rangeD 0 (n - 0).toNat) S1 else .bad
  | _ => .bad
def fLR2 (ma mb : M D) : M (List D) := fun env S => (ma env S).bind fun d S1 => (mb env S1).bind fun d' S2 => match d, d' with
  | .int a, .int b => if -1000000 ≤ a ∧ a ≤ 1000000 ∧ -1000000 ≤ b ∧ b ≤ 1000000 then .ok (rangeD a (b - a).toNat) S2 else .bad
  | _, _ => .bad
theorem jf_lr1 {a : Expr} {m : M D} {p p2 q : Pos} (hc : X.calm = true) (hg : Gl X "list") (hm : X.mg "list" = none) (hg2 : Gl X "range") (hm2 : X.mg "range" = none) (ha : PE X a (tE X.K cA W m))
    (na : starEach [a] X.env = (false, eval a X.env) :: starEach [] X.env := by rfl) (nb : starEach [.Call (.Name "range" p2) [a] [] q] X.env = (false, eval (.Call (.Name "range" p2) [a] [] q) X.env) :: starEach [] X.env := by rfl) : PE X (.Call (.Name "list" p) [.Call (.Name "range" p2) [a] [] q] [] pos) (tFr X.K cA W (fLR1 m)) := by
  refine pe_imp (pe_listRg hc hg hm (prg_1 hg2 hm2 ha na) nb) ?_
  rintro σ H Q ⟨G, ρ, env, S, hE, hS, h⟩
  refine ⟨G, ρ, env, S, hE, hS, OkF.bind h fun d S1 v ρ1 H1 r1 x1 k1 h1 => ?_⟩
  cases d with
  | int n =>
    cases (show v = .int n from x1)
    dsimp only at h1
    by_cases hn : n ≤ 1000000 ∧ -1000000 ≤ n
    · rw [if_pos hn] at h1
      exact ⟨n, rfl, ⟨by omega, by omega, by omega, by omega, by omega⟩, fun p hp => h1 p _ ρ1 H1 r1 (rep_range 0 n) Keep.refl hp⟩
    · rw [if_neg hn] at h1; exact h1.elim
  | _ => exact h1.elim
theorem jf_lr2 {a b : Expr} {ma mb : M D} {p p2 q : Pos} (hc : X.calm = true) (hg : Gl X "list") (hm : X.mg "list" = none) (hg2 : Gl X "range") (hm2 : X.mg "range" = none) (ha : PE X a (tE X.K cA W ma)) (hb : PE X b (tE X.K cA W mb))
    (na : starEach [a, b] X.env = (false, eval a X.env) :: starEach [b] X.env := by rfl) (nb : starEach [b] X.env = (false, eval b X.env) :: starEach [] X.env := by rfl) (hp : (backTo q (starEach [b] X.env)).any (·.1) = false := by rfl)
    (nc : starEach [.Call (.Name "range" p2) [a, b] [] q] X.env = (false, eval (.Call (.Name "range" p2) [a, b] [] q) X.env) :: starEach [] X.env := by rfl) : PE X (.Call (.Name "list" p) [.Call (.Name "range" p2) [a, b] [] q] [] pos) (tFr X.K cA W (fLR2 ma mb)) := by
  refine pe_imp (pe_listRg hc hg hm (prg_2 hg2 hm2 ha hb na nb hp) nc) ?_
  rintro σ H Q ⟨G, ρ, env, S, hE, hS, h⟩
  refine ⟨G, ρ, env, S, hE, hS, OkF.bind h fun d S1 v ρ1 H1 r1 x1 k1 h1 => ?_⟩
  refine ⟨G, ρ1, env, S1, hE.keep k1, r1, OkF.bind h1 fun d' S2 v' ρ2 H2 r2 x2 k2 h2 => ?_⟩
  cases d with
  | int i =>
    cases d' with
    | int j =>
      cases (show v = .int i from x1)
      cases (show v' = .int j from x2)
      dsimp only at h2
      by_cases hn : -1000000 ≤ i ∧ i ≤ 1000000 ∧ -1000000 ≤ j ∧ j ≤ 1000000
      · rw [if_pos hn] at h2
        exact ⟨i, j, rfl, rfl, ⟨by omega, by omega, by omega, by omega, by omega⟩, fun p hp => h2 p _ ρ2 H2 r2 (rep_range i j) Keep.refl hp⟩
      · rw [if_neg hn] at h2; exact h2.elim
    | _ => exact h2.elim
  | _ => exact h2.elim
end
end Rf
/-! ### one step at a time -/
namespace Rf
theorem seq_next {a b : MS} {env e' : En} {S S' : Store} (h : a env S = .next e' S') : sSeq a b env S = b e' S' := by unfold sSeq; rw [h]
theorem seq_ret {a b : MS} {env : En} {S S' : Store} {d : D} (h : a env S = .ret d S') : sSeq a b env S = .ret d S' := by unfold sSeq; rw [h]
theorem if_yes {c : M Bool} {a b : MS} {env : En} {S S' : Store} (h : c env S = .ok true S') : sIf c a b env S = a env S' := by unfold sIf; rw [h]; rfl
theorem if_no {c : M Bool} {a b : MS} {env : En} {S S' : Store} (h : c env S = .ok false S') : sIf c a b env S = b env S' := by unfold sIf; rw [h]; rfl
theorem asg_next {m : M D} {i : Nat} {env : En} {S S' : Store} {d : D} (h : m env S = .ok d S') : sAsg m (pName i) env S = .next (env.set i (some d)) S' := by unfold sAsg; rw [h]; rfl
theorem ret_of {m : M D} {env : En} {S S' : Store} {d : D} (h : m env S = .ok d S') : sRet m env S = .ret d S' := by unfold sRet; rw [h]; rfl
theorem expr_next {m : M D} {env : En} {S S' : Store} {d : D} (h : m env S = .ok d S') : sExpr m env S = .next env S' := by unfold sExpr; rw [h]; rfl
theorem call_of {n : Nat} {F : List D → Store → Res D} {ma : M (List D)} {env : En} {S S' S2 : Store} {ds : List D} {d : D} (h : ma env S = .ok ds S') (hn : ds.length = n) (hF : F ds S' = .ok d S2) : eCall n F ma env S = .ok d S2 := by
  unfold eCall
  rw [h]
  simp [hn, hF]
/-- a while loop by a number that falls -/
theorem while_run {c : M Bool} {body : MS} {dead : List Nat} (I : Nat → En → Store → Prop)
    (step : ∀ n env S, I n env S → (n = 0 → c env S = .ok false S) ∧ (n ≠ 0 → c env S = .ok true S ∧ ∃ e2 S2, (body env S = .next e2 S2 ∨ body env S = .cont e2 S2) ∧ ∃ m, m < n ∧ I m (clr e2 dead) S2)) :
    ∀ n fuel env S, n < fuel → I n env S → ∃ env' S', whileD c body dead fuel env S = .next env' S' ∧ I 0 env' S' := by
  intro n
  induction n using Nat.strongRecOn with
  | _ n ih =>
    intro fuel env S hf hI
    obtain ⟨fuel, rfl⟩ : ∃ f, fuel = f + 1 := ⟨fuel - 1, by omega⟩
    obtain ⟨h0, h1⟩ := step n env S hI
    by_cases hn : n = 0
    · subst hn
      refine ⟨env, S, ?_, hI⟩
      unfold whileD
      rw [h0 rfl]
    · obtain ⟨hc, e2, S2, hb, m, hm, hI2⟩ := h1 hn
      obtain ⟨env', S', q1, q2⟩ := ih m hm fuel (clr e2 dead) S2 (by omega) hI2
      refine ⟨env', S', ?_, q2⟩
      unfold whileD
      rw [hc]
      dsimp only
      rcases hb with hb | hb
      · rw [hb]; exact q1
      · rw [hb]; exact q1
end Rf
namespace Rf
theorem for_of {m : M IT} {p : Pat} {body : MS} {dead : List Nat} {env : En} {S S1 : Store} {ds : List D} (h : m env S = .ok ⟨ds, []⟩ S1) : sFor m p body dead env S = loopD p body dead (fun _ => True) ds (clr env dead) S1 := by
  unfold sFor
  rw [h]
  show loopD p body dead (IT.chk ⟨ds, []⟩) ds (clr env dead) S1 = _
  rw [chk_nil]
theorem r1_of {ma : M (List D)} {env : En} {S S1 : Store} {j : Int} (h : ma env S = .ok [.int j] S1) (h1 : 0 ≤ j) (h2 : j ≤ 1000000) : iR1 ma env S = .ok ⟨(List.range j.toNat).map fun i => .int (i : Nat), []⟩ S1 := by
  unfold iR1
  rw [h]
  dsimp only [bind_ok]
  rw [if_pos ⟨by omega, by omega⟩]
theorem seq_of {m : M D} {env : En} {S S1 : Store} {d : D} {ds : List D} (h : m env S = .ok d S1) (hd : fIt S1 d = some ⟨ds, []⟩) : iSeq m env S = .ok ⟨ds, []⟩ S1 := by
  unfold iSeq
  rw [h]
  dsimp only [bind_ok]
  rw [hd]
theorem comp_of {mi : M IT} {p : Pat} {mt : M Bool} {me : M D} {own : List Nat} {env : En} {S S1 : Store} {ds : List D} (h : mi env S = .ok ⟨ds, []⟩ S1) (hl : ds.length ≤ 1000000) : fComp mi p mt me own env S = compD p mt me (fun _ => True) (clr env own) ds S1 := by
  unfold fComp
  rw [h]
  dsimp only [bind_ok]
  rw [if_pos (show ds.length ≤ big from hl), chk_nil]
end Rf
namespace Rf
/-- a loop by what holds behind each turn of the slots and the store -/
theorem lp_rel {p : Pat} {body : MS} {dead : List Nat} {β : Type} (g : β → D) (I : List β → En → Store → Prop) : ∀ (post pre : List β) (env : En) (S : Store), I pre env S →
    (∀ pre1 x post1, pre ++ post = pre1 ++ x :: post1 → ∀ env S, I pre1 env S → ∃ e1 e2 S2, p (g x) env = some e1 ∧ (body e1 S = .next e2 S2 ∨ body e1 S = .cont e2 S2) ∧ I (pre1 ++ [x]) (clr e2 dead) S2) →
    ∃ env' S', loopD p body dead (fun _ => True) (post.map g) env S = .next env' S' ∧ I (pre ++ post) env' S'
  | [], pre, env, S, h, _ => ⟨env, S, by rw [List.map_nil]; unfold loopD; rw [if_pos trivial], by rw [List.append_nil]; exact h⟩
  | d :: post, pre, env, S, h, hs => by
    obtain ⟨e1, e2, S2, q1, q2, q4⟩ := hs pre d post rfl env S h
    obtain ⟨env', S', r1, r2⟩ := lp_rel g I post (pre ++ [d]) (clr e2 dead) S2 q4 fun pre1 d1 post1 e => hs pre1 d1 post1 (by rw [← e]; simp)
    refine ⟨env', S', ?_, by rw [← List.append_cons pre d post] at r2; exact r2⟩
    rw [List.map_cons]
    unfold loopD
    rw [if_pos trivial, q1]
    dsimp only
    rcases q2 with q2 | q2
    · rw [q2]; exact r1
    · rw [q2]; exact r1
/-- the slots a function of a number that each turn adds to; the store as it was -/
theorem lp_sum {p : Pat} {body : MS} {dead : List Nat} {β : Type} (g : β → D) (en : Int → En) (S : Store) (f : β → Int) (l : List β) (k : Int)
    (h : ∀ x ∈ l, ∀ k, ∃ e1 e2, p (g x) (en k) = some e1 ∧ (body e1 S = .next e2 S ∨ body e1 S = .cont e2 S) ∧ clr e2 dead = en (k + f x)) :
    loopD p body dead (fun _ => True) (l.map g) (en k) S = .next (en (k + (l.map f).sum)) S := by
  induction l generalizing k with
  | nil => rw [List.map_nil]; unfold loopD; rw [if_pos trivial]; simp
  | cons x l ih =>
    obtain ⟨e1, e2, q1, q2, q3⟩ := h x List.mem_cons_self k
    rw [List.map_cons]
    unfold loopD
    rw [if_pos trivial, q1]
    dsimp only
    have := ih (k + f x) fun y hy => h y (List.mem_cons_of_mem _ hy)
    rw [List.map_cons, List.sum_cons, ← Int.add_assoc]
    rcases q2 with q2 | q2
    · rw [q2]; dsimp only; rw [q3]; exact this
    · rw [q2]; dsimp only; rw [q3]; exact this
/-- a loop of turns that change nothing -/
theorem lp_same {p : Pat} {body : MS} {dead : List Nat} {β : Type} (g : β → D) (env : En) (S : Store) (l : List β)
    (h : ∀ x ∈ l, ∃ e1 e2, p (g x) env = some e1 ∧ (body e1 S = .next e2 S ∨ body e1 S = .cont e2 S) ∧ clr e2 dead = env) : loopD p body dead (fun _ => True) (l.map g) env S = .next env S := by
  induction l with
  | nil => rw [List.map_nil]; unfold loopD; rw [if_pos trivial]
  | cons x l ih =>
    obtain ⟨e1, e2, q1, q2, q3⟩ := h x List.mem_cons_self
    rw [List.map_cons]
    unfold loopD
    rw [if_pos trivial, q1]
    dsimp only
    have := ih fun y hy => h y (List.mem_cons_of_mem _ hy)
    rcases q2 with q2 | q2
    · rw [q2]; dsimp only; rw [q3]; exact this
    · rw [q2]; dsimp only; rw [q3]; exact this
theorem run_next {N : Nat} {body : MS} {ds : List D} {S : Store} {e : En} (h : body (ds.map some ++ List.replicate (N - ds.length) none) S = .next e S) : runFn .val N body ds S = .ok .non S := by
  unfold runFn
  rw [h]
  show fin .val S .non S = _
  rw [fin_val (stOk_refl S) rfl, List.take_length]
theorem nums_of : ∀ l : List Int, nums (l.map D.int) = some l
  | [] => rfl
  | x :: l => by show (nums (l.map D.int)).map (x :: ·) = _; rw [nums_of l]; rfl
theorem ixOf_int (a : Int) : ∀ l : List Int, a ∈ l → ixOf (.int a) (l.map D.int) = some (l.idxOf a)
  | [], h => nomatch h
  | x :: l, h => by
    unfold ixOf
    rw [List.map_cons, List.findIdx?_cons]
    show (if PySem.PyData.eqv (.int x) (.int a) = true then some 0 else Option.map (fun i => i + 1) (ixOf (.int a) (l.map D.int))) = _
    rw [eqv_int]
    by_cases e : x = a
    · subst e; simp
    · have : a ∈ l := by rcases List.mem_cons.mp h with z | z; exact absurd z.symm e; exact z
      rw [ixOf_int a l this]
      have e2 : (decide (x = a)) = false := decide_eq_false e
      rw [e2, List.idxOf_cons]
      have e3 : (x == a) = false := beq_eq_false_iff_ne.mpr e
      simp [e3]
end Rf
namespace Rf
/-- two numbers that each turn adds to -/
theorem lp_sum2 {p : Pat} {body : MS} {dead : List Nat} {β : Type} (g : β → D) (en : Int → Int → En) (S : Store) (f h : β → Int) (l : List β) (k j : Int)
    (hh : ∀ x ∈ l, ∀ k j, ∃ e1 e2, p (g x) (en k j) = some e1 ∧ (body e1 S = .next e2 S ∨ body e1 S = .cont e2 S) ∧ clr e2 dead = en (k + f x) (j + h x)) :
    loopD p body dead (fun _ => True) (l.map g) (en k j) S = .next (en (k + (l.map f).sum) (j + (l.map h).sum)) S := by
  induction l generalizing k j with
  | nil => rw [List.map_nil]; unfold loopD; rw [if_pos trivial]; simp
  | cons x l ih =>
    obtain ⟨e1, e2, q1, q2, q3⟩ := hh x List.mem_cons_self k j
    rw [List.map_cons]
    unfold loopD
    rw [if_pos trivial, q1]
    dsimp only
    have := ih (k + f x) (j + h x) fun y hy => hh y (List.mem_cons_of_mem _ hy)
    rw [List.map_cons, List.map_cons, List.sum_cons, List.sum_cons, ← Int.add_assoc, ← Int.add_assoc]
    rcases q2 with q2 | q2
    · rw [q2]; dsimp only; rw [q3]; exact this
    · rw [q2]; dsimp only; rw [q3]; exact this
theorem cut_drop (l : List D) (k : Nat) : cutD l (some (k : Int)) none = l.drop k := by
  unfold cutD
  rw [show HT.sIx l.length 0 (some (k : Int)) = min k l.length from HT.sIx_nat _ _ k, HT.sIx_none]
  by_cases h : k ≤ l.length
  · rw [Nat.min_eq_left h, List.take_of_length_le]
    rw [List.length_drop]
    omega
  · rw [Nat.min_eq_right (by omega), List.drop_of_length_le (Nat.le_refl _), List.drop_of_length_le (show l.length ≤ k by omega), List.take_nil]
theorem cut_take (l : List D) (k : Nat) : cutD l none (some (k : Int)) = l.take k := by
  unfold cutD
  rw [show HT.sIx l.length l.length (some (k : Int)) = min k l.length from HT.sIx_nat _ _ k, HT.sIx_none, List.drop_zero, Nat.sub_zero]
  rw [List.take_eq_take_iff]
  omega
end Rf
namespace Rf
theorem e2_of {f : D → D → Store → Res D} {ma mb : M D} {env : En} {S S1 S2 : Store} {x y : D} (ha : ma env S = .ok x S1) (hb : mb env S1 = .ok y S2) : e2 f ma mb env S = f x y S2 := by
  unfold e2
  rw [ha]
  dsimp only [bind_ok]
  rw [hb]
  rfl
theorem tst_of {m : M D} {env : En} {S S1 : Store} {b : Bool} (h : m env S = .ok (.bl b) S1) : tst m env S = .ok b S1 := by
  unfold tst
  rw [h]
  rfl
theorem par_of {i j : Nat} {ma : M (List D)} {env : En} {S S1 : Store} {x y : D} (h : ma env S = .ok [x, y] S1) : sPar i j ma env S = .next ((env.set i (some x)).set j (some y)) S1 := by
  unfold sPar
  rw [h]
  rfl
theorem args_cons {m : M D} {ma : M (List D)} {env : En} {S S1 S2 : Store} {x : D} {xs : List D} (h : m env S = .ok x S1) (h' : ma env S1 = .ok xs S2) : aCons m ma env S = .ok (x :: xs) S2 := by
  unfold aCons
  rw [h]
  dsimp only [bind_ok]
  rw [h']
  rfl
theorem var_of {i : Nat} {env : En} {S : Store} {d : D} (h : env[i]? = some (some d)) : eVar i env S = .ok d S := by unfold eVar; rw [h]
end Rf

namespace Law
open PySem PySem.Spec PyProof.Rows L2 Rf
/-! the text -/
def topS (i : Nat) : Stmt := PySem.Challenge.pw_leastcross_k78_crossings_by_orders.main.body.getD i (.Pass ⟨0, 0, 0, 0⟩)
abbrev s_law_feed : Stmt := topS 12
theorem sc_law_feed : FnScope ["_law_script"] ["_law_script"] (defScope s_law_feed) := ⟨rfl, rfl, rfl, by decide +kernel, rfl, by decide +kernel, by decide +kernel⟩
abbrev s_law_draw : Stmt := topS 13
theorem sc_law_draw : FnScope ["_law_feed_here", "_law_many", "_law_got", "_law_at", "_law_cell", "_law_number"] ["_law_feed_here", "_law_many"] (defScope s_law_draw) := ⟨rfl, rfl, rfl, by decide +kernel, rfl, by decide +kernel, by decide +kernel⟩
abbrev s_law_two : Stmt := topS 15
theorem sc_law_two : FnScope ["_law_feed_here", "_law_p", "_law_q", "_law_ties", "_law_k", "_law_tie"] ["_law_feed_here"] (defScope s_law_two) := ⟨rfl, rfl, rfl, by decide +kernel, rfl, by decide +kernel, by decide +kernel⟩
abbrev s_law_crossings : Stmt := topS 17
theorem sc_law_crossings : FnScope ["_law_web_here", "_law_high", "_law_low", "_law_found", "_law_k", "_law_a", "_law_b", "_law_c", "_law_d", "_law_here", "_law_there"] ["_law_web_here", "_law_high", "_law_low"] (defScope s_law_crossings) := ⟨rfl, rfl, rfl, by decide +kernel, rfl, by decide +kernel, by decide +kernel⟩
abbrev s_law_row : Stmt := topS 14
theorem sc_law_row : FnScope ["_law_feed_here", "_law_many", "_law_left", "_law_found"] ["_law_feed_here", "_law_many"] (defScope s_law_row) := ⟨rfl, rfl, rfl, by decide +kernel, rfl, by decide +kernel, by decide +kernel⟩
abbrev s_law_alike : Stmt := topS 18
theorem sc_law_alike : FnScope ["_law_found", "_law_due"] ["_law_found", "_law_due"] (defScope s_law_alike) := ⟨rfl, rfl, rfl, by decide +kernel, rfl, by decide +kernel, by decide +kernel⟩
abbrev s_is_whole : Stmt := topS 4
theorem sc_is_whole : FnScope ["thing"] ["thing"] (defScope s_is_whole) := ⟨rfl, rfl, rfl, by decide +kernel, rfl, by decide +kernel, by decide +kernel⟩
abbrev s_is_order : Stmt := topS 6
theorem sc_is_order : FnScope ["thing", "many", "place"] ["thing", "many"] (defScope s_is_order) := ⟨rfl, rfl, rfl, by decide +kernel, rfl, by decide +kernel, by decide +kernel⟩
abbrev s_upper_looked_at : Stmt := topS 7
theorem sc_upper_looked_at : FnScope ["web", "upper"] ["web", "upper"] (defScope s_upper_looked_at) := ⟨rfl, rfl, rfl, by decide +kernel, rfl, by decide +kernel, by decide +kernel⟩
abbrev s_both_looked_at : Stmt := topS 8
theorem sc_both_looked_at : FnScope ["web", "upper", "lower"] ["web", "upper", "lower"] (defScope s_both_looked_at) := ⟨rfl, rfl, rfl, by decide +kernel, rfl, by decide +kernel, by decide +kernel⟩
abbrev s_crossed : Stmt := topS 9
theorem sc_crossed : FnScope ["web", "upper", "lower", "spots", "found", "a", "b", "c", "d"] ["web", "upper", "lower"] (defScope s_crossed) := ⟨rfl, rfl, rfl, by decide +kernel, rfl, by decide +kernel, by decide +kernel⟩
abbrev s_law_between : Stmt := topS 16
theorem sc_law_between : FnScope ["_law_web_here", "_law_high", "_law_b", "_law_d", "_law_found", "_law_a", "_law_place", "_law_c", "_law_far"] ["_law_web_here", "_law_high", "_law_b", "_law_d"] (defScope s_law_between) := ⟨rfl, rfl, rfl, by decide +kernel, rfl, by decide +kernel, by decide +kernel⟩
abbrev s_number_of : Stmt := topS 10
theorem sc_number_of : FnScope ["web", "upper", "b", "d", "ones", "others", "a", "place", "c"] ["web", "upper", "b", "d"] (defScope s_number_of) := ⟨rfl, rfl, rfl, by decide +kernel, rfl, by decide +kernel, by decide +kernel⟩
abbrev s_law : Stmt := topS 19
theorem sc_law : FnScope ["_law_script", "_law_feed_here", "_law_here", "_law_bout", "_law_high", "_law_low", "_law_due", "_law_b", "_law_d"] ["_law_script"] (defScope s_law) := ⟨rfl, rfl, rfl, by decide +kernel, rfl, by decide +kernel, by decide +kernel⟩
/-! what the top has written -/
structure Top (P : Program) (w : World) (K : PySem.W.Frag) (mg : Str → Option Value) (base : Heap) where
  cA : Nat → Addr
  n_all : mg "all" = none
  n_bool : mg "bool" = none
  n_enumerate : mg "enumerate" = none
  n_int : mg "int" = none
  n_isinstance : mg "isinstance" = none
  n_len : mg "len" = none
  n_list : mg "list" = none
  n_range : mg "range" = none
  n_sorted : mg "sorted" = none
  n_sum : mg "sum" = none
  n_tuple : mg "tuple" = none
  a_law_feed : Addr
  fd_law_feed : FuncData
  F_law_feed : Fun K "_law_feed" "_law_feed" s_law_feed a_law_feed fd_law_feed
  g_law_feed : mg "_law_feed" = some (.ref a_law_feed)
  b_law_feed : Binds K fd_law_feed ["_law_script"] []
  a_law_draw : Addr
  fd_law_draw : FuncData
  F_law_draw : Fun K "_law_draw" "_law_draw" s_law_draw a_law_draw fd_law_draw
  g_law_draw : mg "_law_draw" = some (.ref a_law_draw)
  b_law_draw : Binds K fd_law_draw ["_law_feed_here", "_law_many"] []
  a_law_two : Addr
  fd_law_two : FuncData
  F_law_two : Fun K "_law_two" "_law_two" s_law_two a_law_two fd_law_two
  g_law_two : mg "_law_two" = some (.ref a_law_two)
  b_law_two : Binds K fd_law_two ["_law_feed_here"] []
  a_law_crossings : Addr
  fd_law_crossings : FuncData
  F_law_crossings : Fun K "_law_crossings" "_law_crossings" s_law_crossings a_law_crossings fd_law_crossings
  g_law_crossings : mg "_law_crossings" = some (.ref a_law_crossings)
  b_law_crossings : Binds K fd_law_crossings ["_law_web_here", "_law_high", "_law_low"] []
  a_law_row : Addr
  fd_law_row : FuncData
  F_law_row : Fun K "_law_row" "_law_row" s_law_row a_law_row fd_law_row
  g_law_row : mg "_law_row" = some (.ref a_law_row)
  b_law_row : Binds K fd_law_row ["_law_feed_here", "_law_many"] []
  a_law_alike : Addr
  fd_law_alike : FuncData
  F_law_alike : Fun K "_law_alike" "_law_alike" s_law_alike a_law_alike fd_law_alike
  g_law_alike : mg "_law_alike" = some (.ref a_law_alike)
  b_law_alike : Binds K fd_law_alike ["_law_found", "_law_due"] []
  a_is_whole : Addr
  fd_is_whole : FuncData
  F_is_whole : Fun K "is_whole" "is_whole" s_is_whole a_is_whole fd_is_whole
  g_is_whole : mg "is_whole" = some (.ref a_is_whole)
  b_is_whole : Binds K fd_is_whole ["thing"] []
  a_is_order : Addr
  fd_is_order : FuncData
  F_is_order : Fun K "is_order" "is_order" s_is_order a_is_order fd_is_order
  g_is_order : mg "is_order" = some (.ref a_is_order)
  b_is_order : Binds K fd_is_order ["thing", "many"] []
  a_upper_looked_at : Addr
  fd_upper_looked_at : FuncData
  F_upper_looked_at : Fun K "upper_looked_at" "upper_looked_at" s_upper_looked_at a_upper_looked_at fd_upper_looked_at
  g_upper_looked_at : mg "upper_looked_at" = some (.ref a_upper_looked_at)
  b_upper_looked_at : Binds K fd_upper_looked_at ["web", "upper"] []
  a_both_looked_at : Addr
  fd_both_looked_at : FuncData
  F_both_looked_at : Fun K "both_looked_at" "both_looked_at" s_both_looked_at a_both_looked_at fd_both_looked_at
  g_both_looked_at : mg "both_looked_at" = some (.ref a_both_looked_at)
  b_both_looked_at : Binds K fd_both_looked_at ["web", "upper", "lower"] []
  a_crossed : Addr
  fd_crossed : FuncData
  F_crossed : Fun K "crossed" "crossed" s_crossed a_crossed fd_crossed
  g_crossed : mg "crossed" = some (.ref a_crossed)
  b_crossed : Binds K fd_crossed ["web", "upper", "lower"] []
  a_law_between : Addr
  fd_law_between : FuncData
  F_law_between : Fun K "_law_between" "_law_between" s_law_between a_law_between fd_law_between
  g_law_between : mg "_law_between" = some (.ref a_law_between)
  b_law_between : Binds K fd_law_between ["_law_web_here", "_law_high", "_law_b", "_law_d"] []
  a_number_of : Addr
  fd_number_of : FuncData
  F_number_of : Fun K "number_of" "number_of" s_number_of a_number_of fd_number_of
  g_number_of : mg "number_of" = some (.ref a_number_of)
  b_number_of : Binds K fd_number_of ["web", "upper", "b", "d"] []
  a_law : Addr
  fd_law : FuncData
  F_law : Fun K "law" "law" s_law a_law fd_law
  g_law : mg "law" = some (.ref a_law)
  b_law : Binds K fd_law ["_law_script"] []
/-! mirrors -/
/- slots of _law_feed: 0 _law_script -/
noncomputable def c_law_feed : MS := (sRet (cel (fLst (aCons (fz (eB fList (aCons (eSl dSl (eVar 0) oNone (oSome (eC (.int 63)))) aNil))) (aCons (eC (.int 0)) (aCons (eC (.int 0)) aNil))))))
noncomputable def m_law_feed : List D → Store → Res D := runFn .own 1 c_law_feed
/- slots of _law_draw: 0 _law_feed_here, 1 _law_many, 2 _law_got, 3 _law_at, 4 _law_cell, 5 _law_number -/
noncomputable def c_law_draw : MS := (sSeq (sCl [2] (sIf (tst (e2 dGt (e2 dIx (eVar 0) (eC (.int 2))) (eC (.int 0)))) (sSeq (sAsg (e2 dMod (e2 dIx (eVar 0) (eC (.int 2))) (eVar 1)) (pName 2)) (sSeq (sSet (e2 dFdiv (e2 dIx (eVar 0) (eC (.int 2))) (eVar 1)) (eVar 0) (eC (.int 2)) dSetL) (sRet (eVar 2)))) sNil)) (sSeq (sAsg (e2 dIx (eVar 0) (eC (.int 1))) (pName 3)) (sSeq (sSet (e2 dAdd (eVar 3) (eC (.int 1))) (eVar 0) (eC (.int 1)) dSetL) (sSeq (sAsg (eVar 3) (pName 4)) (sSeq (sIf (tst (e2 dGt (eB dLen (aCons (e2 dIx (eVar 0) (eC (.int 0))) aNil)) (eC (.int 0)))) (sAsg (e2 dIx (e2 dIx (eVar 0) (eC (.int 0))) (e2 dMod (eVar 3) (eB dLen (aCons (e2 dIx (eVar 0) (eC (.int 0))) aNil)))) (pName 4)) sNil) (sSeq (sIf (tAnd' (tst (e2 dGe (eVar 4) (e2 dPow (eC (.int 10)) (eC (.int 18))))) (tst (e2 dLt (eVar 3) (eB dLen (aCons (e2 dIx (eVar 0) (eC (.int 0))) aNil))))) (sSeq (sSet (e2 dFdiv (eVar 4) (eVar 1)) (eVar 0) (eC (.int 2)) dSetL) (sRet (e2 dMod (eVar 4) (eVar 1)))) sNil) (sSeq (sAsg (e2 dMod (e2 dMulI (e2 dAdd (e2 dAdd (e2 dMod (eVar 4) (eC (.int 2147483647))) (e2 dMulI (e2 dMulI (eC (.int 7919)) (eVar 3)) (eVar 3))) (eC (.int 104729))) (eC (.int 48271))) (eC (.int 2147483647))) (pName 5)) (sSeq (sAsg (e2 dMod (e2 dAdd (e2 dMulI (eVar 5) (eVar 5)) (e2 dMulI (eC (.int 69621)) (eVar 3))) (eC (.int 2147483629))) (pName 5)) (sRet (e2 dMod (e2 dFdiv (e2 dMod (e2 dMulI (eVar 5) (e2 dAdd (e2 dMod (eVar 5) (eC (.int 65521))) (eC (.int 1)))) (eC (.int 2147483587))) (eC (.int 64))) (eVar 1)))))))))))
noncomputable def m_law_draw : List D → Store → Res D := runFn .val 6 c_law_draw
/- slots of _law_two: 0 _law_feed_here, 1 _law_p, 2 _law_q, 3 _law_ties, 4 _law_k, 5 _law_tie -/
noncomputable def c_law_two_b1 : MS := (sSeq (sAsg (eTup (aCons (eCall 2 m_law_draw (aCons (eVar 0) (aCons (eVar 1) aNil))) (aCons (eCall 2 m_law_draw (aCons (eVar 0) (aCons (eVar 2) aNil))) aNil))) (pName 5)) (sIf (tAnd' (tst (e2 (dInG true) (eVar 5) (eVar 3))) (tst (e2 dLt (eB dLen (aCons (eVar 3) aNil)) (eC (.int 18))))) (sExpr (eMt dAppend isLst (eVar 3) (aCons (eVar 5) aNil))) sNil))
noncomputable def c_law_two : MS := (sSeq (sPar 1 2 (aCons (e2 dAdd (eC (.int 1)) (eCall 2 m_law_draw (aCons (eVar 0) (aCons (eC (.int 7)) aNil)))) (aCons (e2 dAdd (eC (.int 1)) (eCall 2 m_law_draw (aCons (eVar 0) (aCons (eC (.int 7)) aNil)))) aNil))) (sSeq (sAsg (cel (fLst aNil)) (pName 3)) (sSeq (sFor (iR1 (aCons (e2 dIx (fz (fLst (aCons (eCall 2 m_law_draw (aCons (eVar 0) (aCons (eC (.int 19)) aNil))) (aCons (e2 dMulI (eC (.int 2)) (eVar 1)) aNil)))) (e2 dFdiv (eCall 2 m_law_draw (aCons (eVar 0) (aCons (eC (.int 4)) aNil))) (eC (.int 3)))) aNil)) (pName 4) c_law_two_b1 [4, 5]) (sRet (eTup (aCons (eVar 1) (aCons (eVar 2) (aCons (eB dTuple (aCons (fz (eB fSorted (aCons (eVar 3) aNil))) aNil)) aNil))))))))
noncomputable def m_law_two : List D → Store → Res D := runFn .val 6 c_law_two
/- slots of _law_crossings: 0 _law_web_here, 1 _law_high, 2 _law_low, 3 _law_found, 4 _law_k, 5 _law_a, 6 _law_b, 7 _law_c, 8 _law_d, 9 _law_here, 10 _law_there -/
noncomputable def c_law_crossings_b1 : MS := (sSeq (sAsg (e2 dSub (eMt dIndex isSeqB (eVar 1) (aCons (eVar 5) aNil)) (eMt dIndex isSeqB (eVar 1) (aCons (eVar 7) aNil))) (pName 9)) (sSeq (sAsg (e2 dSub (eMt dIndex isSeqB (eVar 2) (aCons (eVar 6) aNil)) (eMt dIndex isSeqB (eVar 2) (aCons (eVar 8) aNil))) (pName 10)) (sIf (tst (e2 dLt (e2 dMulI (eVar 9) (eVar 10)) (eC (.int 0)))) (sAsg (e2 dAdd (eVar 3) (eC (.int 1))) (pName 3)) sNil)))
noncomputable def c_law_crossings_b2 : MS := (sFor (iSeq (eSl dSl (e2 dIx (eVar 0) (eC (.int 2))) (oSome (e2 dAdd (eVar 4) (eC (.int 1)))) oNone)) (pTup 2 (pCons (pName 7) (pCons (pName 8) pNil))) c_law_crossings_b1 [7, 8, 9, 10])
noncomputable def c_law_crossings : MS := (sSeq (sAsg (eC (.int 0)) (pName 3)) (sSeq (sFor (iEnumM (aCons (e2 dIx (eVar 0) (eC (.int 2))) aNil)) (pTup 2 (pCons (pName 4) (pCons (pTup 2 (pCons (pName 5) (pCons (pName 6) pNil))) pNil))) c_law_crossings_b2 [4, 5, 6, 7, 8, 9, 10]) (sRet (eVar 3))))
noncomputable def m_law_crossings : List D → Store → Res D := runFn .val 11 c_law_crossings
/- slots of _law_row: 0 _law_feed_here, 1 _law_many, 2 _law_left, 3 _law_found -/
noncomputable def c_law_row_b1 : MS := (sExpr (eMt dAppend isLst (eVar 3) (aCons (eMt dPop isLst (eVar 2) (aCons (eCall 2 m_law_draw (aCons (eVar 0) (aCons (eB dLen (aCons (eVar 2) aNil)) aNil))) aNil)) aNil)))
noncomputable def c_law_row : MS := (sSeq (sAsg (cel (fLR1 (eVar 1))) (pName 2)) (sSeq (sAsg (cel (fLst aNil)) (pName 3)) (sSeq (sWhile fuel0 (tst (e2 dNe (eVar 2) (fz (fLst aNil)))) c_law_row_b1 []) (sRet (eB dTuple (aCons (eVar 3) aNil))))))
noncomputable def m_law_row : List D → Store → Res D := runFn .val 4 c_law_row
/- slots of _law_alike: 0 _law_found, 1 _law_due -/
noncomputable def c_law_alike : MS := (sRet (eAnd (eB dIsi (aCons (eVar 0) (aCons (eC (.ty "int")) aNil))) (eAnd (eNot (eB dIsi (aCons (eVar 0) (aCons (eC (.ty "bool")) aNil)))) (e2 dEq (eVar 0) (eVar 1)))))
noncomputable def m_law_alike : List D → Store → Res D := runFn .val 2 c_law_alike
/- slots of is_whole: 0 thing -/
noncomputable def c_is_whole : MS := (sRet (eAnd (eB dIsi (aCons (eVar 0) (aCons (eC (.ty "int")) aNil))) (eNot (eB dIsi (aCons (eVar 0) (aCons (eC (.ty "bool")) aNil))))))
noncomputable def m_is_whole : List D → Store → Res D := runFn .val 1 c_is_whole
/- slots of is_order: 0 thing, 1 many, 2 place -/
noncomputable def c_is_order : MS := (sSeq (sIf (tOr' (tNot' (tst (eB dIsi (aCons (eVar 0) (aCons (eC (.ty "tuple")) aNil))))) (tNot' (tst (eB (dAll false) (aCons (fz (fComp (iSeq (eVar 0)) (pName 2) tYes' (eCall 1 m_is_whole (aCons (eVar 2) aNil)) [2])) aNil))))) (sRet (eC (.bl false))) sNil) (sRet (e2 dEq (fz (eB fSorted (aCons (eVar 0) aNil))) (fz (fLR1 (eVar 1))))))
noncomputable def m_is_order : List D → Store → Res D := runFn .val 3 c_is_order
/- slots of upper_looked_at: 0 web, 1 upper -/
noncomputable def c_upper_looked_at : MS := (sIf (tNot' (tst (eCall 2 m_is_order (aCons (eVar 1) (aCons (e2 dIx (eVar 0) (eC (.int 0))) aNil))))) sBad sNil)
noncomputable def m_upper_looked_at : List D → Store → Res D := runFn .val 2 c_upper_looked_at
/- slots of both_looked_at: 0 web, 1 upper, 2 lower -/
noncomputable def c_both_looked_at : MS := (sSeq (sExpr (eCall 2 m_upper_looked_at (aCons (eVar 0) (aCons (eVar 1) aNil)))) (sIf (tNot' (tst (eCall 2 m_is_order (aCons (eVar 2) (aCons (e2 dIx (eVar 0) (eC (.int 1))) aNil))))) sBad sNil))
noncomputable def m_both_looked_at : List D → Store → Res D := runFn .val 3 c_both_looked_at
/- slots of crossed: 0 web, 1 upper, 2 lower, 3 spots, 4 found, 5 a, 6 b, 7 c, 8 d -/
noncomputable def c_crossed_b1 : MS := (sAug 4 (eB dLen (aCons (fz (fComp (iSeq (eVar 3)) (pTup 2 (pCons (pName 7) (pCons (pName 8) pNil))) (tAnd' (tst (e2 dLt (eVar 5) (eVar 7))) (tst (e2 dGt (eVar 6) (eVar 8)))) (eC (.int 1)) [7, 8])) aNil)) (i2 (fun i j => .int (i + j)) cT))
noncomputable def c_crossed : MS := (sSeq (sExpr (eCall 3 m_both_looked_at (aCons (eVar 0) (aCons (eVar 1) (aCons (eVar 2) aNil))))) (sSeq (sAsg (fz (fComp (iSeq (e2 dIx (eVar 0) (eC (.int 2)))) (pTup 2 (pCons (pName 5) (pCons (pName 6) pNil))) tYes' (eTup (aCons (eMt dIndex isSeqB (eVar 1) (aCons (eVar 5) aNil)) (aCons (eMt dIndex isSeqB (eVar 2) (aCons (eVar 6) aNil)) aNil))) [5, 6])) (pName 3)) (sSeq (sAsg (eC (.int 0)) (pName 4)) (sSeq (sFor (iSeq (eVar 3)) (pTup 2 (pCons (pName 5) (pCons (pName 6) pNil))) c_crossed_b1 [5, 6]) (sRet (eVar 4))))))
noncomputable def m_crossed : List D → Store → Res D := runFn .val 9 c_crossed
/- slots of _law_between: 0 _law_web_here, 1 _law_high, 2 _law_b, 3 _law_d, 4 _law_found, 5 _law_a, 6 _law_place, 7 _law_c, 8 _law_far -/
noncomputable def c_law_between_b1 : MS := (sIf (tAnd' (tst (e2 dEq (eVar 6) (eVar 2))) (tAnd' (tst (e2 dEq (eVar 8) (eVar 3))) (tst (e2 dLt (eMt dIndex isSeqB (eVar 1) (aCons (eVar 7) aNil)) (eMt dIndex isSeqB (eVar 1) (aCons (eVar 5) aNil)))))) (sAsg (e2 dAdd (eVar 4) (eC (.int 1))) (pName 4)) sNil)
noncomputable def c_law_between_b2 : MS := (sFor (iSeq (e2 dIx (eVar 0) (eC (.int 2)))) (pTup 2 (pCons (pName 7) (pCons (pName 8) pNil))) c_law_between_b1 [7, 8])
noncomputable def c_law_between : MS := (sSeq (sAsg (eC (.int 0)) (pName 4)) (sSeq (sFor (iSeq (e2 dIx (eVar 0) (eC (.int 2)))) (pTup 2 (pCons (pName 5) (pCons (pName 6) pNil))) c_law_between_b2 [5, 6, 7, 8]) (sRet (eVar 4))))
noncomputable def m_law_between : List D → Store → Res D := runFn .val 9 c_law_between
/- slots of number_of: 0 web, 1 upper, 2 b, 3 d, 4 ones, 5 others, 6 a, 7 place, 8 c -/
noncomputable def c_number_of : MS := (sSeq (sExpr (eCall 2 m_upper_looked_at (aCons (eVar 0) (aCons (eVar 1) aNil)))) (sSeq (sAsg (fz (fComp (iSeq (e2 dIx (eVar 0) (eC (.int 2)))) (pTup 2 (pCons (pName 6) (pCons (pName 7) pNil))) (tst (e2 dEq (eVar 7) (eVar 2))) (eMt dIndex isSeqB (eVar 1) (aCons (eVar 6) aNil)) [6, 7])) (pName 4)) (sSeq (sAsg (fz (fComp (iSeq (e2 dIx (eVar 0) (eC (.int 2)))) (pTup 2 (pCons (pName 6) (pCons (pName 7) pNil))) (tst (e2 dEq (eVar 7) (eVar 3))) (eMt dIndex isSeqB (eVar 1) (aCons (eVar 6) aNil)) [6, 7])) (pName 5)) (sRet (eB dSum (aCons (fz (fComp (iSeq (eVar 4)) (pName 6) tYes' (eB dLen (aCons (fz (fComp (iSeq (eVar 5)) (pName 8) (tst (e2 dLt (eVar 8) (eVar 6))) (eC (.int 1)) [8])) aNil)) [6])) aNil))))))
noncomputable def m_number_of : List D → Store → Res D := runFn .val 9 c_number_of
/- slots of law: 0 _law_script, 1 _law_feed_here, 2 _law_here, 3 _law_bout, 4 _law_high, 5 _law_low, 6 _law_due, 7 _law_b, 8 _law_d -/
noncomputable def c_law_b1 : MS := (sCl [6] (sIf (tst (e2 dNe (eVar 7) (eVar 8))) (sSeq (sAsg (eCall 4 m_law_between (aCons (eVar 2) (aCons (eVar 4) (aCons (eVar 7) (aCons (eVar 8) aNil))))) (pName 6)) (sIf (tNot' (tst (eCall 2 m_law_alike (aCons (eCall 4 m_number_of (aCons (eVar 2) (aCons (eVar 4) (aCons (eVar 7) (aCons (eVar 8) aNil))))) (aCons (eVar 6) aNil))))) (sRet (eC (.bl false))) sNil)) sNil))
noncomputable def c_law_b2 : MS := (sFor (iR1 (aCons (e2 dIx (eVar 2) (eC (.int 1))) aNil)) (pName 8) c_law_b1 [8, 6])
noncomputable def c_law_b3 : MS := (sSeq (sPar 4 5 (aCons (eCall 2 m_law_row (aCons (eVar 1) (aCons (e2 dIx (eVar 2) (eC (.int 0))) aNil))) (aCons (eCall 2 m_law_row (aCons (eVar 1) (aCons (e2 dIx (eVar 2) (eC (.int 1))) aNil))) aNil))) (sSeq (sAsg (eCall 3 m_law_crossings (aCons (eVar 2) (aCons (eVar 4) (aCons (eVar 5) aNil)))) (pName 6)) (sSeq (sIf (tNot' (tst (eCall 2 m_law_alike (aCons (eCall 3 m_crossed (aCons (eVar 2) (aCons (eVar 4) (aCons (eVar 5) aNil)))) (aCons (eVar 6) aNil))))) (sRet (eC (.bl false))) sNil) (sSeq (sIf (tNot' (tst (eCall 2 m_law_alike (aCons (eCall 3 m_crossed (aCons (eVar 2) (aCons (e1 dRev (eVar 4)) (aCons (e1 dRev (eVar 5)) aNil)))) (aCons (eVar 6) aNil))))) (sRet (eC (.bl false))) sNil) (sFor (iR1 (aCons (e2 dIx (eVar 2) (eC (.int 1))) aNil)) (pName 7) c_law_b2 [7, 8, 6])))))
noncomputable def c_law : MS := (sSeq (sAsg (eCall 1 m_law_feed (aCons (eVar 0) aNil)) (pName 1)) (sSeq (sAsg (eCall 1 m_law_two (aCons (eVar 1) aNil)) (pName 2)) (sSeq (sFor (iR1 (aCons (eC (.int 3)) aNil)) (pName 3) c_law_b3 [3, 4, 5, 6, 7, 8]) (sRet (eC (.bl true))))))
noncomputable def m_law : List D → Store → Res D := runFn .val 9 c_law
section
variable {P : Program} {w : World} {K : PySem.W.Frag} {mg : Str → Option Value} {base : Heap}
theorem ok_law_feed (T : Top P w K mg base) : FnOk P w K mg base (L2.CX P w) 1 T.a_law_feed T.fd_law_feed ["_law_script"] (spF K T.cA 1 m_law_feed) :=
  fn_ok T.F_law_feed sc_law_feed fun cdv A outer s H E hr => by
    have nd := sc_law_feed.nd
    have tk : Takes (cxOf (L2.CX P w) P w K mg base ["_law_script"] "_law_feed" (defScope s_law_feed) T.a_law_feed cdv A outer s H E) (WF E) := takes_of rfl rfl rfl rfl
    have hp : PassesOwn (model P w) (cxOf (L2.CX P w) P w K mg base ["_law_script"] "_law_feed" (defScope s_law_feed) T.a_law_feed cdv A outer s H E).A (cxOf (L2.CX P w) P w K mg base ["_law_script"] "_law_feed" (defScope s_law_feed) T.a_law_feed cdv A outer s H E).env (cxOf (L2.CX P w) P w K mg base ["_law_script"] "_law_feed" (defScope s_law_feed) T.a_law_feed cdv A outer s H E).xe := passes_of rfl
    exact (js_one (js_ret (je_cel (jf_lst (ja_cons (je_fz (jf_Ty call_list_of cf_list rfl T.n_list (by decide +kernel) (ja_cons (je_sl (je_var 0) jo_none (jo_some je_int)) ja_nil))) (ja_cons je_int (ja_cons je_int ja_nil)))))))
theorem ok_law_draw (T : Top P w K mg base) : FnOk P w K mg base (L2.CX P w) 1 T.a_law_draw T.fd_law_draw ["_law_feed_here", "_law_many"] (spF K T.cA 2 m_law_draw) :=
  fn_ok T.F_law_draw sc_law_draw fun cdv A outer s H E hr => by
    have nd := sc_law_draw.nd
    have tk : Takes (cxOf (L2.CX P w) P w K mg base ["_law_feed_here", "_law_many", "_law_got", "_law_at", "_law_cell", "_law_number"] "_law_draw" (defScope s_law_draw) T.a_law_draw cdv A outer s H E) (WF E) := takes_of rfl rfl rfl rfl
    have hp : PassesOwn (model P w) (cxOf (L2.CX P w) P w K mg base ["_law_feed_here", "_law_many", "_law_got", "_law_at", "_law_cell", "_law_number"] "_law_draw" (defScope s_law_draw) T.a_law_draw cdv A outer s H E).A (cxOf (L2.CX P w) P w K mg base ["_law_feed_here", "_law_many", "_law_got", "_law_at", "_law_cell", "_law_number"] "_law_draw" (defScope s_law_draw) T.a_law_draw cdv A outer s H E).env (cxOf (L2.CX P w) P w K mg base ["_law_feed_here", "_law_many", "_law_got", "_law_at", "_law_cell", "_law_number"] "_law_draw" (defScope s_law_draw) T.a_law_draw cdv A outer s H E).xe := passes_of rfl
    exact (js_cons (js_cl [2] (js_if (jt_cmp op_gt od_gt (je_ix (je_var 0) je_int) je_int (nomark _)) (js_cons (js_set 2 nd (je_op op_mod od_mod (je_ix (je_var 0) je_int) (je_var 1)))
      (js_cons (js_sub (je_op op_fdiv od_fdiv (je_ix (je_var 0) je_int) (je_var 1)) (je_var 0) je_int set_list sd_setL)
      (js_one (js_ret (je_var 2))))) js_nil))
      (js_cons (js_set 3 nd (je_ix (je_var 0) je_int))
      (js_cons (js_sub (je_op op_add3 od_add (je_var 3) je_int) (je_var 0) je_int set_list sd_setL)
      (js_cons (js_set 4 nd (je_var 3))
      (js_cons (js_if (jt_cmp op_gt od_gt (je_B call_len_seq cd_len rfl T.n_len (by decide +kernel) (ja_cons (je_ix (je_var 0) je_int) ja_nil)) je_int (nomark _)) (js_one (js_set 4 nd (je_ix (je_ix (je_var 0) je_int) (je_op op_mod od_mod (je_var 3) (je_B call_len_seq cd_len rfl T.n_len (by decide +kernel) (ja_cons (je_ix (je_var 0) je_int) ja_nil)))))) js_nil)
      (js_cons (js_if (PW.pt (jw_and (jt_cmp op_ge od_ge (je_var 4) (je_op op_pow od_pow je_int je_int) (nomark _)) (jw_and1 (jt_cmp (op_lt2 hr.units0) od_lt (je_var 3) (je_B call_len_seq cd_len rfl T.n_len (by decide +kernel) (ja_cons (je_ix (je_var 0) je_int) ja_nil)) (nomark _))))) (js_cons (js_sub (je_op op_fdiv od_fdiv (je_var 4) (je_var 1)) (je_var 0) je_int set_list sd_setL)
      (js_one (js_ret (je_op op_mod od_mod (je_var 4) (je_var 1))))) js_nil)
      (js_cons (js_set 5 nd (je_op op_mod od_mod (je_op op_mul od_mulI (je_op op_add3 od_add (je_op op_add3 od_add (je_op op_mod od_mod (je_var 4) je_int) (je_op op_mul od_mulI (je_op op_mul od_mulI je_int (je_var 3)) (je_var 3))) je_int) je_int) je_int))
      (js_cons (js_set 5 nd (je_op op_mod od_mod (je_op op_add3 od_add (je_op op_mul od_mulI (je_var 5) (je_var 5)) (je_op op_mul od_mulI je_int (je_var 3))) je_int))
      (js_one (js_ret (je_op op_mod od_mod (je_op op_fdiv od_fdiv (je_op op_mod od_mod (je_op op_mul od_mulI (je_var 5) (je_op op_add3 od_add (je_op op_mod od_mod (je_var 5) je_int) je_int)) je_int) je_int) (je_var 1))))))))))))
theorem ok_law_two (T : Top P w K mg base) : FnOk P w K mg base (L2.CX P w) 2 T.a_law_two T.fd_law_two ["_law_feed_here"] (spF K T.cA 1 m_law_two) :=
  fn_ok T.F_law_two sc_law_two fun cdv A outer s H E hr => by
    have nd := sc_law_two.nd
    have tk : Takes (cxOf (L2.CX P w) P w K mg base ["_law_feed_here", "_law_p", "_law_q", "_law_ties", "_law_k", "_law_tie"] "_law_two" (defScope s_law_two) T.a_law_two cdv A outer s H E) (WF E) := takes_of rfl rfl rfl rfl
    have hp : PassesOwn (model P w) (cxOf (L2.CX P w) P w K mg base ["_law_feed_here", "_law_p", "_law_q", "_law_ties", "_law_k", "_law_tie"] "_law_two" (defScope s_law_two) T.a_law_two cdv A outer s H E).A (cxOf (L2.CX P w) P w K mg base ["_law_feed_here", "_law_p", "_law_q", "_law_ties", "_law_k", "_law_tie"] "_law_two" (defScope s_law_two) T.a_law_two cdv A outer s H E).env (cxOf (L2.CX P w) P w K mg base ["_law_feed_here", "_law_p", "_law_q", "_law_ties", "_law_k", "_law_tie"] "_law_two" (defScope s_law_two) T.a_law_two cdv A outer s H E).xe := passes_of rfl
    exact (js_cons (js_par 1 2 rfl nd (ja_cons (je_op op_add3 od_add je_int (je_call (ok_law_draw T) (hr.mono (by decide)) rfl T.g_law_draw T.F_law_draw.kp T.b_law_draw tk (ja_cons (je_var 0) (ja_cons je_int ja_nil)))) (ja_cons (je_op op_add3 od_add je_int (je_call (ok_law_draw T) (hr.mono (by decide)) rfl T.g_law_draw T.F_law_draw.kp T.b_law_draw tk (ja_cons (je_var 0) (ja_cons je_int ja_nil)))) ja_nil)))
      (js_cons (js_set 3 nd (je_cel (jf_lst ja_nil)))
      (js_cons (js_for [4, 5] hp rfl (ji_range1 rfl T.n_range (ja_cons (je_ix (je_fz (jf_lst (ja_cons (je_call (ok_law_draw T) (hr.mono (by decide)) rfl T.g_law_draw T.F_law_draw.kp T.b_law_draw tk (ja_cons (je_var 0) (ja_cons je_int ja_nil))) (ja_cons (je_op op_mul od_mulI je_int (je_var 1)) ja_nil)))) (je_op op_fdiv od_fdiv (je_call (ok_law_draw T) (hr.mono (by decide)) rfl T.g_law_draw T.F_law_draw.kp T.b_law_draw tk (ja_cons (je_var 0) (ja_cons je_int ja_nil))) je_int)) ja_nil)) (jg_name 4 nd)
      (js_cons (js_set 5 nd (je_tup (ja_cons (je_call (ok_law_draw T) (hr.mono (by decide)) rfl T.g_law_draw T.F_law_draw.kp T.b_law_draw tk (ja_cons (je_var 0) (ja_cons (je_var 1) ja_nil))) (ja_cons (je_call (ok_law_draw T) (hr.mono (by decide)) rfl T.g_law_draw T.F_law_draw.kp T.b_law_draw tk (ja_cons (je_var 0) (ja_cons (je_var 2) ja_nil))) ja_nil))))
      (js_one (js_if (PW.pt (jw_and (jt_cmp (op_notInU (hu65 hr)) od_in (je_var 5) (je_var 3) (by rfl)) (jw_and1 (jt_cmp (op_lt2 hr.units0) od_lt (je_B call_len_seq cd_len rfl T.n_len (by decide +kernel) (ja_cons (je_var 3) ja_nil)) je_int (nomark _))))) (js_one (js_expr (je_mt tyd_list md_append (pe_bm PySem.F.plainAttrs_list PySem.F.slot_list_append PySem.F.type_list_append mt_append (je_var 3) (ja_cons (je_var 5) ja_nil))))) js_nil))))
      (js_one (js_ret (je_tup (ja_cons (je_var 1) (ja_cons (je_var 2) (ja_cons (je_Ty call_tupleZ cd_tuple rfl T.n_tuple (by decide +kernel) (ja_cons (je_fz (jf_B (cr_sortD hr.units) cf_sorted rfl T.n_sorted (by decide +kernel) (ja_cons (je_var 3) ja_nil))) ja_nil)) ja_nil)))))))))
theorem ok_law_crossings (T : Top P w K mg base) : FnOk P w K mg base (L2.CX P w) 1 T.a_law_crossings T.fd_law_crossings ["_law_web_here", "_law_high", "_law_low"] (spF K T.cA 3 m_law_crossings) :=
  fn_ok T.F_law_crossings sc_law_crossings fun cdv A outer s H E hr => by
    have nd := sc_law_crossings.nd
    have tk : Takes (cxOf (L2.CX P w) P w K mg base ["_law_web_here", "_law_high", "_law_low", "_law_found", "_law_k", "_law_a", "_law_b", "_law_c", "_law_d", "_law_here", "_law_there"] "_law_crossings" (defScope s_law_crossings) T.a_law_crossings cdv A outer s H E) (WF E) := takes_of rfl rfl rfl rfl
    have hp : PassesOwn (model P w) (cxOf (L2.CX P w) P w K mg base ["_law_web_here", "_law_high", "_law_low", "_law_found", "_law_k", "_law_a", "_law_b", "_law_c", "_law_d", "_law_here", "_law_there"] "_law_crossings" (defScope s_law_crossings) T.a_law_crossings cdv A outer s H E).A (cxOf (L2.CX P w) P w K mg base ["_law_web_here", "_law_high", "_law_low", "_law_found", "_law_k", "_law_a", "_law_b", "_law_c", "_law_d", "_law_here", "_law_there"] "_law_crossings" (defScope s_law_crossings) T.a_law_crossings cdv A outer s H E).env (cxOf (L2.CX P w) P w K mg base ["_law_web_here", "_law_high", "_law_low", "_law_found", "_law_k", "_law_a", "_law_b", "_law_c", "_law_d", "_law_here", "_law_there"] "_law_crossings" (defScope s_law_crossings) T.a_law_crossings cdv A outer s H E).xe := passes_of rfl
    exact (js_cons (js_set 3 nd je_int)
      (js_cons (js_for [4, 5, 6, 7, 8, 9, 10] hp rfl (ji_enum rfl T.n_enumerate (ja_cons (je_ix (je_var 0) je_int) ja_nil)) (jg_tup rfl (jgs_cons (jg_name 4 nd) (jgs_cons (jg_tup rfl (jgs_cons (jg_name 5 nd) (jgs_cons (jg_name 6 nd) jgs_nil))) jgs_nil)))
      (js_one (js_for [7, 8, 9, 10] hp rfl (ji_seq (je_sl (je_ix (je_var 0) je_int) (jo_some (je_op op_add3 od_add (je_var 4) je_int)) jo_none)) (jg_tup rfl (jgs_cons (jg_name 7 nd) (jgs_cons (jg_name 8 nd) jgs_nil)))
      (js_cons (js_set 9 nd (je_op op_sub od_sub (je_index (hu65 hr) (je_var 1) (ja_cons (je_var 5) ja_nil)) (je_index (hu65 hr) (je_var 1) (ja_cons (je_var 7) ja_nil))))
      (js_cons (js_set 10 nd (je_op op_sub od_sub (je_index (hu65 hr) (je_var 2) (ja_cons (je_var 6) ja_nil)) (je_index (hu65 hr) (je_var 2) (ja_cons (je_var 8) ja_nil))))
      (js_one (js_if (jt_cmp (op_lt2 hr.units0) od_lt (je_op op_mul od_mulI (je_var 9) (je_var 10)) je_int (nomark _)) (js_one (js_set 3 nd (je_op op_add3 od_add (je_var 3) je_int))) js_nil)))))))
      (js_one (js_ret (je_var 3)))))
theorem ok_law_row (T : Top P w K mg base) : FnOk P w K mg base (L2.CX P w) 2 T.a_law_row T.fd_law_row ["_law_feed_here", "_law_many"] (spF K T.cA 2 m_law_row) :=
  fn_ok T.F_law_row sc_law_row fun cdv A outer s H E hr => by
    have nd := sc_law_row.nd
    have tk : Takes (cxOf (L2.CX P w) P w K mg base ["_law_feed_here", "_law_many", "_law_left", "_law_found"] "_law_row" (defScope s_law_row) T.a_law_row cdv A outer s H E) (WF E) := takes_of rfl rfl rfl rfl
    have hp : PassesOwn (model P w) (cxOf (L2.CX P w) P w K mg base ["_law_feed_here", "_law_many", "_law_left", "_law_found"] "_law_row" (defScope s_law_row) T.a_law_row cdv A outer s H E).A (cxOf (L2.CX P w) P w K mg base ["_law_feed_here", "_law_many", "_law_left", "_law_found"] "_law_row" (defScope s_law_row) T.a_law_row cdv A outer s H E).env (cxOf (L2.CX P w) P w K mg base ["_law_feed_here", "_law_many", "_law_left", "_law_found"] "_law_row" (defScope s_law_row) T.a_law_row cdv A outer s H E).xe := passes_of rfl
    exact (js_cons (js_set 2 nd (je_cel (jf_lr1 rfl rfl T.n_list rfl T.n_range (je_var 1))))
      (js_cons (js_set 3 nd (je_cel (jf_lst ja_nil)))
      (js_cons (js_while fuel0 [] hp (jt_cmp (op_neD hr.units) od_ne (je_var 2) (je_fz (jf_lst ja_nil)) (nomark _))
      (js_one (js_expr (je_mt tyd_list md_append (pe_bm PySem.F.plainAttrs_list PySem.F.slot_list_append PySem.F.type_list_append mt_append (je_var 3) (ja_cons (je_mt tyd_list md_pop (pe_bm PySem.F.plainAttrs_list PySem.F.slot_list_pop PySem.F.type_list_pop mt_popAt (je_var 2) (ja_cons (je_call (ok_law_draw T) (hr.mono (by decide)) rfl T.g_law_draw T.F_law_draw.kp T.b_law_draw tk (ja_cons (je_var 0) (ja_cons (je_B call_len_seq cd_len rfl T.n_len (by decide +kernel) (ja_cons (je_var 2) ja_nil)) ja_nil))) ja_nil))) ja_nil))))))
      (js_one (js_ret (je_Ty call_tupleZ cd_tuple rfl T.n_tuple (by decide +kernel) (ja_cons (je_var 3) ja_nil)))))))
theorem ok_law_alike (T : Top P w K mg base) : FnOk P w K mg base (L2.CX P w) 1 T.a_law_alike T.fd_law_alike ["_law_found", "_law_due"] (spF K T.cA 2 m_law_alike) :=
  fn_ok T.F_law_alike sc_law_alike fun cdv A outer s H E hr => by
    have nd := sc_law_alike.nd
    have tk : Takes (cxOf (L2.CX P w) P w K mg base ["_law_found", "_law_due"] "_law_alike" (defScope s_law_alike) T.a_law_alike cdv A outer s H E) (WF E) := takes_of rfl rfl rfl rfl
    have hp : PassesOwn (model P w) (cxOf (L2.CX P w) P w K mg base ["_law_found", "_law_due"] "_law_alike" (defScope s_law_alike) T.a_law_alike cdv A outer s H E).A (cxOf (L2.CX P w) P w K mg base ["_law_found", "_law_due"] "_law_alike" (defScope s_law_alike) T.a_law_alike cdv A outer s H E).env (cxOf (L2.CX P w) P w K mg base ["_law_found", "_law_due"] "_law_alike" (defScope s_law_alike) T.a_law_alike cdv A outer s H E).xe := passes_of rfl
    exact (js_one (js_ret (je_and (je_B call_isi cd_isi rfl T.n_isinstance (by decide +kernel) (ja_cons (je_var 0) (ja_cons (je_ty rfl T.n_int (by decide +kernel)) ja_nil))) (je_and (je_not (je_B call_isi cd_isi rfl T.n_isinstance (by decide +kernel) (ja_cons (je_var 0) (ja_cons (je_ty rfl T.n_bool (by decide +kernel)) ja_nil)))) (je_one (je_cmp (op_eqD hr.units) od_eq (je_var 0) (je_var 1) (nomark _)))))))
theorem ok_is_whole (T : Top P w K mg base) : FnOk P w K mg base (L2.CX P w) 1 T.a_is_whole T.fd_is_whole ["thing"] (spF K T.cA 1 m_is_whole) :=
  fn_ok T.F_is_whole sc_is_whole fun cdv A outer s H E hr => by
    have nd := sc_is_whole.nd
    have tk : Takes (cxOf (L2.CX P w) P w K mg base ["thing"] "is_whole" (defScope s_is_whole) T.a_is_whole cdv A outer s H E) (WF E) := takes_of rfl rfl rfl rfl
    have hp : PassesOwn (model P w) (cxOf (L2.CX P w) P w K mg base ["thing"] "is_whole" (defScope s_is_whole) T.a_is_whole cdv A outer s H E).A (cxOf (L2.CX P w) P w K mg base ["thing"] "is_whole" (defScope s_is_whole) T.a_is_whole cdv A outer s H E).env (cxOf (L2.CX P w) P w K mg base ["thing"] "is_whole" (defScope s_is_whole) T.a_is_whole cdv A outer s H E).xe := passes_of rfl
    exact (js_one (js_ret (je_and (je_B call_isi cd_isi rfl T.n_isinstance (by decide +kernel) (ja_cons (je_var 0) (ja_cons (je_ty rfl T.n_int (by decide +kernel)) ja_nil))) (je_one (je_not (je_B call_isi cd_isi rfl T.n_isinstance (by decide +kernel) (ja_cons (je_var 0) (ja_cons (je_ty rfl T.n_bool (by decide +kernel)) ja_nil))))))))
theorem ok_is_order (T : Top P w K mg base) : FnOk P w K mg base (L2.CX P w) 2 T.a_is_order T.fd_is_order ["thing", "many"] (spF K T.cA 2 m_is_order) :=
  fn_ok T.F_is_order sc_is_order fun cdv A outer s H E hr => by
    have nd := sc_is_order.nd
    have tk : Takes (cxOf (L2.CX P w) P w K mg base ["thing", "many", "place"] "is_order" (defScope s_is_order) T.a_is_order cdv A outer s H E) (WF E) := takes_of rfl rfl rfl rfl
    have hp : PassesOwn (model P w) (cxOf (L2.CX P w) P w K mg base ["thing", "many", "place"] "is_order" (defScope s_is_order) T.a_is_order cdv A outer s H E).A (cxOf (L2.CX P w) P w K mg base ["thing", "many", "place"] "is_order" (defScope s_is_order) T.a_is_order cdv A outer s H E).env (cxOf (L2.CX P w) P w K mg base ["thing", "many", "place"] "is_order" (defScope s_is_order) T.a_is_order cdv A outer s H E).xe := passes_of rfl
    exact (js_cons (js_if (PW.pt (jw_or (jt_not (jt_val (je_B call_isi cd_isi rfl T.n_isinstance (by decide +kernel) (ja_cons (je_var 0) (ja_cons (je_ty rfl T.n_tuple (by decide +kernel)) ja_nil))))) (jw_or1 (jt_not (jt_val (je_B (cr_all rfl) cd_all rfl T.n_all (by decide +kernel) (ja_cons (je_fz (jf_lc [("place", 2)] rfl nd (ji_seq (je_var 0)) (blkOk_by (N := ["thing", "many", "place"]) (sc := defScope s_is_order) (own := [("place", 2)]) (by decide +kernel)) (fun _ _ _ _ _ => (jgo_name 2 nd)) (fun _ _ _ _ _ => jts_nil) (fun _ _ _ _ _ => (je_call (ok_is_whole T) (hr.mono (by decide)) rfl T.g_is_whole T.F_is_whole.kp T.b_is_whole takes0 (ja_cons (je_var 2) ja_nil))))) ja_nil))))))) (js_one (js_ret je_bl)) js_nil)
      (js_one (js_ret (je_cmp (op_eqD hr.units) od_eq (je_fz (jf_B (cr_sortD hr.units) cf_sorted rfl T.n_sorted (by decide +kernel) (ja_cons (je_var 0) ja_nil))) (je_fz (jf_lr1 rfl rfl T.n_list rfl T.n_range (je_var 1))) (nomark _)))))
theorem ok_upper_looked_at (T : Top P w K mg base) : FnOk P w K mg base (L2.CX P w) 3 T.a_upper_looked_at T.fd_upper_looked_at ["web", "upper"] (spF K T.cA 2 m_upper_looked_at) :=
  fn_ok T.F_upper_looked_at sc_upper_looked_at fun cdv A outer s H E hr => by
    have nd := sc_upper_looked_at.nd
    have tk : Takes (cxOf (L2.CX P w) P w K mg base ["web", "upper"] "upper_looked_at" (defScope s_upper_looked_at) T.a_upper_looked_at cdv A outer s H E) (WF E) := takes_of rfl rfl rfl rfl
    have hp : PassesOwn (model P w) (cxOf (L2.CX P w) P w K mg base ["web", "upper"] "upper_looked_at" (defScope s_upper_looked_at) T.a_upper_looked_at cdv A outer s H E).A (cxOf (L2.CX P w) P w K mg base ["web", "upper"] "upper_looked_at" (defScope s_upper_looked_at) T.a_upper_looked_at cdv A outer s H E).env (cxOf (L2.CX P w) P w K mg base ["web", "upper"] "upper_looked_at" (defScope s_upper_looked_at) T.a_upper_looked_at cdv A outer s H E).xe := passes_of rfl
    exact (js_one (js_if (jt_not (jt_val (je_call (ok_is_order T) (hr.mono (by decide)) rfl T.g_is_order T.F_is_order.kp T.b_is_order tk (ja_cons (je_var 1) (ja_cons (je_ix (je_var 0) je_int) ja_nil))))) (js_one js_bad) js_nil))
theorem ok_both_looked_at (T : Top P w K mg base) : FnOk P w K mg base (L2.CX P w) 4 T.a_both_looked_at T.fd_both_looked_at ["web", "upper", "lower"] (spF K T.cA 3 m_both_looked_at) :=
  fn_ok T.F_both_looked_at sc_both_looked_at fun cdv A outer s H E hr => by
    have nd := sc_both_looked_at.nd
    have tk : Takes (cxOf (L2.CX P w) P w K mg base ["web", "upper", "lower"] "both_looked_at" (defScope s_both_looked_at) T.a_both_looked_at cdv A outer s H E) (WF E) := takes_of rfl rfl rfl rfl
    have hp : PassesOwn (model P w) (cxOf (L2.CX P w) P w K mg base ["web", "upper", "lower"] "both_looked_at" (defScope s_both_looked_at) T.a_both_looked_at cdv A outer s H E).A (cxOf (L2.CX P w) P w K mg base ["web", "upper", "lower"] "both_looked_at" (defScope s_both_looked_at) T.a_both_looked_at cdv A outer s H E).env (cxOf (L2.CX P w) P w K mg base ["web", "upper", "lower"] "both_looked_at" (defScope s_both_looked_at) T.a_both_looked_at cdv A outer s H E).xe := passes_of rfl
    exact (js_cons (js_expr (je_call (ok_upper_looked_at T) (hr.mono (by decide)) rfl T.g_upper_looked_at T.F_upper_looked_at.kp T.b_upper_looked_at tk (ja_cons (je_var 0) (ja_cons (je_var 1) ja_nil))))
      (js_one (js_if (jt_not (jt_val (je_call (ok_is_order T) (hr.mono (by decide)) rfl T.g_is_order T.F_is_order.kp T.b_is_order tk (ja_cons (je_var 2) (ja_cons (je_ix (je_var 0) je_int) ja_nil))))) (js_one js_bad) js_nil)))
theorem ok_crossed (T : Top P w K mg base) : FnOk P w K mg base (L2.CX P w) 5 T.a_crossed T.fd_crossed ["web", "upper", "lower"] (spF K T.cA 3 m_crossed) :=
  fn_ok T.F_crossed sc_crossed fun cdv A outer s H E hr => by
    have nd := sc_crossed.nd
    have tk : Takes (cxOf (L2.CX P w) P w K mg base ["web", "upper", "lower", "spots", "found", "a", "b", "c", "d"] "crossed" (defScope s_crossed) T.a_crossed cdv A outer s H E) (WF E) := takes_of rfl rfl rfl rfl
    have hp : PassesOwn (model P w) (cxOf (L2.CX P w) P w K mg base ["web", "upper", "lower", "spots", "found", "a", "b", "c", "d"] "crossed" (defScope s_crossed) T.a_crossed cdv A outer s H E).A (cxOf (L2.CX P w) P w K mg base ["web", "upper", "lower", "spots", "found", "a", "b", "c", "d"] "crossed" (defScope s_crossed) T.a_crossed cdv A outer s H E).env (cxOf (L2.CX P w) P w K mg base ["web", "upper", "lower", "spots", "found", "a", "b", "c", "d"] "crossed" (defScope s_crossed) T.a_crossed cdv A outer s H E).xe := passes_of rfl
    exact (js_cons (js_expr (je_call (ok_both_looked_at T) (hr.mono (by decide)) rfl T.g_both_looked_at T.F_both_looked_at.kp T.b_both_looked_at tk (ja_cons (je_var 0) (ja_cons (je_var 1) (ja_cons (je_var 2) ja_nil)))))
      (js_cons (js_setLc 3 [("a", 5), ("b", 6)] fz_read rfl nd (sw_true rfl rfl rfl (by decide +kernel)) (ji_seq (je_ix (je_var 0) je_int)) (blkOk_by (N := ["web", "upper", "lower", "spots", "found", "a", "b", "c", "d"]) (sc := defScope s_crossed) (own := [("a", 5), ("b", 6)]) (by decide +kernel)) (fun _ _ _ _ _ => (jgo_tup rfl (jgso_cons (jgo_name 5 nd) (jgso_cons (jgo_name 6 nd) jgso_nil)))) (fun _ _ _ _ _ => jts_nil) (fun _ _ _ _ _ => (je_tup (ja_cons (je_index (hu65 hr) (je_var 1) (ja_cons (je_var 5) ja_nil)) (ja_cons (je_index (hu65 hr) (je_var 2) (ja_cons (je_var 6) ja_nil)) ja_nil)))))
      (js_cons (js_set 4 nd je_int)
      (js_cons (js_for [5, 6] hp rfl (ji_seq (je_var 3)) (jg_tup rfl (jgs_cons (jg_name 5 nd) (jgs_cons (jg_name 6 nd) jgs_nil)))
      (js_one (js_aug 4 nd (je_B call_len_seq cd_len rfl T.n_len (by decide +kernel) (ja_cons (je_fz (jf_lc [("c", 7), ("d", 8)] rfl nd (ji_seq (je_var 3)) (blkOk_by (N := ["web", "upper", "lower", "spots", "found", "a", "b", "c", "d"]) (sc := defScope s_crossed) (own := [("c", 7), ("d", 8)]) (by decide +kernel)) (fun _ _ _ _ _ => (jgo_tup rfl (jgso_cons (jgo_name 7 nd) (jgso_cons (jgo_name 8 nd) jgso_nil)))) (fun _ _ _ _ _ => (jts_one (PW.pt (jw_and (jt_cmp (op_lt2 hr.units0) od_lt (je_var 5) (je_var 7) (nomark _)) (jw_and1 (jt_cmp op_gt od_gt (je_var 6) (je_var 8) (nomark _))))))) (fun _ _ _ _ _ => je_int))) ja_nil)) ip_add ipd_add)))
      (js_one (js_ret (je_var 4)))))))
theorem ok_law_between (T : Top P w K mg base) : FnOk P w K mg base (L2.CX P w) 1 T.a_law_between T.fd_law_between ["_law_web_here", "_law_high", "_law_b", "_law_d"] (spF K T.cA 4 m_law_between) :=
  fn_ok T.F_law_between sc_law_between fun cdv A outer s H E hr => by
    have nd := sc_law_between.nd
    have tk : Takes (cxOf (L2.CX P w) P w K mg base ["_law_web_here", "_law_high", "_law_b", "_law_d", "_law_found", "_law_a", "_law_place", "_law_c", "_law_far"] "_law_between" (defScope s_law_between) T.a_law_between cdv A outer s H E) (WF E) := takes_of rfl rfl rfl rfl
    have hp : PassesOwn (model P w) (cxOf (L2.CX P w) P w K mg base ["_law_web_here", "_law_high", "_law_b", "_law_d", "_law_found", "_law_a", "_law_place", "_law_c", "_law_far"] "_law_between" (defScope s_law_between) T.a_law_between cdv A outer s H E).A (cxOf (L2.CX P w) P w K mg base ["_law_web_here", "_law_high", "_law_b", "_law_d", "_law_found", "_law_a", "_law_place", "_law_c", "_law_far"] "_law_between" (defScope s_law_between) T.a_law_between cdv A outer s H E).env (cxOf (L2.CX P w) P w K mg base ["_law_web_here", "_law_high", "_law_b", "_law_d", "_law_found", "_law_a", "_law_place", "_law_c", "_law_far"] "_law_between" (defScope s_law_between) T.a_law_between cdv A outer s H E).xe := passes_of rfl
    exact (js_cons (js_set 4 nd je_int)
      (js_cons (js_for [5, 6, 7, 8] hp rfl (ji_seq (je_ix (je_var 0) je_int)) (jg_tup rfl (jgs_cons (jg_name 5 nd) (jgs_cons (jg_name 6 nd) jgs_nil)))
      (js_one (js_for [7, 8] hp rfl (ji_seq (je_ix (je_var 0) je_int)) (jg_tup rfl (jgs_cons (jg_name 7 nd) (jgs_cons (jg_name 8 nd) jgs_nil)))
      (js_one (js_if (PW.pt (jw_and (jt_cmp (op_eqD hr.units) od_eq (je_var 6) (je_var 2) (nomark _)) (jw_and (jt_cmp (op_eqD hr.units) od_eq (je_var 8) (je_var 3) (nomark _)) (jw_and1 (jt_cmp (op_lt2 hr.units0) od_lt (je_index (hu65 hr) (je_var 1) (ja_cons (je_var 7) ja_nil)) (je_index (hu65 hr) (je_var 1) (ja_cons (je_var 5) ja_nil)) (nomark _)))))) (js_one (js_set 4 nd (je_op op_add3 od_add (je_var 4) je_int))) js_nil)))))
      (js_one (js_ret (je_var 4)))))
theorem ok_number_of (T : Top P w K mg base) : FnOk P w K mg base (L2.CX P w) 4 T.a_number_of T.fd_number_of ["web", "upper", "b", "d"] (spF K T.cA 4 m_number_of) :=
  fn_ok T.F_number_of sc_number_of fun cdv A outer s H E hr => by
    have nd := sc_number_of.nd
    have tk : Takes (cxOf (L2.CX P w) P w K mg base ["web", "upper", "b", "d", "ones", "others", "a", "place", "c"] "number_of" (defScope s_number_of) T.a_number_of cdv A outer s H E) (WF E) := takes_of rfl rfl rfl rfl
    have hp : PassesOwn (model P w) (cxOf (L2.CX P w) P w K mg base ["web", "upper", "b", "d", "ones", "others", "a", "place", "c"] "number_of" (defScope s_number_of) T.a_number_of cdv A outer s H E).A (cxOf (L2.CX P w) P w K mg base ["web", "upper", "b", "d", "ones", "others", "a", "place", "c"] "number_of" (defScope s_number_of) T.a_number_of cdv A outer s H E).env (cxOf (L2.CX P w) P w K mg base ["web", "upper", "b", "d", "ones", "others", "a", "place", "c"] "number_of" (defScope s_number_of) T.a_number_of cdv A outer s H E).xe := passes_of rfl
    exact (js_cons (js_expr (je_call (ok_upper_looked_at T) (hr.mono (by decide)) rfl T.g_upper_looked_at T.F_upper_looked_at.kp T.b_upper_looked_at tk (ja_cons (je_var 0) (ja_cons (je_var 1) ja_nil))))
      (js_cons (js_setLc 4 [("a", 6), ("place", 7)] fz_read rfl nd (sw_true rfl rfl rfl (by decide +kernel)) (ji_seq (je_ix (je_var 0) je_int)) (blkOk_by (N := ["web", "upper", "b", "d", "ones", "others", "a", "place", "c"]) (sc := defScope s_number_of) (own := [("a", 6), ("place", 7)]) (by decide +kernel)) (fun _ _ _ _ _ => (jgo_tup rfl (jgso_cons (jgo_name 6 nd) (jgso_cons (jgo_name 7 nd) jgso_nil)))) (fun _ _ _ _ _ => (jts_one (jt_cmp (op_eqD hr.units) od_eq (je_var 7) (je_var 2) (nomark _)))) (fun _ _ _ _ _ => (je_index (hu65 hr) (je_var 1) (ja_cons (je_var 6) ja_nil))))
      (js_cons (js_set 5 nd (je_fz (jf_lc [("a", 6), ("place", 7)] rfl nd (ji_seq (je_ix (je_var 0) je_int)) (blkOk_by (N := ["web", "upper", "b", "d", "ones", "others", "a", "place", "c"]) (sc := defScope s_number_of) (own := [("a", 6), ("place", 7)]) (by decide +kernel)) (fun _ _ _ _ _ => (jgo_tup rfl (jgso_cons (jgo_name 6 nd) (jgso_cons (jgo_name 7 nd) jgso_nil)))) (fun _ _ _ _ _ => (jts_one (jt_cmp (op_eqD hr.units) od_eq (je_var 7) (je_var 3) (nomark _)))) (fun _ _ _ _ _ => (je_index (hu65 hr) (je_var 1) (ja_cons (je_var 6) ja_nil))))))
      (js_one (js_ret (je_B (cr_sum rfl) cd_sum rfl T.n_sum (by decide +kernel) (ja_cons (je_fz (jf_lc [("a", 6)] rfl nd (ji_seq (je_var 4)) (blkOk_by (N := ["web", "upper", "b", "d", "ones", "others", "a", "place", "c"]) (sc := defScope s_number_of) (own := [("a", 6)]) (by decide +kernel)) (fun _ _ _ _ _ => (jgo_name 6 nd)) (fun _ _ _ _ _ => jts_nil) (fun _ _ _ _ _ => (je_B call_len_seq cd_len rfl T.n_len (by decide +kernel) (ja_cons (je_fz (jf_lc [("c", 8)] rfl nd (ji_seq (je_var 5)) (blkOk_by (own := [("c", 8)]) (by kernel_rfl)) (fun _ _ _ _ _ => (jgo_name 8 nd)) (fun _ _ _ _ _ => (jts_one (jt_cmp (op_lt2 hr.units0) od_lt (je_var 8) (je_var 6) (nomark _)))) (fun _ _ _ _ _ => je_int))) ja_nil))))) ja_nil)))))))
theorem ok_law (T : Top P w K mg base) : FnOk P w K mg base (L2.CX P w) 6 T.a_law T.fd_law ["_law_script"] (spF K T.cA 1 m_law) :=
  fn_ok T.F_law sc_law fun cdv A outer s H E hr => by
    have nd := sc_law.nd
    have tk : Takes (cxOf (L2.CX P w) P w K mg base ["_law_script", "_law_feed_here", "_law_here", "_law_bout", "_law_high", "_law_low", "_law_due", "_law_b", "_law_d"] "law" (defScope s_law) T.a_law cdv A outer s H E) (WF E) := takes_of rfl rfl rfl rfl
    have hp : PassesOwn (model P w) (cxOf (L2.CX P w) P w K mg base ["_law_script", "_law_feed_here", "_law_here", "_law_bout", "_law_high", "_law_low", "_law_due", "_law_b", "_law_d"] "law" (defScope s_law) T.a_law cdv A outer s H E).A (cxOf (L2.CX P w) P w K mg base ["_law_script", "_law_feed_here", "_law_here", "_law_bout", "_law_high", "_law_low", "_law_due", "_law_b", "_law_d"] "law" (defScope s_law) T.a_law cdv A outer s H E).env (cxOf (L2.CX P w) P w K mg base ["_law_script", "_law_feed_here", "_law_here", "_law_bout", "_law_high", "_law_low", "_law_due", "_law_b", "_law_d"] "law" (defScope s_law) T.a_law cdv A outer s H E).xe := passes_of rfl
    exact (js_cons (js_set 1 nd (je_call (ok_law_feed T) (hr.mono (by decide)) rfl T.g_law_feed T.F_law_feed.kp T.b_law_feed tk (ja_cons (je_var 0) ja_nil)))
      (js_cons (js_set 2 nd (je_call (ok_law_two T) (hr.mono (by decide)) rfl T.g_law_two T.F_law_two.kp T.b_law_two tk (ja_cons (je_var 1) ja_nil)))
      (js_cons (js_for [3, 4, 5, 6, 7, 8] hp rfl (ji_range1 rfl T.n_range (ja_cons je_int ja_nil)) (jg_name 3 nd)
      (js_cons (js_par 4 5 rfl nd (ja_cons (je_call (ok_law_row T) (hr.mono (by decide)) rfl T.g_law_row T.F_law_row.kp T.b_law_row tk (ja_cons (je_var 1) (ja_cons (je_ix (je_var 2) je_int) ja_nil))) (ja_cons (je_call (ok_law_row T) (hr.mono (by decide)) rfl T.g_law_row T.F_law_row.kp T.b_law_row tk (ja_cons (je_var 1) (ja_cons (je_ix (je_var 2) je_int) ja_nil))) ja_nil)))
      (js_cons (js_set 6 nd (je_call (ok_law_crossings T) (hr.mono (by decide)) rfl T.g_law_crossings T.F_law_crossings.kp T.b_law_crossings tk (ja_cons (je_var 2) (ja_cons (je_var 4) (ja_cons (je_var 5) ja_nil)))))
      (js_cons (js_if (jt_not (jt_val (je_call (ok_law_alike T) (hr.mono (by decide)) rfl T.g_law_alike T.F_law_alike.kp T.b_law_alike tk (ja_cons (je_call (ok_crossed T) (hr.mono (by decide)) rfl T.g_crossed T.F_crossed.kp T.b_crossed tk (ja_cons (je_var 2) (ja_cons (je_var 4) (ja_cons (je_var 5) ja_nil)))) (ja_cons (je_var 6) ja_nil))))) (js_one (js_ret je_bl)) js_nil)
      (js_cons (js_if (jt_not (jt_val (je_call (ok_law_alike T) (hr.mono (by decide)) rfl T.g_law_alike T.F_law_alike.kp T.b_law_alike tk (ja_cons (je_call (ok_crossed T) (hr.mono (by decide)) rfl T.g_crossed T.F_crossed.kp T.b_crossed tk (ja_cons (je_var 2) (ja_cons (je_rev (je_var 4)) (ja_cons (je_rev (je_var 5)) ja_nil)))) (ja_cons (je_var 6) ja_nil))))) (js_one (js_ret je_bl)) js_nil)
      (js_one (js_for [7, 8, 6] hp rfl (ji_range1 rfl T.n_range (ja_cons (je_ix (je_var 2) je_int) ja_nil)) (jg_name 7 nd)
      (js_one (js_for [8, 6] hp rfl (ji_range1 rfl T.n_range (ja_cons (je_ix (je_var 2) je_int) ja_nil)) (jg_name 8 nd)
      (js_one (js_cl [6] (js_if (jt_cmp (op_neD hr.units) od_ne (je_var 7) (je_var 8) (nomark _)) (js_cons (js_set 6 nd (je_call (ok_law_between T) (hr.mono (by decide)) rfl T.g_law_between T.F_law_between.kp T.b_law_between tk (ja_cons (je_var 2) (ja_cons (je_var 4) (ja_cons (je_var 7) (ja_cons (je_var 8) ja_nil))))))
      (js_one (js_if (jt_not (jt_val (je_call (ok_law_alike T) (hr.mono (by decide)) rfl T.g_law_alike T.F_law_alike.kp T.b_law_alike tk (ja_cons (je_call (ok_number_of T) (hr.mono (by decide)) rfl T.g_number_of T.F_number_of.kp T.b_number_of tk (ja_cons (je_var 2) (ja_cons (je_var 4) (ja_cons (je_var 7) (ja_cons (je_var 8) ja_nil))))) (ja_cons (je_var 6) ja_nil))))) (js_one (js_ret je_bl)) js_nil))) js_nil))))))))))))
      (js_one (js_ret je_bl)))))
end
theorem is_whole_int (i : Int) (S : Store) : m_is_whole [.int i] S = .ok (.bl true) S := run_pure (by rfl) rfl
/-- the feed: the script's numbers, the turn, what is left of a great number -/
def fdR (ns : List Int) (t c : Int) : Ob := .lst [.lst (ns.map .int), .int t, .int c]
theorem pureFd (ns : List Int) (t c : Int) : pureL [.lst (ns.map .int), .int t, .int c] = true := by
  show (pureL (ns.map D.int) && (true && (true && true))) = true
  rw [pureL_map (fun _ => rfl)]
  rfl
theorem cut63 (ns : List Int) : Rf.cutD (ns.map D.int) none (some 63) = (ns.take 63).map D.int := by
  unfold Rf.cutD
  rw [HT.sIx_none, show HT.sIx (ns.map D.int).length (ns.map D.int).length (some 63) = min 63 (ns.map D.int).length from HT.sIx_nat _ _ 63]
  rw [List.drop_zero, Nat.sub_zero, List.length_map, List.map_take]
  rw [List.take_eq_take_iff]
  simp
theorem feed_spec (ns : List Int) (S : Store) : m_law_feed [.fz (ns.map .int)] S = .ok (.cell S.length) (S ++ [fdR (ns.take 63) 0 0]) := by
  refine run_own (xs := [.lst ((ns.take 63).map .int), .int 0, .int 0]) ?_ (pureFd _ _ _)
  simp [c_law_feed, sRet, cel, Rf.fz, fLst, aCons, aNil, eVar, eC, eB, fList, seqOf, eSl, dSl, oNone, oSome, cut63, big, -List.map_take]
def drw1 (x t : Int) : Int := (x % 2147483647 + 7919 * t * t + 104729) * 48271 % 2147483647
def drw2 (x t : Int) : Int := (drw1 x t * drw1 x t + 69621 * t) % 2147483629
def drawR (x t : Int) : Int := drw2 x t * (drw2 x t % 65521 + 1) % 2147483587 / 64
theorem draw_spec (S : Store) (n : Nat) (ns : List Int) (t c many : Int) (hS : S[n]? = some (fdR ns t c)) (h1 : 0 < many) (h2 : many < 1000) (ht : 0 ≤ t) (ht2 : t < 1000000) :
    ∃ t' c' r, m_law_draw [.cell n, .int many] S = .ok (.int r) (S.set n (fdR ns t' c')) ∧ 0 ≤ r ∧ r < many ∧ t ≤ t' ∧ t' ≤ t + 1 := by
  have hn : n < S.length := (List.getElem?_eq_some_iff.mp hS).1
  unfold fdR at hS
  have hset : ∀ x, (List.set S n x)[n]? = some x := fun x => List.getElem?_set_self hn
  have hd1 : ∀ x : Int, CDiv x many := fun x => ⟨h1, by omega⟩
  have hm1 : CMul (7919 : Int) t := .inl (by decide)
  have hm2 : CMul (7919 * t) t := .inr (by omega)
  have hm3 : ∀ x : Int, CMul x (48271 : Int) := fun x => .inr (by decide)
  have hm4 : CMul (69621 : Int) t := .inl (by decide)
  have hm5 : ∀ x y : Int, CMul (x % 2147483647) y := fun x y => .inl (by have := Int.emod_nonneg x (show (2147483647 : Int) ≠ 0 by decide); have := Int.emod_lt_of_pos x (show (0 : Int) < 2147483647 by decide); omega)
  have hm6 : ∀ x y : Int, CMul (x % 2147483629) y := fun x y => .inl (by have := Int.emod_nonneg x (show (2147483629 : Int) ≠ 0 by decide); have := Int.emod_lt_of_pos x (show (0 : Int) < 2147483629 by decide); omega)
  have hd2 : ∀ x : Int, CDiv x 64 := fun x => by unfold CDiv; decide
  have hp1 : CPow (10 : Int) (18 : Int) := by unfold CPow; decide
  by_cases hc : 0 < c
  · refine ⟨t, c / many, c % many, ?_, Int.emod_nonneg _ (by omega), Int.emod_lt_of_pos _ h1, Int.le_refl _, by omega⟩
    refine run_set (L := []) ?_ rfl (pureFd _ _ _)
    simp [c_law_draw, sSeq, sIf, sFor, sRet, sAsg, sExpr, sCl, sNil, sSet, sPar, sAug, tOr', tAnd', tNot', tYes', tst, eB, e1, Rf.e2, eNot, eAnd, eOr, eIf, aCons, aNil, eVar, eC, eTup, eCall, cel, Rf.fz, fLst, eMt, eSl, oNone, oSome, dIsi, tyN, isiT, dLen, seqOf, isTup, dNe, dEq, dLt, dLe, dGt, dGe, dAdd, dSub, dMod, dFdiv, dMulI, dPow, i2, cT, iSeq, fIt, iR1, IT.chk, pName, pTup, pCons, pNil, clr, dIx, atI, ixN, dSl, big, dMin2, nums, dInt, dTuple, dAppend, isLst, Rf.cellOf, dSetL, sBad, hS, hset, hc, h1, hd1]
  · -- the number at hand
    obtain ⟨x, hx⟩ : ∃ x : Int, (0 < ns.length → atI (ns.map D.int) (t % (ns.length : Nat)) = some (.int x)) ∧ (ns.length = 0 → x = t) := by
      by_cases hl : ns.length = 0
      · exact ⟨t, fun h => absurd hl (by omega), fun _ => rfl⟩
      · have p1 := Int.emod_nonneg t (show ((ns.length : Nat) : Int) ≠ 0 by omega)
        have p2 := Int.emod_lt_of_pos t (show 0 < ((ns.length : Nat) : Int) by omega)
        have hlt : (t % (ns.length : Nat)).toNat < ns.length := by omega
        refine ⟨ns[(t % (ns.length : Nat)).toNat], fun _ => ?_, fun h => absurd h hl⟩
        unfold atI ixN
        rw [List.length_map, if_pos p1, if_pos p2]
        simp [hlt]
    have hlen : ∀ S, dLen [.lst (ns.map D.int)] S = .ok (.int (ns.length : Nat)) S := fun S => by
      show Res.ok (D.int ((ns.map D.int).length : Nat)) S = _
      rw [List.length_map]
    have hcell : ∀ S, (0 < ns.length → dIx (.lst (ns.map D.int)) (.int (t % (ns.length : Nat))) S = .ok (.int x) S) := fun S h => by
      unfold dIx seqOf
      dsimp only
      rw [hx.1 h]
    have ix0 : ∀ S' t' c', S'[n]? = some (.lst [.lst (ns.map .int), .int t', .int c']) → dIx (.cell n) (.int 0) S' = .ok (.lst (ns.map .int)) S' ∧ dIx (.cell n) (.int 1) S' = .ok (.int t') S' ∧ dIx (.cell n) (.int 2) S' = .ok (.int c') S' := fun S' t' c' h => by
      refine ⟨?_, ?_, ?_⟩ <;> (simp [dIx, seqOf, h, atI, ixN])
    have ixA := ix0 S t c hS
    have ixB := ix0 (S.set n (.lst [.lst (ns.map .int), .int (t + 1), .int c])) (t + 1) c (hset _)
    have hcond : (tAnd' (tst (e2 dGe (eVar 4) (e2 dPow (eC (.int 10)) (eC (.int 18))))) (tst (e2 dLt (eVar 3) (eB dLen (aCons (e2 dIx (eVar 0) (eC (.int 0))) aNil)))) : M Bool) [some (.cell n), some (.int many), none, some (.int t), some (.int x), none] (S.set n (.lst [.lst (ns.map .int), .int (t + 1), .int c])) = .ok (decide (10 ^ 18 ≤ x ∧ t < ns.length)) (S.set n (.lst [.lst (ns.map .int), .int (t + 1), .int c])) := by
      by_cases c1 : (10 : Int) ^ 18 ≤ x
      · have c1' : (1000000000000000000 : Int) ≤ x := by omega
        simp [tAnd', tst, Rf.e2, dGe, i2, cT, eVar, eC, dPow, hp1, eB, aCons, aNil, ixB.1, hlen, dLt, c1, c1']
      · have c1' : ¬ (1000000000000000000 : Int) ≤ x := by omega
        simp [tAnd', tst, Rf.e2, dGe, i2, cT, eVar, eC, dPow, hp1, eB, aCons, aNil, ixB.1, hlen, dLt, c1, c1']
    have hfirst : (sIf (tst (e2 dGt (eB dLen (aCons (e2 dIx (eVar 0) (eC (.int 0))) aNil)) (eC (.int 0)))) (sAsg (e2 dIx (e2 dIx (eVar 0) (eC (.int 0))) (e2 dMod (eVar 3) (eB dLen (aCons (e2 dIx (eVar 0) (eC (.int 0))) aNil)))) (pName 4)) sNil : MS) [some (.cell n), some (.int many), none, some (.int t), some (.int t), none] (S.set n (.lst [.lst (ns.map .int), .int (t + 1), .int c])) = .next [some (.cell n), some (.int many), none, some (.int t), some (.int x), none] (S.set n (.lst [.lst (ns.map .int), .int (t + 1), .int c])) := by
      by_cases hl : 0 < ns.length
      · have hl' : (0 : Int) < (ns.length : Nat) := by omega
        simp [sIf, tst, Rf.e2, dGt, i2, cT, eVar, eC, eB, aCons, aNil, ixB.1, hlen, hl, hl', sAsg, dMod, hcell _ hl, pName]
      · have hl0 : ns.length = 0 := by omega
        have hl' : ¬ (0 : Int) < (ns.length : Nat) := by omega
        rw [hx.2 hl0]
        simp [sIf, tst, Rf.e2, dGt, i2, cT, eVar, eC, eB, aCons, aNil, ixB.1, hlen, hl0, hl', sNil]
    have h0 : (sCl [2] (sIf (tst (e2 dGt (e2 dIx (eVar 0) (eC (.int 2))) (eC (.int 0)))) (sSeq (sAsg (e2 dMod (e2 dIx (eVar 0) (eC (.int 2))) (eVar 1)) (pName 2)) (sSeq (sSet (e2 dFdiv (e2 dIx (eVar 0) (eC (.int 2))) (eVar 1)) (eVar 0) (eC (.int 2)) dSetL) (sRet (eVar 2)))) sNil) : MS) [some (.cell n), some (.int many), none, none, none, none] S = .next [some (.cell n), some (.int many), none, none, none, none] S := by
      simp [sCl, sIf, tst, Rf.e2, eVar, eC, ixA, dGt, i2, cT, hc, sNil, clr]
    have q1 : (sAsg (e2 dIx (eVar 0) (eC (.int 1))) (pName 3) : MS) [some (.cell n), some (.int many), none, none, none, none] S = .next [some (.cell n), some (.int many), none, some (.int t), none, none] S := by
      simp [sAsg, Rf.e2, eVar, eC, ixA, pName]
    have q2 : (sSet (e2 dAdd (eVar 3) (eC (.int 1))) (eVar 0) (eC (.int 1)) dSetL : MS) [some (.cell n), some (.int many), none, some (.int t), none, none] S = .next [some (.cell n), some (.int many), none, some (.int t), none, none] (S.set n (.lst [.lst (ns.map .int), .int (t + 1), .int c])) := by
      simp [sSet, Rf.e2, eVar, eC, dAdd, dSetL, Rf.cellOf, hS, ixN]
    have q3 : (sAsg (eVar 3) (pName 4) : MS) [some (.cell n), some (.int many), none, some (.int t), none, none] (S.set n (.lst [.lst (ns.map .int), .int (t + 1), .int c])) = .next [some (.cell n), some (.int many), none, some (.int t), some (.int t), none] (S.set n (.lst [.lst (ns.map .int), .int (t + 1), .int c])) := by
      simp [sAsg, eVar, pName]
    have e0 : ([D.cell n, .int many].map some ++ List.replicate (6 - [D.cell n, .int many].length) none : En) = [some (.cell n), some (.int many), none, none, none, none] := rfl
    by_cases hb : 10 ^ 18 ≤ x ∧ t < ns.length
    · refine ⟨t + 1, x / many, x % many, ?_, Int.emod_nonneg _ (by omega), Int.emod_lt_of_pos _ h1, by omega, Int.le_refl _⟩
      refine run_set (L := []) ?_ rfl (pureFd _ _ _)
      unfold c_law_draw
      rw [decide_eq_true hb] at hcond
      rw [e0, seq_next h0, seq_next q1, seq_next q2, seq_next q3, seq_next hfirst, seq_ret (d := .int (x % many)) (S' := S.set n (.lst [.lst (ns.map .int), .int (t + 1), .int (x / many)]))]
      · rw [List.append_nil]
      · rw [if_yes hcond]
        simp [sSeq, sSet, Rf.e2, eVar, eC, dFdiv, i2, hd1, dSetL, Rf.cellOf, hset, ixN, sRet, dMod, h1]
    · refine ⟨t + 1, c, drawR x t % many, ?_, Int.emod_nonneg _ (show many ≠ 0 by omega), Int.emod_lt_of_pos _ h1, by omega, Int.le_refl _⟩
      refine run_set (L := []) ?_ rfl (pureFd _ _ _)
      unfold c_law_draw
      rw [decide_eq_false hb] at hcond
      have c1 : ∀ y : Int, CMul (drw1 x t) y := fun y => hm5 _ _
      have c2 : ∀ y : Int, CMul (drw2 x t) y := fun y => hm6 _ _
      have q4 : (sAsg (e2 dMod (e2 dMulI (e2 dAdd (e2 dAdd (e2 dMod (eVar 4) (eC (.int 2147483647))) (e2 dMulI (e2 dMulI (eC (.int 7919)) (eVar 3)) (eVar 3))) (eC (.int 104729))) (eC (.int 48271))) (eC (.int 2147483647))) (pName 5) : MS) [some (.cell n), some (.int many), none, some (.int t), some (.int x), none] (S.set n (.lst [.lst (ns.map .int), .int (t + 1), .int c])) = .next [some (.cell n), some (.int many), none, some (.int t), some (.int x), some (.int (drw1 x t))] (S.set n (.lst [.lst (ns.map .int), .int (t + 1), .int c])) := by
        simp [sAsg, Rf.e2, eVar, eC, dMod, i2, dAdd, dMulI, pName, hm1, hm2, hm3, drw1]
      have q5 : (sAsg (e2 dMod (e2 dAdd (e2 dMulI (eVar 5) (eVar 5)) (e2 dMulI (eC (.int 69621)) (eVar 3))) (eC (.int 2147483629))) (pName 5) : MS) [some (.cell n), some (.int many), none, some (.int t), some (.int x), some (.int (drw1 x t))] (S.set n (.lst [.lst (ns.map .int), .int (t + 1), .int c])) = .next [some (.cell n), some (.int many), none, some (.int t), some (.int x), some (.int (drw2 x t))] (S.set n (.lst [.lst (ns.map .int), .int (t + 1), .int c])) := by
        simp [sAsg, Rf.e2, eVar, eC, dMod, i2, dAdd, dMulI, pName, hm4, c1, drw2]
      rw [e0, seq_next h0, seq_next q1, seq_next q2, seq_next q3, seq_next hfirst, seq_next (e' := [some (.cell n), some (.int many), none, some (.int t), some (.int x), none]) (S' := S.set n (.lst [.lst (ns.map .int), .int (t + 1), .int c])), seq_next q4, seq_next q5]
      · rw [List.append_nil]
        simp [sRet, Rf.e2, eVar, eC, dMod, i2, dAdd, dMulI, dFdiv, hd2, c2, h1, drawR]
      · rw [if_no hcond]; rfl

theorem set_app (S : Store) (q : Nat) (o : Ob) (L : Store) (hq : q < S.length) : (S ++ L).set q o = S.set q o ++ L := List.set_append_left _ _ hq
theorem draw_app (S L : Store) (q : Nat) (ns : List Int) (t c many : Int) (hq : q < S.length) (h1 : 0 < many) (h2 : many < 1000) (ht : 0 ≤ t) (ht2 : t < 1000000) :
    ∃ t' c' r, m_law_draw [.cell q, .int many] (S.set q (fdR ns t c) ++ L) = .ok (.int r) (S.set q (fdR ns t' c') ++ L) ∧ 0 ≤ r ∧ r < many ∧ t ≤ t' ∧ t' ≤ t + 1 := by
  have hq' : q < (S.set q (fdR ns t c)).length := by rw [List.length_set]; exact hq
  obtain ⟨t', c', r, e, h3⟩ := draw_spec (S.set q (fdR ns t c) ++ L) q ns t c many (by rw [List.getElem?_append_left hq', List.getElem?_set_self hq]) h1 h2 ht ht2
  refine ⟨t', c', r, ?_, h3⟩
  rw [e, set_app _ _ _ _ hq', List.set_set]
theorem self_set {S : Store} {q : Nat} {o : Ob} (h : S[q]? = some o) : S.set q o = S := by
  have hq : q < S.length := (List.getElem?_eq_some_iff.mp h).1
  apply List.ext_getElem?
  intro i
  by_cases e : i = q
  · subst e; rw [List.getElem?_set_self hq, h]
  · rw [List.getElem?_set_ne (Ne.symm e)]
def rngI (k : Nat) : List Int := (List.range k).map fun i : Nat => (i : Int)
theorem rngI_D (k : Nat) : rangeD 0 k = (rngI k).map D.int := by
  unfold rangeD rngI
  rw [List.map_map]
  apply List.map_congr_left
  intro i _
  show D.int (0 + (i : Nat)) = D.int (i : Nat)
  rw [Int.zero_add]
theorem rngI_len (k : Nat) : (rngI k).length = k := by unfold rngI; simp
theorem shInts : ∀ (n : Nat) (l : List Int), (l.map D.int).all (shD n) = true := fun n l => List.all_eq_true.mpr fun x hx => by
  obtain ⟨i, _, rfl⟩ := List.mem_map.mp hx
  cases n <;> rfl
theorem ne_nil_cell {S : Store} {a : Nat} {l : List Int} (h : S[a]? = some (.lst (l.map .int))) : dNe (.cell a) (.lst []) S = .ok (.bl (decide (l ≠ []))) S := by
  have e : val S (.cell a) = .lst (l.map .int) := by unfold val; dsimp only; rw [h]
  have e2 : dNe (.cell a) (.lst []) S = (if shD dpt (val S (.cell a)) = true ∧ shD dpt (val S (.lst [])) = true then Res.ok (D.bl (!PyData.eqv (py (val S (.cell a))) (py (val S (.lst []))))) S else Res.bad) := rfl
  rw [e2, e, if_pos ⟨shInts 11 l, rfl⟩]
  cases l with
  | nil => rfl
  | cons x l => rfl
theorem erase_map {α β : Type} (f : α → β) : ∀ (l : List α) (i : Nat), (l.map f).eraseIdx i = (l.eraseIdx i).map f
  | [], _ => rfl
  | _ :: _, 0 => rfl
  | x :: l, i + 1 => by show f x :: (l.map f).eraseIdx i = f x :: (l.eraseIdx i).map f; rw [erase_map f l i]
theorem erase_perm {α : Type} : ∀ (l : List α) (i : Nat) (h : i < l.length), (l[i] :: l.eraseIdx i).Perm l
  | x :: l, 0, _ => List.Perm.refl _
  | x :: l, i + 1, h => by
    have h' : i < l.length := by simpa using h
    show (l[i] :: x :: l.eraseIdx i).Perm (x :: l)
    exact (List.Perm.swap x _ _).trans ((erase_perm l i h').cons x)
theorem row_spec (S : Store) (q : Nat) (ns : List Int) (t c : Int) (k : Nat) (hS : S[q]? = some (fdR ns t c)) (hk : k ≤ 100) (ht : 0 ≤ t) (ht2 : t < 100000) :
    ∃ (t' c' : Int) (pm : List Int), m_law_row [.cell q, .int (k : Nat)] S = .ok (.tup (pm.map .int)) (S.set q (fdR ns t' c')) ∧ pm.Perm (rngI k) ∧ t ≤ t' ∧ t' ≤ t + k := by
  have hq : q < S.length := (List.getElem?_eq_some_iff.mp hS).1
  have c1 : ∀ (o : Ob) (x y : List D), (S.set q o ++ [Ob.lst x, Ob.lst y])[S.length]? = some (.lst x) := fun o x y => by
    rw [List.getElem?_append_right (by rw [List.length_set]; exact Nat.le_refl _)]; simp
  have c2 : ∀ (o : Ob) (x y : List D), (S.set q o ++ [Ob.lst x, Ob.lst y])[S.length + 1]? = some (.lst y) := fun o x y => by
    rw [List.getElem?_append_right (by rw [List.length_set]; omega)]; simp
  have s1 : ∀ (o : Ob) (x y z : List D), (S.set q o ++ [Ob.lst x, Ob.lst y]).set S.length (.lst z) = S.set q o ++ [.lst z, .lst y] := fun o x y z => by
    rw [List.set_append_right _ _ (by rw [List.length_set]; exact Nat.le_refl _), List.length_set, Nat.sub_self]; rfl
  have s2 : ∀ (o : Ob) (x y z : List D), (S.set q o ++ [Ob.lst x, Ob.lst y]).set (S.length + 1) (.lst z) = S.set q o ++ [.lst x, .lst z] := fun o x y z => by
    rw [List.set_append_right _ _ (by rw [List.length_set]; omega), List.length_set, show S.length + 1 - S.length = 1 by omega]; rfl
  obtain ⟨env', S', hw, t', c', left, found, he, rfl, hl, hp, ht1, ht3⟩ := while_run (c := tst (e2 dNe (eVar 2) (fz (fLst aNil)))) (body := c_law_row_b1) (dead := [])
    (fun m env S' => ∃ t' c' left found, env = [some (.cell q), some (.int (k : Nat)), some (.cell S.length), some (.cell (S.length + 1))] ∧ S' = S.set q (fdR ns t' c') ++ [.lst (left.map .int), .lst (found.map .int)] ∧ left.length = m ∧ (found ++ left).Perm (rngI k) ∧ t ≤ t' ∧ t' ≤ t + (found.length : Nat)) (by
      rintro m env S' ⟨t', c', left, found, rfl, rfl, hl, hp, h1, h2⟩
      have hlen : found.length + left.length = k := by have := hp.length_eq; rw [List.length_append, rngI_len] at this; exact this
      have hc : (tst (e2 dNe (eVar 2) (fz (fLst aNil))) : M Bool) [some (.cell q), some (.int (k : Nat)), some (.cell S.length), some (.cell (S.length + 1))] (S.set q (fdR ns t' c') ++ [.lst (left.map .int), .lst (found.map .int)]) = .ok (decide (left ≠ [])) (S.set q (fdR ns t' c') ++ [.lst (left.map .int), .lst (found.map .int)]) := by
        have := ne_nil_cell (c1 (fdR ns t' c') (left.map .int) (found.map .int))
        simp only [tst, Rf.e2, eVar, Rf.fz, fLst, aNil]
        simp [this, big]
      refine ⟨fun h0 => ?_, fun h0 => ?_⟩
      · have : left = [] := List.eq_nil_of_length_eq_zero (by omega)
        rw [hc, this]
        rfl
      · have hne : left ≠ [] := fun e => h0 (by rw [← hl, e]; rfl)
        rw [decide_eq_true hne] at hc
        refine ⟨hc, ?_⟩
        obtain ⟨t2, c2', r, e, r0, r1, r2, r3⟩ := draw_app S [.lst (left.map .int), .lst (found.map .int)] q ns t' c' (left.length : Nat) hq (by omega) (by omega) (by omega) (by omega)
        have hr : r.toNat < left.length := by omega
        have hix : ixN left.length r = some r.toNat := by unfold ixN; rw [if_pos r0, if_pos r1]
        refine ⟨_, S.set q (fdR ns t2 c2') ++ [.lst ((left.eraseIdx r.toNat).map .int), .lst ((found ++ [left[r.toNat]]).map .int)], .inl ?_, (left.eraseIdx r.toNat).length, ?_, t2, c2', left.eraseIdx r.toNat, found ++ [left[r.toNat]], rfl, rfl, rfl, ?_, by omega, by rw [List.length_append]; simp; omega⟩
        · have hseq : ∀ (o : Ob), seqOf (S.set q o ++ [.lst (left.map .int), .lst (found.map .int)]) (.cell S.length) = some (left.map .int) := fun o => by unfold seqOf; dsimp only; rw [c1]
          have hlen2 : dLen [.cell S.length] (S.set q (fdR ns t' c') ++ [.lst (left.map .int), .lst (found.map .int)]) = .ok (.int (left.length : Nat)) (S.set q (fdR ns t' c') ++ [.lst (left.map .int), .lst (found.map .int)]) := by
            unfold dLen; dsimp only; rw [hseq]; dsimp only; rw [List.length_map]
          have hpop : dPop (.cell S.length) [.int r] (S.set q (fdR ns t2 c2') ++ [.lst (left.map .int), .lst (found.map .int)]) = .ok (.int left[r.toNat]) (S.set q (fdR ns t2 c2') ++ [.lst ((left.eraseIdx r.toNat).map .int), .lst (found.map .int)]) := by
            have hco : Rf.cellOf (S.set q (fdR ns t2 c2') ++ [.lst (left.map .int), .lst (found.map .int)]) (.cell S.length) = some (S.length, left.map .int) := by unfold Rf.cellOf; dsimp only; rw [c1]
            have her : (left.map D.int).eraseIdx r.toNat = (left.eraseIdx r.toNat).map D.int := erase_map _ _ _
            unfold dPop
            rw [hco]
            simp [hix, hr, big, show left.length ≤ 1000000 by omega, s1, her]
          have happ : dAppend (.cell (S.length + 1)) [.int left[r.toNat]] (S.set q (fdR ns t2 c2') ++ [.lst ((left.eraseIdx r.toNat).map .int), .lst (found.map .int)]) = .ok .non (S.set q (fdR ns t2 c2') ++ [.lst ((left.eraseIdx r.toNat).map .int), .lst ((found ++ [left[r.toNat]]).map .int)]) := by
            have hco : Rf.cellOf (S.set q (fdR ns t2 c2') ++ [.lst ((left.eraseIdx r.toNat).map .int), .lst (found.map .int)]) (.cell (S.length + 1)) = some (S.length + 1, found.map .int) := by unfold Rf.cellOf; dsimp only; rw [c2]
            unfold dAppend
            rw [hco]
            simp [big, show found.length < 1000000 by omega, s2]
          have hA : isLst (.cell (S.length + 1)) (S.set q (fdR ns t' c') ++ [.lst (left.map .int), .lst (found.map .int)]) = true := by
            unfold isLst seqOf; dsimp only; rw [c2]; rfl
          have hB : isLst (.cell S.length) (S.set q (fdR ns t' c') ++ [.lst (left.map .int), .lst (found.map .int)]) = true := by
            unfold isLst; rw [hseq]; rfl
          unfold c_law_row_b1
          refine expr_next (d := .non) ?_
          simp only [eMt, eVar, List.getElem?_cons_succ, List.getElem?_cons_zero, bind_ok, hA, if_true, aCons, aNil, hB, eB, hlen2, eCall, List.length_cons, List.length_nil]
          simp only [e, bind_ok, hpop, happ]
        · rw [List.length_eraseIdx_of_lt hr]; omega
        · have p1 : (left[r.toNat] :: left.eraseIdx r.toNat).Perm left := erase_perm _ _ hr
          have p2 : (found ++ [left[r.toNat]] ++ left.eraseIdx r.toNat).Perm (found ++ left) := by
            rw [List.append_assoc]
            exact List.Perm.append_left found p1
          exact p2.trans hp)
    k fuel0 [some (.cell q), some (.int (k : Nat)), some (.cell S.length), some (.cell (S.length + 1))] (S.set q (fdR ns t c) ++ [.lst ((rngI k).map .int), .lst ([] : List D)]) (by unfold fuel0; omega) ⟨t, c, rngI k, [], rfl, rfl, rngI_len k, List.Perm.refl _, Int.le_refl _, by rw [List.length_nil]; omega⟩
  have hl0 : left = [] := List.eq_nil_of_length_eq_zero hl
  subst hl0
  rw [List.append_nil] at hp
  have hfl : found.length = k := by have := hp.length_eq; rw [rngI_len] at this; exact this
  refine ⟨t', c', found, ?_, hp, ht1, by rw [hfl] at ht3; exact ht3⟩
  refine run_set (L := [.lst [], .lst (found.map .int)]) ?_ (by show pureL (found.map D.int) = true; exact pureL_map (fun _ => rfl) _) (pureFd _ _ _)
  have e0 : ([D.cell q, .int (k : Nat)].map some ++ List.replicate (4 - [D.cell q, .int (k : Nat)].length) none : En) = [some (.cell q), some (.int (k : Nat)), none, none] := rfl
  have hk2 : ((k : Nat) : Int) ≤ 1000000 ∧ -1000000 ≤ ((k : Nat) : Int) := by omega
  have a1 : (sAsg (cel (fLR1 (eVar 1))) (pName 2) : MS) [some (.cell q), some (.int (k : Nat)), none, none] S = .next [some (.cell q), some (.int (k : Nat)), some (.cell S.length), none] (S ++ [.lst ((rngI k).map .int)]) := by
    simp [sAsg, cel, fLR1, eVar, hk2, rngI_D, pName]
  have a2 : (sAsg (cel (fLst aNil)) (pName 3) : MS) [some (.cell q), some (.int (k : Nat)), some (.cell S.length), none] (S ++ [.lst ((rngI k).map .int)]) = .next [some (.cell q), some (.int (k : Nat)), some (.cell S.length), some (.cell (S.length + 1))] (S.set q (fdR ns t c) ++ [.lst ((rngI k).map .int), .lst []]) := by
    rw [self_set hS]
    simp [sAsg, cel, fLst, aNil, pName]
  unfold c_law_row
  rw [e0, seq_next a1, seq_next a2, seq_next (e' := env') (S' := S.set q (fdR ns t' c') ++ [.lst ([].map D.int), .lst (found.map .int)])]
  · subst he
    refine ret_of ?_
    have hseq : seqOf (S.set q (fdR ns t' c') ++ [.lst ([].map D.int), .lst (found.map .int)]) (.cell (S.length + 1)) = some (found.map .int) := by unfold seqOf; dsimp only; rw [c2]
    simp only [eB, aCons, aNil, eVar, List.getElem?_cons_succ, List.getElem?_cons_zero, bind_ok, dTuple, hseq]
    rfl
  · exact hw

theorem eqv_pD (x y : PI2) : PyData.eqv (py (pD x)) (py (pD y)) = decide (x = y) := by
  obtain ⟨a, b⟩ := x
  obtain ⟨c, d⟩ := y
  have e : PyData.eqv (py (pD (a, b))) (py (pD (c, d))) = ((a == c) && ((b == d) && true)) := rfl
  rw [e]
  by_cases h1 : a = c
  · by_cases h2 : b = d
    · subst h1 h2; simp
    · simp [h1, h2]
  · simp [h1]
theorem isIn_pD (x : PI2) (xs : List PI2) : isIn (pD x) (xs.map pD) = decide (x ∈ xs) := by
  unfold isIn
  rw [List.any_map]
  induction xs with
  | nil => rfl
  | cons y xs ih =>
    rw [List.any_cons, ih]
    show (PyData.eqv (py (pD y)) (py (pD x)) || decide (x ∈ xs)) = decide (x ∈ y :: xs)
    rw [eqv_pD]
    by_cases h : y = x
    · subst h; simp
    · have : ¬ x = y := fun z => h z.symm
      simp [h, this]
theorem shPairs (n : Nat) (l : List PI2) : (l.map pD).all (shD (n + 2)) = true := List.all_eq_true.mpr fun x hx => by
  obtain ⟨i, _, rfl⟩ := List.mem_map.mp hx
  rfl
theorem notIn_cell {S : Store} {a : Nat} {xs : List PI2} (x : PI2) (h : S[a]? = some (.lst (xs.map pD))) : dInG true (pD x) (.cell a) S = .ok (.bl (!decide (x ∈ xs))) S := by
  have e : val S (.cell a) = .lst (xs.map pD) := by unfold val; dsimp only; rw [h]
  unfold dInG
  rw [e]
  dsimp only
  have e2 : val S (pD x) = pD x := rfl
  rw [e2, if_pos ⟨rfl, shPairs 9 xs⟩, isIn_pD]
  rfl
theorem fSorted_pD (d : D) (xs : List PI2) (S : Store) (h : seqOf S d = some (xs.map pD)) (hl : xs.length ≤ 1000000) : ∃ L : List PI2, fSorted [d] S = .ok (L.map pD) S ∧ L.Perm xs := by
  refine ⟨xs.mergeSort (fun a b => PySem.W.dataLe false py (pD a) (pD b)), ?_, List.mergeSort_perm _ _⟩
  unfold fSorted
  dsimp only
  rw [h]
  dsimp only
  rw [if_pos]
  · rw [PySem.W.sort_maps (s := PySem.W.dataLe false py) pD fun _ _ _ _ => rfl]
  · refine ⟨by rw [List.length_map]; exact hl, shPairs 9 xs, ?_, .inl fun x hx => ?_⟩
    · intro x hx y hy
      rw [List.map_map] at hx hy
      obtain ⟨i, _, rfl⟩ := List.mem_map.mp hx
      obtain ⟨j, _, rfl⟩ := List.mem_map.mp hy
      rfl
    · rw [List.map_map] at hx
      obtain ⟨i, _, rfl⟩ := List.mem_map.mp hx
      exact ⟨_, _, rfl⟩
structure goodT (p q : Int) (ts : List PI2) : Prop where
  p1 : 1 ≤ p
  p7 : p ≤ 7
  q1 : 1 ≤ q
  q7 : q ≤ 7
  tie : ∀ x ∈ ts, 0 ≤ x.1 ∧ x.1 < p ∧ 0 ≤ x.2 ∧ x.2 < q
  nd : ts.Nodup
  len : ts.length ≤ 18
def twoD (p q : Int) (ts : List PI2) : D := .tup [.int p, .int q, .tup (ts.map pD)]
theorem two_spec (S : Store) (q : Nat) (ns : List Int) (t c : Int) (hS : S[q]? = some (fdR ns t c)) (ht : 0 ≤ t) (ht2 : t < 100000) :
    ∃ (t' c' p r : Int) (ts : List PI2), m_law_two [.cell q] S = .ok (twoD p r ts) (S.set q (fdR ns t' c')) ∧ goodT p r ts ∧ t ≤ t' ∧ t' ≤ t + 100 := by
  have hq : q < S.length := (List.getElem?_eq_some_iff.mp hS).1
  obtain ⟨t1, c1, r1, y1, a1, a2, a3, a4⟩ := draw_app S [] q ns t c 7 hq (by decide) (by decide) ht (by omega)
  obtain ⟨t2, c2, r2, y2, b1, b2, b3, b4⟩ := draw_app S [] q ns t1 c1 7 hq (by decide) (by decide) (by omega) (by omega)
  rw [List.append_nil, List.append_nil, self_set hS] at y1
  rw [List.append_nil, List.append_nil] at y2
  obtain ⟨t3, c3, r3, e3, d1, d2, d3, d4⟩ := draw_app S [.lst []] q ns t2 c2 19 hq (by decide) (by decide) (by omega) (by omega)
  obtain ⟨t4, c4, r4, e4, f1, f2, f3, f4⟩ := draw_app S [.lst []] q ns t3 c3 4 hq (by decide) (by decide) (by omega) (by omega)
  obtain ⟨p, hp⟩ : ∃ p : Int, p = 1 + r1 := ⟨_, rfl⟩
  obtain ⟨w, hw⟩ : ∃ w : Int, w = 1 + r2 := ⟨_, rfl⟩
  have hix : ∃ g : Nat, g ≤ 18 ∧ ∀ S : Store, dIx (.lst [.int r3, .int (2 * p)]) (.int (r4 / 3)) S = .ok (.int (g : Nat)) S := by
    have : r4 / 3 = 0 ∨ r4 / 3 = 1 := by omega
    rcases this with h | h
    · refine ⟨r3.toNat, by omega, fun S => ?_⟩
      rw [h, Int.toNat_of_nonneg d1]
      rfl
    · refine ⟨(2 * p).toNat, by omega, fun S => ?_⟩
      rw [h, Int.toNat_of_nonneg (show 0 ≤ 2 * p by omega)]
      rfl
  obtain ⟨g, hg, hix⟩ := hix
  have cc : ∀ (o : Ob) (x : List D), (S.set q o ++ [Ob.lst x])[S.length]? = some (.lst x) := fun o x => by
    rw [List.getElem?_append_right (by rw [List.length_set]; exact Nat.le_refl _)]; simp
  have ss : ∀ (o : Ob) (x z : List D), (S.set q o ++ [Ob.lst x]).set S.length (.lst z) = S.set q o ++ [.lst z] := fun o x z => by
    rw [List.set_append_right _ _ (by rw [List.length_set]; exact Nat.le_refl _), List.length_set, Nat.sub_self]; rfl
  obtain ⟨S', hl, t5, c5, xs, rfl, hx, hnd, hxl, ht5, ht6⟩ := lp_inv (p := pName 4) (body := c_law_two_b1) (dead := [4, 5]) (env := [some (.cell q), some (.int p), some (.int w), some (.cell S.length), none, none]) (fun i : Nat => D.int (i : Nat)) (fun pre S' => ∃ (t' c' : Int) (xs : List PI2), S' = S.set q (fdR ns t' c') ++ [.lst (xs.map pD)] ∧ (∀ x ∈ xs, 0 ≤ x.1 ∧ x.1 < p ∧ 0 ≤ x.2 ∧ x.2 < w) ∧ xs.Nodup ∧ xs.length ≤ 18 ∧ t4 ≤ t' ∧ t' ≤ t4 + 2 * (pre.length : Nat)) (List.range g) [] (S.set q (fdR ns t4 c4) ++ [.lst []]) ⟨t4, c4, [], rfl, (fun x hx => nomatch hx), List.nodup_nil, by simp, Int.le_refl _, by simp⟩ (by
    rintro pre x post hpre S' ⟨t', c', xs, rfl, hx, hnd, hxl, h1, h2⟩
    have hlen : pre.length < g := by
      have := congrArg List.length hpre
      simp at this
      omega
    obtain ⟨t6, c6, r6, e6, g1, g2, g3, g4⟩ := draw_app S [.lst (xs.map pD)] q ns t' c' p hq (by omega) (by omega) (by omega) (by omega)
    obtain ⟨t7, c7, r7, e7, k1, k2, k3, k4⟩ := draw_app S [.lst (xs.map pD)] q ns t6 c6 w hq (by omega) (by omega) (by omega) (by omega)
    have hni := notIn_cell (r6, r7) (cc (fdR ns t7 c7) (xs.map pD))
    have hlen2 : dLen [.cell S.length] (S.set q (fdR ns t7 c7) ++ [.lst (xs.map pD)]) = .ok (.int (xs.length : Nat)) (S.set q (fdR ns t7 c7) ++ [.lst (xs.map pD)]) := by
      unfold dLen seqOf; dsimp only; rw [cc]; dsimp only; rw [List.length_map]
    have happ : dAppend (.cell S.length) [pD (r6, r7)] (S.set q (fdR ns t7 c7) ++ [.lst (xs.map pD)]) = .ok .non (S.set q (fdR ns t7 c7) ++ [.lst ((xs ++ [(r6, r7)]).map pD)]) := by
      have hco : Rf.cellOf (S.set q (fdR ns t7 c7) ++ [.lst (xs.map pD)]) (.cell S.length) = some (S.length, xs.map pD) := by unfold Rf.cellOf; dsimp only; rw [cc]
      unfold dAppend
      rw [hco]
      simp [big, show xs.length < 1000000 by omega, ss]
    have hA : isLst (.cell S.length) (S.set q (fdR ns t7 c7) ++ [.lst (xs.map pD)]) = true := by
      unfold isLst seqOf; dsimp only; rw [cc]; rfl
    have s1 : (sAsg (eTup (aCons (eCall 2 m_law_draw (aCons (eVar 0) (aCons (eVar 1) aNil))) (aCons (eCall 2 m_law_draw (aCons (eVar 0) (aCons (eVar 2) aNil))) aNil))) (pName 5) : MS) [some (.cell q), some (.int p), some (.int w), some (.cell S.length), some (.int (x : Nat)), none] (S.set q (fdR ns t' c') ++ [.lst (xs.map pD)]) = .next [some (.cell q), some (.int p), some (.int w), some (.cell S.length), some (.int (x : Nat)), some (pD (r6, r7))] (S.set q (fdR ns t7 c7) ++ [.lst (xs.map pD)]) := by
      simp [sAsg, eTup, aCons, aNil, eCall, eVar, e6, e7, pName, big, pD]
    refine ⟨[some (.cell q), some (.int p), some (.int w), some (.cell S.length), some (.int (x : Nat)), none], [some (.cell q), some (.int p), some (.int w), some (.cell S.length), some (.int (x : Nat)), some (pD (r6, r7))], S.set q (fdR ns t7 c7) ++ [.lst ((if (r6, r7) ∉ xs ∧ xs.length < 18 then xs ++ [(r6, r7)] else xs).map pD)], rfl, .inl ?_, rfl, t7, c7, _, rfl, (fun y hy => ?_), ?_, ?_, by omega, ?_⟩
    · unfold c_law_two_b1
      rw [seq_next s1]
      have hcond : (tAnd' (tst (e2 (dInG true) (eVar 5) (eVar 3))) (tst (e2 dLt (eB dLen (aCons (eVar 3) aNil)) (eC (.int 18)))) : M Bool) [some (.cell q), some (.int p), some (.int w), some (.cell S.length), some (.int (x : Nat)), some (pD (r6, r7))] (S.set q (fdR ns t7 c7) ++ [.lst (xs.map pD)]) = .ok (decide ((r6, r7) ∉ xs ∧ xs.length < 18)) (S.set q (fdR ns t7 c7) ++ [.lst (xs.map pD)]) := by
        by_cases z : (r6, r7) ∈ xs
        · simp [tAnd', tst, Rf.e2, eVar, hni, z]
        · have zz : ((xs.length : Int) < 18) = (xs.length < 18) := propext (by omega)
          simp [tAnd', tst, Rf.e2, eVar, hni, z, eB, aCons, aNil, hlen2, dLt, eC, zz]
      by_cases z : (r6, r7) ∉ xs ∧ xs.length < 18
      · rw [decide_eq_true z] at hcond
        rw [if_yes hcond, if_pos z]
        refine expr_next (d := .non) ?_
        simp [eMt, eVar, hA, aCons, aNil, happ]
      · rw [decide_eq_false z] at hcond
        rw [if_no hcond, if_neg z]
        rfl
    · split at hy
      · rcases List.mem_append.mp hy with hy | hy
        · exact hx y hy
        · simp at hy; subst hy; exact ⟨g1, g2, k1, k2⟩
      · exact hx y hy
    · split
      · rename_i z
        rw [List.nodup_append]
        refine ⟨hnd, by simp, fun a ha b hb => ?_⟩
        simp at hb
        subst hb
        rintro rfl
        exact z.1 ha
      · exact hnd
    · split
      · rename_i z
        rw [List.length_append]
        simp
        omega
      · exact hxl
    · rw [List.length_append]; simp; omega)
  have hlen' : ([] ++ List.range g).length = g := by simp
  rw [hlen'] at ht6
  obtain ⟨L, hL, hperm⟩ := fSorted_pD (.cell S.length) xs (S.set q (fdR ns t5 c5) ++ [.lst (xs.map pD)]) (by unfold seqOf; dsimp only; rw [cc]) (by omega)
  refine ⟨t5, c5, p, w, L, ?_, ⟨by omega, by omega, by omega, by omega, (fun x hx' => hx x (hperm.mem_iff.mp hx')), hperm.nodup_iff.mpr hnd, by rw [hperm.length_eq]; exact hxl⟩, by omega, by omega⟩
  refine run_set (L := [.lst (xs.map pD)]) ?_ (by unfold twoD; show (true && (true && (pureL (L.map pD) && true))) = true; rw [pureL_map (fun _ => rfl)]; rfl) (pureFd _ _ _)
  have e0 : ([D.cell q].map some ++ List.replicate (6 - [D.cell q].length) none : En) = [some (.cell q), none, none, none, none, none] := rfl
  have s1 : (sPar 1 2 (aCons (e2 dAdd (eC (.int 1)) (eCall 2 m_law_draw (aCons (eVar 0) (aCons (eC (.int 7)) aNil)))) (aCons (e2 dAdd (eC (.int 1)) (eCall 2 m_law_draw (aCons (eVar 0) (aCons (eC (.int 7)) aNil)))) aNil)) : MS) [some (.cell q), none, none, none, none, none] S = .next [some (.cell q), some (.int p), some (.int w), none, none, none] (S.set q (fdR ns t2 c2)) := by
    rw [hp, hw]
    simp [sPar, aCons, aNil, Rf.e2, eC, eCall, eVar, y1, y2, dAdd]
  have s2 : (sAsg (cel (fLst aNil)) (pName 3) : MS) [some (.cell q), some (.int p), some (.int w), none, none, none] (S.set q (fdR ns t2 c2)) = .next [some (.cell q), some (.int p), some (.int w), some (.cell S.length), none, none] (S.set q (fdR ns t2 c2) ++ [.lst []]) := by
    simp [sAsg, cel, fLst, aNil, pName]
  have hm2 : CMul (2 : Int) p := .inl (by decide)
  have hd3 : CDiv r4 3 := by unfold CDiv; decide
  have s3 : (sFor (iR1 (aCons (e2 dIx (fz (fLst (aCons (eCall 2 m_law_draw (aCons (eVar 0) (aCons (eC (.int 19)) aNil))) (aCons (e2 dMulI (eC (.int 2)) (eVar 1)) aNil)))) (e2 dFdiv (eCall 2 m_law_draw (aCons (eVar 0) (aCons (eC (.int 4)) aNil))) (eC (.int 3)))) aNil)) (pName 4) c_law_two_b1 [4, 5] : MS) [some (.cell q), some (.int p), some (.int w), some (.cell S.length), none, none] (S.set q (fdR ns t2 c2) ++ [.lst []]) = .next [some (.cell q), some (.int p), some (.int w), some (.cell S.length), none, none] (S.set q (fdR ns t5 c5) ++ [.lst (xs.map pD)]) := by
    have it : (iR1 (aCons (e2 dIx (fz (fLst (aCons (eCall 2 m_law_draw (aCons (eVar 0) (aCons (eC (.int 19)) aNil))) (aCons (e2 dMulI (eC (.int 2)) (eVar 1)) aNil)))) (e2 dFdiv (eCall 2 m_law_draw (aCons (eVar 0) (aCons (eC (.int 4)) aNil))) (eC (.int 3)))) aNil) : M IT) [some (.cell q), some (.int p), some (.int w), some (.cell S.length), none, none] (S.set q (fdR ns t2 c2) ++ [.lst []]) = .ok ⟨(List.range (g : Int).toNat).map fun i => .int (i : Nat), []⟩ (S.set q (fdR ns t4 c4) ++ [.lst []]) := by
      refine r1_of ?_ (by omega) (by omega)
      have x3 : (eCall 2 m_law_draw (aCons (eVar 0) (aCons (eC (.int 19)) aNil)) : M D) [some (.cell q), some (.int p), some (.int w), some (.cell S.length), none, none] (S.set q (fdR ns t2 c2) ++ [.lst []]) = .ok (.int r3) (S.set q (fdR ns t3 c3) ++ [.lst []]) := call_of (by rfl) rfl e3
      have x4 : (eCall 2 m_law_draw (aCons (eVar 0) (aCons (eC (.int 4)) aNil)) : M D) [some (.cell q), some (.int p), some (.int w), some (.cell S.length), none, none] (S.set q (fdR ns t3 c3) ++ [.lst []]) = .ok (.int r4) (S.set q (fdR ns t4 c4) ++ [.lst []]) := call_of (by rfl) rfl e4
      simp [aCons, Rf.e2, Rf.fz, fLst, x3, x4, aNil, dMulI, dFdiv, i2, hm2, hd3, hix, big, eVar, eC]
    rw [for_of it]
    exact hl
  have s4 : (sRet (eTup (aCons (eVar 1) (aCons (eVar 2) (aCons (eB dTuple (aCons (fz (eB fSorted (aCons (eVar 3) aNil))) aNil)) aNil)))) : MS) [some (.cell q), some (.int p), some (.int w), some (.cell S.length), none, none] (S.set q (fdR ns t5 c5) ++ [.lst (xs.map pD)]) = .ret (twoD p w L) (S.set q (fdR ns t5 c5) ++ [.lst (xs.map pD)]) := by
    simp [sRet, eTup, aCons, aNil, eVar, eB, Rf.fz, hL, dTuple, seqOf, big, twoD]
  unfold c_law_two
  rw [e0, seq_next s1, seq_next s2, seq_next s3, s4]
  simp only [fdR]

/-! sorted lists of ints -/
theorem srt_uniq : ∀ {l m : List Int}, l.Perm m → l.Pairwise (· ≤ ·) → m.Pairwise (· ≤ ·) → l = m
  | [], m, h, _, _ => (List.Perm.eq_nil h.symm).symm
  | x :: l, [], h, _, _ => absurd h.length_eq (by simp)
  | x :: l, y :: m, h, p1, p2 => by
    obtain ⟨a1, a2⟩ := List.pairwise_cons.mp p1
    obtain ⟨b1, b2⟩ := List.pairwise_cons.mp p2
    have e : x = y := by
      have h1 : x ≤ y := by
        rcases List.mem_cons.mp (h.symm.mem_iff.mp (List.mem_cons_self (a := y) (l := m))) with z | z
        · omega
        · exact a1 y z
      have h2 : y ≤ x := by
        rcases List.mem_cons.mp (h.mem_iff.mp (List.mem_cons_self (a := x) (l := l))) with z | z
        · omega
        · exact b1 x z
      omega
    subst e
    rw [srt_uniq (List.Perm.cons_inv h) a2 b2]
def leI (a b : Int) : Bool := decide (a ≤ b)
def sortI (l : List Int) : List Int := l.mergeSort leI
theorem sortI_perm (l : List Int) : (sortI l).Perm l := List.mergeSort_perm _ _
theorem sortI_pw (l : List Int) : (sortI l).Pairwise (· ≤ ·) := by
  have h : (sortI l).Pairwise (fun a b => leI a b = true) := List.pairwise_mergeSort (fun a b c h1 h2 => by unfold leI at *; rw [decide_eq_true_iff] at *; omega) (fun a b => by unfold leI; rw [Bool.or_eq_true, decide_eq_true_iff, decide_eq_true_iff]; omega) _
  exact h.imp fun q => of_decide_eq_true q
theorem sortI_eq {l m : List Int} (h : m.Perm l) (hp : m.Pairwise (· ≤ ·)) : sortI l = m := srt_uniq ((sortI_perm l).trans h.symm) (sortI_pw l) hp
theorem dataLe_I (a b : Int) : PySem.W.dataLe false py (.int a) (.int b) = leI a b := congrFun (congrFun (PySem.W.dataLe_int (fun x : Int => x)) a) b
theorem fSorted_ints (d : D) (ns : List Int) (S : Store) (h : seqOf S d = some (ns.map .int)) (hl : ns.length ≤ 1000000) : fSorted [d] S = .ok ((sortI ns).map .int) S := by
  unfold fSorted
  dsimp only
  rw [h]
  dsimp only
  rw [if_pos]
  · have e : ((sortI ns).map D.int) = (ns.map D.int).mergeSort (PySem.W.dataLe false py) := PySem.W.sort_maps D.int fun a _ b _ => (dataLe_I a b).symm
    rw [e]
  · refine ⟨by rw [List.length_map]; exact hl, List.all_eq_true.mpr fun x hx => ?_, ?_, .inr fun x hx => ?_⟩
    · obtain ⟨i, _, rfl⟩ := List.mem_map.mp hx
      rfl
    · intro x hx y hy
      rw [List.map_map] at hx hy
      obtain ⟨i, _, rfl⟩ := List.mem_map.mp hx
      obtain ⟨j, _, rfl⟩ := List.mem_map.mp hy
      rfl
    · rw [List.map_map] at hx
      obtain ⟨i, _, rfl⟩ := List.mem_map.mp hx
      exact ⟨(fun z => nomatch z), (fun _ z => nomatch z)⟩
theorem ded_len_le (l : List Int) : (ded l).length ≤ l.length := len_le_of_sub (ded_nodup l) fun x hx => mem_ded.mp hx
theorem ded_id : ∀ {l : List Int}, l.Nodup → ded l = l
  | [], _ => rfl
  | x :: r, h => by
    obtain ⟨h1, h2⟩ := List.nodup_cons.mp h
    unfold ded
    rw [if_neg h1, ded_id h2]
theorem ded_full : ∀ {l : List Int}, (ded l).length = l.length → l.Nodup
  | [], _ => List.nodup_nil
  | x :: r, h => by
    unfold ded at h
    by_cases hx : x ∈ r
    · rw [if_pos hx] at h
      have := ded_len_le r
      rw [List.length_cons] at h
      omega
    · rw [if_neg hx] at h
      exact List.nodup_cons.mpr ⟨hx, ded_full (by simpa using h)⟩

def ix (l : List Int) (a : Int) : Int := ((l.idxOf a : Nat) : Int)
theorem index_spec (l : List Int) (a : Int) (S : Store) (h : a ∈ l) : dIndex (.tup (l.map .int)) [.int a] S = .ok (.int (ix l a)) S := by
  have e : dIndex (.tup (l.map .int)) [.int a] S = (if shD dpt (.int a) = true ∧ (l.map D.int).all (shD 11) = true then (match ixOf (.int a) (l.map D.int) with | some j => Res.ok (D.int (j : Nat)) S | none => .bad) else .bad) := rfl
  rw [e, if_pos ⟨rfl, shInts 11 l⟩, ixOf_int a l h]
  rfl
theorem rngI_mem {k : Nat} {a : Int} : a ∈ rngI k ↔ 0 ≤ a ∧ a < k := by
  unfold rngI
  rw [List.mem_map]
  constructor
  · rintro ⟨i, hi, rfl⟩
    have := List.mem_range.mp hi
    omega
  · rintro ⟨h1, h2⟩
    exact ⟨a.toNat, List.mem_range.mpr (by omega), by omega⟩
theorem rngI_nodup (k : Nat) : (rngI k).Nodup := by
  unfold rngI
  rw [List.nodup_iff_pairwise_ne, List.pairwise_map]
  exact List.Pairwise.imp (fun h e => h (by omega)) (List.nodup_iff_pairwise_ne.mp List.nodup_range)
theorem rngI_pw (k : Nat) : (rngI k).Pairwise (· ≤ ·) := by
  unfold rngI
  rw [List.pairwise_map]
  exact List.Pairwise.imp (fun h => by omega) List.pairwise_lt_range
theorem eq_ints (l m : List Int) (S : Store) : dEq (.lst (l.map .int)) (.lst (m.map .int)) S = .ok (.bl (decide (l = m))) S := by
  have e : dEq (.lst (l.map .int)) (.lst (m.map .int)) S = (if shD dpt (.lst (l.map .int)) = true ∧ shD dpt (.lst (m.map .int)) = true then Res.ok (D.bl (PyData.eqv (py (.lst (l.map .int))) (py (.lst (m.map .int))))) S else Res.bad) := rfl
  rw [e, if_pos ⟨shInts 11 l, shInts 11 m⟩]
  have e2 : ∀ l m : List Int, PyData.eqvAll (pyL (l.map .int)) (pyL (m.map .int)) = decide (l = m) := by
    intro l
    induction l with
    | nil => intro m; cases m <;> rfl
    | cons x l ih =>
      intro m
      cases m with
      | nil => rfl
      | cons y m =>
        show ((x == y) && PyData.eqvAll (pyL (l.map .int)) (pyL (m.map .int))) = _
        rw [ih m]
        by_cases h1 : x = y
        · by_cases h2 : l = m
          · subst h1 h2; simp
          · simp [h1, h2]
        · simp [h1]
  rw [show PyData.eqv (py (.lst (l.map .int))) (py (.lst (m.map .int))) = PyData.eqvAll (pyL (l.map .int)) (pyL (m.map .int)) from rfl, e2]
theorem order_spec (pm : List Int) (k : Nat) (S : Store) (h : pm.Perm (rngI k)) (hk : k ≤ 1000) : m_is_order [.tup (pm.map .int), .int (k : Nat)] S = .ok (.bl true) S := by
  have hl : pm.length ≤ 1000000 := by have := h.length_eq; rw [rngI_len] at this; omega
  refine run_pure (d := .bl true) ?_ rfl
  have e0 : ([D.tup (pm.map .int), .int (k : Nat)].map some ++ List.replicate (3 - [D.tup (pm.map .int), .int (k : Nat)].length) none : En) = [some (.tup (pm.map .int)), some (.int (k : Nat)), none] := rfl
  have hc : (fComp (iSeq (eVar 0)) (pName 2) tYes' (eCall 1 m_is_whole (aCons (eVar 2) aNil)) [2] : M (List D)) [some (.tup (pm.map .int)), some (.int (k : Nat)), none] S = .ok ((List.replicate pm.length true).map D.bl) S := by
    rw [comp_of (ds := pm.map .int) (S1 := S) (seq_of (by rfl) (by rfl)) (by rw [List.length_map]; exact hl)]
    refine (cmp_map D.int (fun _ => D.bl true) pm fun x hx => ⟨[some (.tup (pm.map .int)), some (.int (k : Nat)), some (.int x)], rfl, ?_⟩).trans ?_
    · exact call_of (n := 1) (ds := [.int x]) (S' := S) (by rfl) rfl (is_whole_int x S)
    · rw [List.map_replicate, List.map_const']
  have ha : dAll false [.lst ((List.replicate pm.length true).map D.bl)] S = .ok (.bl true) S := by
    have e : dAll false [.lst ((List.replicate pm.length true).map D.bl)] S = (match bls ((List.replicate pm.length true).map D.bl) with | some ns => Res.ok (.bl (if false = true then ns.any id else ns.all id)) S | none => .bad) := rfl
    rw [e, bls_of]
    simp
  have hs := fSorted_ints (.tup (pm.map .int)) pm S rfl hl
  have hso : sortI pm = rngI k := sortI_eq h.symm (rngI_pw k)
  rw [hso] at hs
  have hk2 : ((k : Nat) : Int) ≤ 1000000 ∧ -1000000 ≤ ((k : Nat) : Int) := by omega
  have hlr : (fLR1 (eVar 1) : M (List D)) [some (.tup (pm.map .int)), some (.int (k : Nat)), none] S = .ok ((rngI k).map .int) S := by
    simp [fLR1, eVar, hk2, rngI_D]
  rw [e0]
  unfold c_is_order
  rw [seq_next (e' := [some (.tup (pm.map .int)), some (.int (k : Nat)), none]) (S' := S)]
  · refine ret_of ?_
    simp only [Rf.e2, Rf.fz, eB, aCons, aNil, eVar, List.getElem?_cons_zero, bind_ok, hs]
    rw [hlr]
    simp only [bind_ok]
    rw [eq_ints, decide_eq_true rfl]
  · rw [if_no (S' := S)]
    · rfl
    · have i1 : dIsi [.tup (pm.map .int), .ty "tuple"] S = .ok (.bl true) S := rfl
      simp [tOr', tNot', tst, eB, aCons, aNil, eVar, eC, i1, Rf.fz, hc, ha, -List.map_replicate]
theorem upper_spec (p r : Int) (ts : List PI2) (up : List Int) (S : Store) (g : goodT p r ts) (h : up.Perm (rngI p.toNat)) : m_upper_looked_at [twoD p r ts, .tup (up.map .int)] S = .ok .non S := by
  have h1 := order_spec up p.toNat S h (by have := g.p7; omega)
  rw [Int.toNat_of_nonneg (by have := g.p1; omega)] at h1
  refine run_next (e := [some (twoD p r ts), some (.tup (up.map .int))]) ?_
  show c_upper_looked_at [some (twoD p r ts), some (.tup (up.map .int))] S = _
  unfold c_upper_looked_at
  have hix : dIx (twoD p r ts) (.int 0) S = .ok (.int p) S := rfl
  rw [if_no (S' := S)]
  · rfl
  · simp [tNot', tst, eCall, aCons, aNil, eVar, Rf.e2, eC, hix, h1]
theorem both_spec (p r : Int) (ts : List PI2) (up low : List Int) (S : Store) (g : goodT p r ts) (h : up.Perm (rngI p.toNat)) (h' : low.Perm (rngI r.toNat)) : m_both_looked_at [twoD p r ts, .tup (up.map .int), .tup (low.map .int)] S = .ok .non S := by
  have h1 := order_spec low r.toNat S h' (by have := g.q7; omega)
  rw [Int.toNat_of_nonneg (by have := g.q1; omega)] at h1
  refine run_next (e := [some (twoD p r ts), some (.tup (up.map .int)), some (.tup (low.map .int))]) ?_
  show c_both_looked_at [some (twoD p r ts), some (.tup (up.map .int)), some (.tup (low.map .int))] S = _
  unfold c_both_looked_at
  rw [seq_next (expr_next (d := .non) (S' := S) (call_of (n := 2) (ds := [twoD p r ts, .tup (up.map .int)]) (S' := S) (by rfl) rfl (upper_spec p r ts up S g h)))]
  have hix : dIx (twoD p r ts) (.int 1) S = .ok (.int r) S := rfl
  rw [if_no (S' := S)]
  · rfl
  · simp [tNot', tst, eCall, aCons, aNil, eVar, Rf.e2, eC, hix, h1]
/-- the spots of the ties -/
def spt (up low : List Int) (x : PI2) : PI2 := (ix up x.1, ix low x.2)
def crs (x y : PI2) : Bool := decide (x.1 < y.1) && decide (y.2 < x.2)
def crossN (ts : List PI2) (up low : List Int) : Int := ((ts.map (spt up low)).map fun x => ((((ts.map (spt up low)).filter (crs x)).length : Nat) : Int)).sum
theorem crossed_spec (p r : Int) (ts : List PI2) (up low : List Int) (S : Store) (g : goodT p r ts) (h : up.Perm (rngI p.toNat)) (h' : low.Perm (rngI r.toNat)) : m_crossed [twoD p r ts, .tup (up.map .int), .tup (low.map .int)] S = .ok (.int (crossN ts up low)) S := by
  refine run_pure (d := .int (crossN ts up low)) ?_ rfl
  have e0 : ([twoD p r ts, .tup (up.map .int), .tup (low.map .int)].map some ++ List.replicate (9 - [twoD p r ts, D.tup (up.map .int), .tup (low.map .int)].length) none : En) = [some (twoD p r ts), some (.tup (up.map .int)), some (.tup (low.map .int)), none, none, none, none, none, none] := rfl
  have mu : ∀ x ∈ ts, x.1 ∈ up := fun x hx => by
    obtain ⟨a1, a2, a3, a4⟩ := g.tie x hx
    exact h.symm.mem_iff.mp (rngI_mem.mpr ⟨a1, by omega⟩)
  have ml : ∀ x ∈ ts, x.2 ∈ low := fun x hx => by
    obtain ⟨a1, a2, a3, a4⟩ := g.tie x hx
    exact h'.symm.mem_iff.mp (rngI_mem.mpr ⟨a3, by omega⟩)
  have hl := g.len
  have hsp : (fComp (iSeq (e2 dIx (eVar 0) (eC (.int 2)))) (pTup 2 (pCons (pName 5) (pCons (pName 6) pNil))) tYes' (eTup (aCons (eMt dIndex isSeqB (eVar 1) (aCons (eVar 5) aNil)) (aCons (eMt dIndex isSeqB (eVar 2) (aCons (eVar 6) aNil)) aNil))) [5, 6] : M (List D)) [some (twoD p r ts), some (.tup (up.map .int)), some (.tup (low.map .int)), none, none, none, none, none, none] S = .ok ((ts.map (spt up low)).map pD) S := by
    rw [comp_of (ds := ts.map pD) (S1 := S) (seq_of (d := .tup (ts.map pD)) (by rfl) (by rfl)) (by rw [List.length_map]; omega)]
    rw [cmp_map pD (fun x => pD (spt up low x)) ts fun x hx => ⟨[some (twoD p r ts), some (.tup (up.map .int)), some (.tup (low.map .int)), none, none, some (.int x.1), some (.int x.2), none, none], rfl, ?_⟩]
    · rw [List.map_map]; rfl
    · have i1 := index_spec up x.1 S (mu x hx)
      have i2 := index_spec low x.2 S (ml x hx)
      have b1 : isSeqB (.tup (up.map .int)) S = true := rfl
      have b2 : isSeqB (.tup (low.map .int)) S = true := rfl
      simp [eTup, aCons, aNil, eMt, eVar, b1, b2, i1, i2, big, spt, pD]
  obtain ⟨sp, hsp'⟩ : ∃ sp, sp = ts.map (spt up low) := ⟨_, rfl⟩
  have hspl : sp.length ≤ 18 := by rw [hsp', List.length_map]; exact hl
  rw [← hsp'] at hsp
  have body : ∀ x k, c_crossed_b1 [some (twoD p r ts), some (.tup (up.map .int)), some (.tup (low.map .int)), some (.lst (sp.map pD)), some (.int k), some (.int x.1), some (.int x.2), none, none] S = .next [some (twoD p r ts), some (.tup (up.map .int)), some (.tup (low.map .int)), some (.lst (sp.map pD)), some (.int (k + (((sp.filter (crs x)).length : Nat) : Int))), some (.int x.1), some (.int x.2), none, none] S := fun x k => by
    have hc : (fComp (iSeq (eVar 3)) (pTup 2 (pCons (pName 7) (pCons (pName 8) pNil))) (tAnd' (tst (e2 dLt (eVar 5) (eVar 7))) (tst (e2 dGt (eVar 6) (eVar 8)))) (eC (.int 1)) [7, 8] : M (List D)) [some (twoD p r ts), some (.tup (up.map .int)), some (.tup (low.map .int)), some (.lst (sp.map pD)), some (.int k), some (.int x.1), some (.int x.2), none, none] S = .ok ((sp.filter (crs x)).map fun _ => D.int 1) S := by
      rw [comp_of (ds := sp.map pD) (S1 := S) (seq_of (d := .lst (sp.map pD)) (by rfl) (by rfl)) (by rw [List.length_map]; omega)]
      refine cmp_filter pD (crs x) (fun _ => D.int 1) sp fun y hy => ⟨[some (twoD p r ts), some (.tup (up.map .int)), some (.tup (low.map .int)), some (.lst (sp.map pD)), some (.int k), some (.int x.1), some (.int x.2), some (.int y.1), some (.int y.2)], rfl, ?_, fun _ => rfl⟩
      unfold crs
      by_cases z : x.1 < y.1
      · simp [tAnd', tst, Rf.e2, eVar, dLt, dGt, i2, cT, z]
      · simp [tAnd', tst, Rf.e2, eVar, dLt, dGt, i2, cT, z]
    have hln : dLen [.lst ((sp.filter (crs x)).map fun _ => D.int 1)] S = .ok (.int ((sp.filter (crs x)).length : Nat)) S := by
      show Res.ok (D.int (((sp.filter (crs x)).map fun _ => D.int 1).length : Nat)) S = _
      rw [List.length_map]
    unfold c_crossed_b1
    simp only [sAug, List.getElem?_cons_zero, List.getElem?_cons_succ, eB, aCons, aNil, Rf.fz]
    rw [hc]
    simp [hln, i2, cT]
  have hloop := lp_sum (p := pTup 2 (pCons (pName 5) (pCons (pName 6) pNil))) (body := c_crossed_b1) (dead := [5, 6]) pD (fun k => [some (twoD p r ts), some (.tup (up.map .int)), some (.tup (low.map .int)), some (.lst (sp.map pD)), some (.int k), none, none, none, none]) S (fun x => (((sp.filter (crs x)).length : Nat) : Int)) sp 0 (fun x hx k => ⟨_, _, rfl, .inl (body x k), rfl⟩)
  unfold c_crossed
  rw [e0, seq_next (expr_next (d := .non) (S' := S) (call_of (n := 3) (ds := [twoD p r ts, .tup (up.map .int), .tup (low.map .int)]) (S' := S) (by rfl) rfl (both_spec p r ts up low S g h h')))]
  rw [seq_next (asg_next (d := .lst (sp.map pD)) (S' := S) (by show Rf.fz _ _ _ = _; unfold Rf.fz; rw [hsp]; rfl))]
  rw [seq_next (asg_next (d := .int 0) (S' := S) (by rfl))]
  rw [seq_next (e' := [some (twoD p r ts), some (.tup (up.map .int)), some (.tup (low.map .int)), some (.lst (sp.map pD)), some (.int (crossN ts up low)), none, none, none, none]) (S' := S)]
  · rfl
  · rw [for_of (ds := sp.map pD) (S1 := S) (seq_of (d := .lst (sp.map pD)) (by rfl) (by rfl))]
    unfold crossN
    rw [← hsp']
    have := hloop
    rw [Int.zero_add] at this
    exact this
/-- the upper spots of the ties at a lower place -/
def ats (ts : List PI2) (up : List Int) (b : Int) : List Int := (ts.filter fun x => decide (x.2 = b)).map fun x => ix up x.1
def numN (ts : List PI2) (up : List Int) (b d : Int) : Int := ((ats ts up b).map fun a => ((((ats ts up d).filter fun c => decide (c < a)).length : Nat) : Int)).sum
theorem number_spec (p r : Int) (ts : List PI2) (up : List Int) (b d : Int) (S : Store) (g : goodT p r ts) (h : up.Perm (rngI p.toNat)) : m_number_of [twoD p r ts, .tup (up.map .int), .int b, .int d] S = .ok (.int (numN ts up b d)) S := by
  refine run_pure (d := .int (numN ts up b d)) ?_ rfl
  have mu : ∀ x ∈ ts, x.1 ∈ up := fun x hx => by
    obtain ⟨a1, a2, a3, a4⟩ := g.tie x hx
    exact h.symm.mem_iff.mp (rngI_mem.mpr ⟨a1, by omega⟩)
  have hl := g.len
  have e0 : ([twoD p r ts, D.tup (up.map .int), .int b, .int d].map some ++ List.replicate (9 - [twoD p r ts, D.tup (up.map .int), .int b, .int d].length) none : En) = [some (twoD p r ts), some (.tup (up.map .int)), some (.int b), some (.int d), none, none, none, none, none] := rfl
  have one : ∀ (k : Nat) (y : Int) (o1 : Option D), [some (twoD p r ts), some (.tup (up.map .int)), some (.int b), some (.int d), o1, none, none, none, none][k]? = some (some (.int y)) → (k = 2 ∨ k = 3) →
      (fComp (iSeq (e2 dIx (eVar 0) (eC (.int 2)))) (pTup 2 (pCons (pName 6) (pCons (pName 7) pNil))) (tst (e2 dEq (eVar 7) (eVar k))) (eMt dIndex isSeqB (eVar 1) (aCons (eVar 6) aNil)) [6, 7] : M (List D)) [some (twoD p r ts), some (.tup (up.map .int)), some (.int b), some (.int d), o1, none, none, none, none] S = .ok ((ats ts up y).map .int) S := fun k y o1 hk hk2 => by
    rw [comp_of (ds := ts.map pD) (S1 := S) (seq_of (d := .tup (ts.map pD)) (by rfl) (by rfl)) (by rw [List.length_map]; omega)]
    refine (cmp_filter pD (fun x => decide (x.2 = y)) (fun x => D.int (ix up x.1)) ts fun x hx => ⟨[some (twoD p r ts), some (.tup (up.map .int)), some (.int b), some (.int d), o1, none, some (.int x.1), some (.int x.2), none], rfl, ?_, fun _ => ?_⟩).trans ?_
    · rcases hk2 with rfl | rfl
      · have : b = y := by simpa using hk
        subst this
        simp [tst, Rf.e2, eVar, dEq]
      · have : d = y := by simpa using hk
        subst this
        simp [tst, Rf.e2, eVar, dEq]
    · have i1 := index_spec up x.1 S (mu x hx)
      have b1 : isSeqB (.tup (up.map .int)) S = true := rfl
      simp [eMt, eVar, b1, aCons, aNil, i1]
    · unfold ats
      rw [List.map_map]
      rfl
  have h1 := one 2 b none rfl (.inl rfl)
  have h2 := one 3 d (some (.lst ((ats ts up b).map .int))) rfl (.inr rfl)
  have la : ∀ y, (ats ts up y).length ≤ 18 := fun y => by
    unfold ats
    rw [List.length_map]
    have := List.length_filter_le (fun x : PI2 => decide (x.2 = y)) ts
    omega
  have h3 : (fComp (iSeq (eVar 4)) (pName 6) tYes' (eB dLen (aCons (fz (fComp (iSeq (eVar 5)) (pName 8) (tst (e2 dLt (eVar 8) (eVar 6))) (eC (.int 1)) [8])) aNil)) [6] : M (List D)) [some (twoD p r ts), some (.tup (up.map .int)), some (.int b), some (.int d), some (.lst ((ats ts up b).map .int)), some (.lst ((ats ts up d).map .int)), none, none, none] S = .ok (((ats ts up b).map fun a => ((((ats ts up d).filter fun c => decide (c < a)).length : Nat) : Int)).map .int) S := by
    rw [comp_of (ds := (ats ts up b).map .int) (S1 := S) (seq_of (d := .lst ((ats ts up b).map .int)) (by rfl) (by rfl)) (by rw [List.length_map]; have := la b; omega)]
    refine (cmp_map D.int (fun a => D.int ((((ats ts up d).filter fun c => decide (c < a)).length : Nat) : Int)) (ats ts up b) fun a ha => ⟨[some (twoD p r ts), some (.tup (up.map .int)), some (.int b), some (.int d), some (.lst ((ats ts up b).map .int)), some (.lst ((ats ts up d).map .int)), some (.int a), none, none], rfl, ?_⟩).trans ?_
    · have hc : (fComp (iSeq (eVar 5)) (pName 8) (tst (e2 dLt (eVar 8) (eVar 6))) (eC (.int 1)) [8] : M (List D)) [some (twoD p r ts), some (.tup (up.map .int)), some (.int b), some (.int d), some (.lst ((ats ts up b).map .int)), some (.lst ((ats ts up d).map .int)), some (.int a), none, none] S = .ok (((ats ts up d).filter fun c => decide (c < a)).map fun _ => D.int 1) S := by
        rw [comp_of (ds := (ats ts up d).map .int) (S1 := S) (seq_of (d := .lst ((ats ts up d).map .int)) (by rfl) (by rfl)) (by rw [List.length_map]; have := la d; omega)]
        exact cmp_filter D.int (fun c => decide (c < a)) (fun _ => D.int 1) (ats ts up d) fun c hc => ⟨[some (twoD p r ts), some (.tup (up.map .int)), some (.int b), some (.int d), some (.lst ((ats ts up b).map .int)), some (.lst ((ats ts up d).map .int)), some (.int a), none, some (.int c)], rfl, rfl, fun _ => rfl⟩
      have hln : dLen [.lst (((ats ts up d).filter fun c => decide (c < a)).map fun _ => D.int 1)] S = .ok (.int (((ats ts up d).filter fun c => decide (c < a)).length : Nat)) S := by
        show Res.ok (D.int ((((ats ts up d).filter fun c => decide (c < a)).map fun _ => D.int 1).length : Nat)) S = _
        rw [List.length_map]
      simp only [eB, aCons, aNil, Rf.fz]
      rw [hc]
      simp only [bind_ok]
      rw [hln]
    · rw [List.map_map]; rfl
  unfold c_number_of
  rw [e0, seq_next (expr_next (d := .non) (S' := S) (call_of (n := 2) (ds := [twoD p r ts, .tup (up.map .int)]) (S' := S) (by rfl) rfl (upper_spec p r ts up S g h)))]
  rw [seq_next (asg_next (d := .lst ((ats ts up b).map .int)) (S' := S) (by show Rf.fz _ _ _ = _; unfold Rf.fz; rw [h1]; rfl))]
  rw [seq_next (asg_next (d := .lst ((ats ts up d).map .int)) (S' := S) (by show Rf.fz _ _ _ = _; unfold Rf.fz; erw [h2]; rfl))]
  refine ret_of ?_
  have hsum : ∀ l : List Int, dSum [.lst (l.map .int)] S = .ok (.int l.sum) S := fun l => by
    have e : dSum [.lst (l.map .int)] S = (match nums (l.map D.int) with | some ns => Res.ok (.int ns.sum) S | none => .bad) := rfl
    rw [e, nums_of]
  simp only [eB, aCons, aNil, Rf.fz]
  erw [h3]
  simp only [bind_ok]
  exact hsum _

/-! sums over pairs -/
def chi (b : Bool) : Int := if b = true then 1 else 0
theorem len_chi {α : Type} (p : α → Bool) (l : List α) : ((l.filter p).length : Int) = (l.map fun y => chi (p y)).sum := by
  induction l with
  | nil => rfl
  | cons x l ih =>
    rw [List.map_cons, List.sum_cons, ← ih]
    unfold chi
    cases h : p x with
    | true => rw [List.filter_cons_of_pos h, List.length_cons, if_pos rfl]; omega
    | false => rw [List.filter_cons_of_neg (by rw [h]; decide), if_neg (by decide)]; omega
theorem sum_filter {α : Type} (p : α → Bool) (f : α → Int) (l : List α) : ((l.filter p).map f).sum = (l.map fun y => chi (p y) * f y).sum := by
  induction l with
  | nil => rfl
  | cons x l ih =>
    rw [List.map_cons, List.sum_cons, ← ih]
    unfold chi
    cases h : p x with
    | true => rw [List.filter_cons_of_pos h, List.map_cons, List.sum_cons, if_pos rfl, Int.one_mul]
    | false => rw [List.filter_cons_of_neg (by rw [h]; decide), if_neg (by decide), Int.zero_mul, Int.zero_add]
theorem sum_congr {α : Type} {f g : α → Int} {l : List α} (h : ∀ x ∈ l, f x = g x) : (l.map f).sum = (l.map g).sum := by
  rw [List.map_congr_left h]
theorem sum_zero {α : Type} {f : α → Int} {l : List α} (h : ∀ x ∈ l, f x = 0) : (l.map f).sum = 0 := by
  induction l with
  | nil => rfl
  | cons x l ih => rw [List.map_cons, List.sum_cons, h x List.mem_cons_self, ih fun y hy => h y (List.mem_cons_of_mem _ hy)]; rfl
theorem sum_add {α : Type} (f g : α → Int) (l : List α) : (l.map fun x => f x + g x).sum = (l.map f).sum + (l.map g).sum := by
  induction l with
  | nil => rfl
  | cons x l ih => simp only [List.map_cons, List.sum_cons, ih]; omega
theorem sum_mul {α : Type} (c : Int) (f : α → Int) (l : List α) : (l.map fun x => c * f x).sum = c * (l.map f).sum := by
  induction l with
  | nil => simp
  | cons x l ih => simp only [List.map_cons, List.sum_cons, ih, Int.mul_add]
theorem sum_comm {α β : Type} (F : α → β → Int) (l : List α) (m : List β) : (l.map fun x => (m.map fun y => F x y).sum).sum = (m.map fun y => (l.map fun x => F x y).sum).sum := by
  induction l with
  | nil => simp only [List.map_nil, List.sum_nil]; exact (sum_zero fun _ _ => rfl).symm
  | cons x l ih => simp only [List.map_cons, List.sum_cons]; rw [ih, ← sum_add]
def prS {α : Type} (f : α → α → Int) : List α → Int
  | [] => 0
  | b :: r => (r.map (f b)).sum + prS f r
theorem prS_congr {α : Type} {f g : α → α → Int} : ∀ {l : List α}, (∀ x ∈ l, ∀ y ∈ l, f x y = g x y) → prS f l = prS g l
  | [], _ => rfl
  | b :: r, h => by
    unfold prS
    rw [sum_congr (g := g b) fun y hy => h b List.mem_cons_self y (List.mem_cons_of_mem _ hy), prS_congr fun x hx y hy => h x (List.mem_cons_of_mem _ hx) y (List.mem_cons_of_mem _ hy)]
theorem prS_zero {α : Type} {f : α → α → Int} : ∀ {l : List α}, (∀ x ∈ l, ∀ y ∈ l, f x y = 0) → prS f l = 0
  | [], _ => rfl
  | b :: r, h => by
    unfold prS
    rw [sum_zero fun y hy => h b List.mem_cons_self y (List.mem_cons_of_mem _ hy), prS_zero fun x hx y hy => h x (List.mem_cons_of_mem _ hx) y (List.mem_cons_of_mem _ hy)]
    rfl
theorem prS_add {α : Type} (f g : α → α → Int) : ∀ l : List α, prS (fun x y => f x y + g x y) l = prS f l + prS g l
  | [] => rfl
  | b :: r => by
    unfold prS
    rw [prS_add f g r, sum_add]
    omega
theorem prS_mul {α : Type} (c : Int) (f : α → α → Int) : ∀ l : List α, prS (fun x y => f x y * c) l = prS f l * c
  | [] => by unfold prS; simp
  | b :: r => by
    unfold prS
    have e : (r.map fun y => f b y * c).sum = (r.map (f b)).sum * c := by
      have := sum_mul c (f b) r
      rw [Int.mul_comm, ← this]
      exact sum_congr fun x _ => Int.mul_comm _ _
    rw [prS_mul c f r, e, Int.add_mul]
theorem prS_sum {α β : Type} (G : β → α → α → Int) (l : List α) : ∀ m : List β, prS (fun b d => (m.map fun x => G x b d).sum) l = (m.map fun x => prS (G x) l).sum
  | [] => by simp only [List.map_nil, List.sum_nil]; exact prS_zero fun _ _ _ _ => rfl
  | x :: m => by simp only [List.map_cons, List.sum_cons]; rw [prS_add, prS_sum G l m]
theorem sum_one {b : Int} : ∀ {r : List Int}, r.Nodup → (r.map fun d => chi (decide (b = d))).sum = chi (decide (b ∈ r))
  | [], _ => rfl
  | e :: r, h => by
    obtain ⟨h1, h2⟩ := List.nodup_cons.mp h
    rw [List.map_cons, List.sum_cons, sum_one h2]
    unfold chi
    by_cases z : b = e
    · subst z; simp [h1]
    · by_cases w : b ∈ r <;> simp [z, w]
theorem prS_ind {a b : Int} : ∀ {l : List Int}, l.Nodup → a ∈ l → b ∈ l → prS (fun x y => chi (decide (a = x)) * chi (decide (b = y))) l = chi (decide (l.idxOf a < l.idxOf b))
  | [], _, h, _ => nomatch h
  | e :: r, h, ha, hb => by
    obtain ⟨h1, h2⟩ := List.nodup_cons.mp h
    unfold prS
    rw [sum_mul, sum_one h2]
    by_cases za : a = e
    · subst za
      have z0 : prS (fun x y => chi (decide (a = x)) * chi (decide (b = y))) r = 0 := prS_zero fun x hx y _ => by
        have : a ≠ x := fun z => h1 (z ▸ hx)
        simp [chi, this]
      rw [z0, List.idxOf_cons_self]
      by_cases zb : b = a
      · subst zb; simp [chi, h1]
      · have hb' : b ∈ r := by rcases List.mem_cons.mp hb with z | z; exact absurd z zb; exact z
        have : (a == b) = false := beq_eq_false_iff_ne.mpr (Ne.symm zb)
        simp [chi, hb', List.idxOf_cons, this]
    · have ha' : a ∈ r := by rcases List.mem_cons.mp ha with z | z; exact absurd z za; exact z
      have e1 : (e == a) = false := beq_eq_false_iff_ne.mpr (Ne.symm za)
      by_cases zb : b = e
      · subst zb
        have z0 : prS (fun x y => chi (decide (a = x)) * chi (decide (b = y))) r = 0 := prS_zero fun x hx y hy => by
          have : b ≠ y := fun z => h1 (z ▸ hy)
          simp [chi, this]
        rw [z0]
        simp [chi, za]
      · have hb' : b ∈ r := by rcases List.mem_cons.mp hb with z | z; exact absurd z zb; exact z
        have e2 : (e == b) = false := beq_eq_false_iff_ne.mpr (Ne.symm zb)
        rw [prS_ind h2 ha' hb']
        simp [chi, za, List.idxOf_cons, e1, e2]
def S2 {α : Type} (ts : List α) (F : α → α → Int) : Int := (ts.map fun x => (ts.map fun y => F x y).sum).sum
theorem S2_congr {α : Type} {ts : List α} {F G : α → α → Int} (h : ∀ x ∈ ts, ∀ y ∈ ts, F x y = G x y) : S2 ts F = S2 ts G := sum_congr fun x hx => sum_congr fun y hy => h x hx y hy
theorem S2_flip {α : Type} (ts : List α) (F : α → α → Int) : S2 ts F = S2 ts (fun x y => F y x) := sum_comm F ts ts
theorem cross_S2 (ts : List PI2) (up low : List Int) : crossN ts up low = S2 ts fun x y => chi (crs (spt up low x) (spt up low y)) := by
  unfold crossN S2
  rw [List.map_map]
  refine sum_congr fun x _ => ?_
  show ((((ts.map (spt up low)).filter (crs (spt up low x))).length : Nat) : Int) = _
  rw [len_chi, List.map_map]
  rfl
theorem num_S2 (ts : List PI2) (up : List Int) (b d : Int) : numN ts up b d = S2 ts fun x y => chi (decide (x.2 = b)) * chi (decide (y.2 = d)) * chi (decide (ix up y.1 < ix up x.1)) := by
  unfold numN S2
  have e1 : ((ats ts up b).map fun a => ((((ats ts up d).filter fun c => decide (c < a)).length : Nat) : Int)).sum = ((ts.filter fun x => decide (x.2 = b)).map fun x => ((((ats ts up d).filter fun c => decide (c < ix up x.1)).length : Nat) : Int)).sum := by
    conv => lhs; unfold ats
    rw [List.map_map]
    rfl
  rw [e1, sum_filter]
  refine sum_congr fun x _ => ?_
  rw [len_chi]
  unfold ats
  rw [List.map_map]
  show chi (decide (x.2 = b)) * ((ts.filter fun x => decide (x.2 = d)).map fun y => chi (decide (ix up y.1 < ix up x.1))).sum = _
  rw [sum_filter, ← sum_mul]
  exact sum_congr fun y _ => (Int.mul_assoc _ _ _).symm
theorem chi_and (a b : Bool) : chi (a && b) = chi a * chi b := by cases a <;> cases b <;> rfl
/-- the crossings are the sum over all pairs of lower places -/
theorem cross_sum {ts : List PI2} {up low : List Int} (hn : low.Nodup) (hm : ∀ x ∈ ts, x.2 ∈ low) : crossN ts up low = prS (numN ts up) low := by
  have e : prS (numN ts up) low = prS (fun b d => (ts.map fun x => (ts.map fun y => chi (decide (x.2 = b)) * chi (decide (y.2 = d)) * chi (decide (ix up y.1 < ix up x.1))).sum).sum) low := prS_congr fun b _ d _ => num_S2 ts up b d
  rw [e, prS_sum (fun (x : PI2) b d => (ts.map fun y => chi (decide (x.2 = b)) * chi (decide (y.2 = d)) * chi (decide (ix up y.1 < ix up x.1))).sum)]
  have e2 : (ts.map fun x => prS (fun b d => (ts.map fun y => chi (decide (x.2 = b)) * chi (decide (y.2 = d)) * chi (decide (ix up y.1 < ix up x.1))).sum) low).sum = S2 ts fun x y => chi (decide (ix low x.2 < ix low y.2)) * chi (decide (ix up y.1 < ix up x.1)) := by
    unfold S2
    refine sum_congr fun x hx => ?_
    rw [prS_sum (fun (y : PI2) b d => chi (decide (x.2 = b)) * chi (decide (y.2 = d)) * chi (decide (ix up y.1 < ix up x.1)))]
    refine sum_congr fun y hy => ?_
    rw [prS_mul, prS_ind hn (hm x hx) (hm y hy)]
    unfold ix
    simp only [Int.ofNat_lt]
  rw [e2, cross_S2, S2_flip]
  refine S2_congr fun x _ y _ => ?_
  unfold crs spt
  rw [chi_and, Int.mul_comm]
theorem sum_perm {f : Int → Int} {l m : List Int} (h : l.Perm m) : (l.map f).sum = (m.map f).sum := by
  induction h with
  | nil => rfl
  | cons x _ ih => simp only [List.map_cons, List.sum_cons, ih]
  | swap x y l => simp only [List.map_cons, List.sum_cons]; omega
  | trans _ _ h1 h2 => rw [h1, h2]
theorem prS_swap (f : Int → Int → Int) (b d : Int) (B : List Int) : ∀ A : List Int, prS f (A ++ d :: b :: B) - prS f (A ++ b :: d :: B) = f d b - f b d
  | [] => by simp only [List.nil_append, prS, List.map_cons, List.sum_cons]; omega
  | a :: A => by
    have ih := prS_swap f b d B A
    simp only [List.cons_append, prS]
    have : ((A ++ d :: b :: B).map (f a)).sum = ((A ++ b :: d :: B).map (f a)).sum := sum_perm (List.Perm.append_left A (List.Perm.swap b d B))
    omega
theorem prS_snoc (f : Int → Int → Int) (b : Int) : ∀ A : List Int, prS f (A ++ [b]) = prS f A + (A.map fun a => f a b).sum
  | [] => rfl
  | a :: A => by
    simp only [List.cons_append, prS, List.map_append, List.sum_append, List.map_cons, List.sum_cons, List.map_nil, List.sum_nil]
    rw [prS_snoc f b A]
    omega
theorem prS_rev (f : Int → Int → Int) : ∀ l : List Int, prS f l.reverse = prS (fun x y => f y x) l
  | [] => rfl
  | b :: r => by
    rw [List.reverse_cons, prS_snoc, prS_rev f r, sum_perm (List.reverse_perm r)]
    show _ = (r.map fun y => f y b).sum + prS (fun x y => f y x) r
    omega

def enP : Nat → List PI2 → List (Nat × PI2)
  | _, [] => []
  | n, x :: r => (n, x) :: enP (n + 1) r
def enPD (x : Nat × PI2) : D := .tup [.int (x.1 : Nat), pD x.2]
theorem enum_enP : ∀ (n : Nat) (l : List PI2), enumD n (l.map pD) = (enP n l).map enPD
  | _, [] => rfl
  | n, x :: r => by show _ :: enumD (n + 1) (r.map pD) = _ :: (enP (n + 1) r).map enPD; rw [enum_enP]; rfl
theorem alike_spec (i : Int) (S : Store) : m_law_alike [.int i, .int i] S = .ok (.bl true) S := by
  refine run_pure (d := .bl true) ?_ rfl
  show c_law_alike [some (.int i), some (.int i)] S = _
  unfold c_law_alike
  refine ret_of ?_
  have i1 : dIsi [.int i, .ty "int"] S = .ok (.bl true) S := rfl
  have i2 : dIsi [.int i, .ty "bool"] S = .ok (.bl false) S := rfl
  simp [eAnd, eNot, eB, aCons, aNil, eVar, eC, i1, i2, Rf.e2, dEq]
/-- two ties cross by the orders -/
def opp (up low : List Int) (x y : PI2) : Int := chi (decide ((ix up x.1 - ix up y.1) * (ix low x.2 - ix low y.2) < 0))
theorem opp_crs (up low : List Int) (x y : PI2) : opp up low x y = chi (crs (spt up low x) (spt up low y)) + chi (crs (spt up low y) (spt up low x)) := by
  unfold opp crs spt
  generalize ix up x.1 = a
  generalize ix up y.1 = b
  generalize ix low x.2 = c
  generalize ix low y.2 = d
  show chi (decide ((a - b) * (c - d) < 0)) = chi (decide (a < b) && decide (d < c)) + chi (decide (b < a) && decide (c < d))
  have key : ((a - b) * (c - d) < 0) ↔ ((a < b ∧ d < c) ∨ (b < a ∧ c < d)) := by
    constructor
    · intro h
      by_cases h1 : a < b
      · left
        refine ⟨h1, ?_⟩
        by_cases h2 : d < c
        · exact h2
        · have : 0 ≤ (a - b) * (c - d) := by
            have := Int.mul_nonneg (show 0 ≤ b - a by omega) (show 0 ≤ d - c by omega)
            have e : (b - a) * (d - c) = (a - b) * (c - d) := by rw [← Int.neg_sub a b, ← Int.neg_sub c d, Int.neg_mul_neg]
            rw [e] at this
            exact this
          omega
      · right
        by_cases h2 : b < a
        · refine ⟨h2, ?_⟩
          by_cases h3 : c < d
          · exact h3
          · have := Int.mul_nonneg (show 0 ≤ a - b by omega) (show 0 ≤ c - d by omega)
            omega
        · have : a = b := by omega
          subst this
          rw [Int.sub_self, Int.zero_mul] at h
          omega
    · rintro (⟨h1, h2⟩ | ⟨h1, h2⟩)
      · exact Int.mul_neg_of_neg_of_pos (by omega) (by omega)
      · exact Int.mul_neg_of_pos_of_neg (by omega) (by omega)
  unfold chi
  by_cases h1 : a < b
  · have h1' : ¬ b < a := by omega
    by_cases h2 : d < c
    · have := key.mpr (.inl ⟨h1, h2⟩); simp [h1, h1', h2, this]
    · have : ¬ ((a - b) * (c - d) < 0) := fun z => by rcases key.mp z with q | q <;> omega
      simp [h1, h1', h2, this]
  · by_cases h3 : b < a
    · by_cases h2 : c < d
      · have := key.mpr (.inr ⟨h3, h2⟩); simp [h1, h3, h2, this]
      · have : ¬ ((a - b) * (c - d) < 0) := fun z => by rcases key.mp z with q | q <;> omega
        simp [h1, h3, h2, this]
    · have : ¬ ((a - b) * (c - d) < 0) := fun z => by rcases key.mp z with q | q <;> omega
      simp [h1, h3, this]
theorem S2_prS {α : Type} (F : α → α → Int) (h0 : ∀ x, F x x = 0) : ∀ l : List α, S2 l F = prS (fun x y => F x y + F y x) l
  | [] => rfl
  | b :: r => by
    have ih := S2_prS F h0 r
    unfold S2 at ih ⊢
    simp only [List.map_cons, List.sum_cons, h0]
    rw [sum_add (fun x => F x b) (fun x => (r.map fun y => F x y).sum) r, ih]
    show _ = (r.map fun y => F b y + F y b).sum + prS (fun x y => F x y + F y x) r
    have e9 : (r.map fun y => F b y).sum = (r.map (F b)).sum := rfl
    rw [sum_add (F b) (fun y => F y b) r, e9]
    omega
theorem cross_prS (ts : List PI2) (up low : List Int) : crossN ts up low = prS (opp up low) ts := by
  rw [cross_S2, S2_prS]
  · exact prS_congr fun x _ y _ => (opp_crs up low x y).symm
  · intro x
    unfold crs
    simp [chi]
theorem idx_app_mem {a : Int} : ∀ {l : List Int} (m : List Int), a ∈ l → (l ++ m).idxOf a = l.idxOf a
  | [], _, h => nomatch h
  | x :: l, m, h => by
    rw [List.cons_append, List.idxOf_cons, List.idxOf_cons]
    by_cases e : x = a
    · subst e; simp
    · have e1 : (x == a) = false := beq_eq_false_iff_ne.mpr e
      have ha : a ∈ l := by rcases List.mem_cons.mp h with z | z; exact absurd z.symm e; exact z
      rw [e1, idx_app_mem m ha]
theorem idx_app_not {a : Int} : ∀ {l : List Int} (m : List Int), a ∉ l → (l ++ m).idxOf a = l.length + m.idxOf a
  | [], m, _ => by simp
  | x :: l, m, h => by
    have e1 : (x == a) = false := beq_eq_false_iff_ne.mpr fun z => h (by rw [z]; exact List.mem_cons_self)
    have ih := idx_app_not (a := a) (l := l) m fun z => h (List.mem_cons_of_mem _ z)
    rw [List.cons_append, List.idxOf_cons, e1, List.length_cons]
    simp only [cond_false, ih]
    omega
theorem idx_rev : ∀ {l : List Int} {a : Int}, l.Nodup → a ∈ l → l.reverse.idxOf a + l.idxOf a + 1 = l.length
  | [], _, _, h => nomatch h
  | x :: r, a, hn, h => by
    obtain ⟨h1, h2⟩ := List.nodup_cons.mp hn
    rw [List.reverse_cons, List.length_cons]
    by_cases e : x = a
    · subst e
      have : x ∉ r.reverse := fun z => h1 (List.mem_reverse.mp z)
      rw [idx_app_not _ this, List.idxOf_cons_self, List.idxOf_cons_self, List.length_reverse]
    · have ha : a ∈ r := by rcases List.mem_cons.mp h with z | z; exact absurd z.symm e; exact z
      have e1 : (x == a) = false := beq_eq_false_iff_ne.mpr e
      rw [idx_app_mem _ (List.mem_reverse.mpr ha), List.idxOf_cons]
      have := idx_rev h2 ha
      simp [e1]
      omega
theorem cross_rev {ts : List PI2} {up low : List Int} (hu : up.Nodup) (hl : low.Nodup) (mu : ∀ x ∈ ts, x.1 ∈ up) (ml : ∀ x ∈ ts, x.2 ∈ low) : crossN ts up.reverse low.reverse = crossN ts up low := by
  rw [cross_prS, cross_prS]
  refine prS_congr fun x hx y hy => ?_
  unfold opp ix
  have a1 := idx_rev hu (mu x hx)
  have a2 := idx_rev hu (mu y hy)
  have a3 := idx_rev hl (ml x hx)
  have a4 := idx_rev hl (ml y hy)
  have e : (((up.reverse.idxOf x.1 : Nat) : Int) - (up.reverse.idxOf y.1 : Nat)) * (((low.reverse.idxOf x.2 : Nat) : Int) - (low.reverse.idxOf y.2 : Nat)) = (((up.idxOf x.1 : Nat) : Int) - (up.idxOf y.1 : Nat)) * (((low.idxOf x.2 : Nat) : Int) - (low.idxOf y.2 : Nat)) := by
    have e1 : ((up.reverse.idxOf x.1 : Nat) : Int) - (up.reverse.idxOf y.1 : Nat) = -(((up.idxOf x.1 : Nat) : Int) - (up.idxOf y.1 : Nat)) := by omega
    have e2 : ((low.reverse.idxOf x.2 : Nat) : Int) - (low.reverse.idxOf y.2 : Nat) = -(((low.idxOf x.2 : Nat) : Int) - (low.idxOf y.2 : Nat)) := by omega
    rw [e1, e2, Int.neg_mul_neg]
  rw [e]

theorem mt_index {o : M D} {m : M D} {env : En} {S : Store} {l : List Int} {a : Int} (h1 : o env S = .ok (.tup (l.map .int)) S) (h2 : m env S = .ok (.int a) S) (h : a ∈ l) : (eMt dIndex isSeqB o (aCons m aNil) : M D) env S = .ok (.int (ix l a)) S := by
  unfold eMt
  rw [h1]
  have b1 : isSeqB (.tup (l.map .int)) S = true := rfl
  simp only [bind_ok, b1, if_true]
  rw [Rf.args_cons h2 (by rfl)]
  exact index_spec l a S h
section
variable (p r : Int) (ts : List PI2) (up low : List Int) (S : Store)
def enX (f : Int) (k a b c d h t : Option D) : En := [some (twoD p r ts), some (.tup (up.map .int)), some (.tup (low.map .int)), some (.int f), k, a, b, c, d, h, t]
theorem k78_x1 (f : Int) (k : Nat) (x y : PI2) (hx1 : x.1 ∈ up) (hx2 : x.2 ∈ low) (hy1 : y.1 ∈ up) (hy2 : y.2 ∈ low) (hu : up.length ≤ 100) :
    ∃ h t, c_law_crossings_b1 (enX p r ts up low f (some (.int (k : Nat))) (some (.int x.1)) (some (.int x.2)) (some (.int y.1)) (some (.int y.2)) none none) S = .next (enX p r ts up low (f + opp up low x y) (some (.int (k : Nat))) (some (.int x.1)) (some (.int x.2)) (some (.int y.1)) (some (.int y.2)) h t) S := by
  refine ⟨some (.int (ix up x.1 - ix up y.1)), some (.int (ix low x.2 - ix low y.2)), ?_⟩
  unfold c_law_crossings_b1
  rw [seq_next (e' := enX p r ts up low f (some (.int (k : Nat))) (some (.int x.1)) (some (.int x.2)) (some (.int y.1)) (some (.int y.2)) (some (.int (ix up x.1 - ix up y.1))) none) (S' := S)]
  · rw [seq_next (e' := enX p r ts up low f (some (.int (k : Nat))) (some (.int x.1)) (some (.int x.2)) (some (.int y.1)) (some (.int y.2)) (some (.int (ix up x.1 - ix up y.1))) (some (.int (ix low x.2 - ix low y.2)))) (S' := S)]
    · have hcm : CMul (ix up x.1 - ix up y.1) (ix low x.2 - ix low y.2) := .inl (by
        have h1 := List.idxOf_lt_length_of_mem hx1
        have h2 := List.idxOf_lt_length_of_mem hy1
        unfold ix
        omega)
      have hc : (tst (e2 dLt (e2 dMulI (eVar 9) (eVar 10)) (eC (.int 0))) : M Bool) (enX p r ts up low f (some (.int (k : Nat))) (some (.int x.1)) (some (.int x.2)) (some (.int y.1)) (some (.int y.2)) (some (.int (ix up x.1 - ix up y.1))) (some (.int (ix low x.2 - ix low y.2)))) S = .ok (decide ((ix up x.1 - ix up y.1) * (ix low x.2 - ix low y.2) < 0)) S := by
        refine tst_of ((e2_of (f := dLt) (x := .int ((ix up x.1 - ix up y.1) * (ix low x.2 - ix low y.2))) (S1 := S) ?_ (y := .int 0) (S2 := S) (by rfl)).trans rfl)
        refine (e2_of (f := dMulI) (x := .int (ix up x.1 - ix up y.1)) (S1 := S) (by rfl) (y := .int (ix low x.2 - ix low y.2)) (S2 := S) (by rfl)).trans ?_
        unfold dMulI i2
        simp [hcm]
      by_cases z : (ix up x.1 - ix up y.1) * (ix low x.2 - ix low y.2) < 0
      · rw [decide_eq_true z] at hc
        rw [if_yes hc]
        have e : opp up low x y = 1 := by unfold opp; rw [decide_eq_true z]; rfl
        rw [e]
        rfl
      · rw [decide_eq_false z] at hc
        rw [if_no hc]
        have e : opp up low x y = 0 := by unfold opp; rw [decide_eq_false z]; rfl
        rw [e, Int.add_zero]
        rfl
    · exact asg_next ((e2_of (f := dSub) (mt_index (by rfl) (by rfl) hx2) (mt_index (by rfl) (by rfl) hy2)).trans rfl)
  · exact asg_next ((e2_of (f := dSub) (mt_index (by rfl) (by rfl) hx1) (mt_index (by rfl) (by rfl) hy1)).trans rfl)
theorem k78_first (hu : up.length ≤ 100) (mu : ∀ x ∈ ts, x.1 ∈ up) (ml : ∀ x ∈ ts, x.2 ∈ low) : ∀ (R A : List PI2) (f : Int), ts = A ++ R →
    loopD (pTup 2 (pCons (pName 4) (pCons (pTup 2 (pCons (pName 5) (pCons (pName 6) pNil))) pNil))) c_law_crossings_b2 [4, 5, 6, 7, 8, 9, 10] (fun _ => True) ((enP A.length R).map enPD) (enX p r ts up low f none none none none none none none) S = .next (enX p r ts up low (f + prS (opp up low) R) none none none none none none none) S
  | [], A, f, _ => by
    show loopD _ _ _ _ [] _ _ = _
    unfold loopD prS
    rw [if_pos trivial]
    simp
  | b :: R, A, f, e => by
    have ih := k78_first hu mu ml R (A ++ [b]) (f + (R.map (opp up low b)).sum) (by rw [e, List.append_assoc]; rfl)
    rw [List.length_append] at ih
    show loopD _ _ _ _ (enPD (A.length, b) :: (enP (A.length + 1) R).map enPD) _ _ = _
    unfold loopD
    rw [if_pos trivial]
    have bm : b ∈ ts := by rw [e]; simp
    have hb : c_law_crossings_b2 (enX p r ts up low f (some (.int (A.length : Nat))) (some (.int b.1)) (some (.int b.2)) none none none none) S = .next (enX p r ts up low (f + (R.map (opp up low b)).sum) (some (.int (A.length : Nat))) (some (.int b.1)) (some (.int b.2)) none none none none) S := by
      unfold c_law_crossings_b2
      have hsl : (eSl dSl (e2 dIx (eVar 0) (eC (.int 2))) (oSome (e2 dAdd (eVar 4) (eC (.int 1)))) oNone : M D) (enX p r ts up low f (some (.int (A.length : Nat))) (some (.int b.1)) (some (.int b.2)) none none none none) S = .ok (.tup (R.map pD)) S := by
        have hc : Rf.cutD (ts.map pD) (some ((A.length + 1 : Nat) : Int)) none = R.map pD := by
          rw [cut_drop, e, List.map_append, List.drop_append, List.length_map, List.drop_of_length_le (by rw [List.length_map]; omega)]
          rw [show A.length + 1 - A.length = 1 by omega]
          rfl
        have hc' : Rf.cutD (ts.map pD) (some ((A.length : Nat) + 1 : Int)) none = R.map pD := hc
        have hix : dIx (twoD p r ts) (.int 2) S = .ok (.tup (ts.map pD)) S := rfl
        simp only [eSl, eVar, enX, List.getElem?_cons_zero, List.getElem?_cons_succ, bind_ok, oSome, Rf.e2, eC, hix, dAdd, oNone, dSl, hc']
      rw [for_of (ds := R.map pD) (S1 := S) (seq_of (d := .tup (R.map pD)) hsl rfl)]
      refine lp_sum pD (fun f => enX p r ts up low f (some (.int (A.length : Nat))) (some (.int b.1)) (some (.int b.2)) none none none none) S (opp up low b) R f fun y hy f => ?_
      have ym : y ∈ ts := by rw [e]; simp [hy]
      obtain ⟨h, t, q⟩ := k78_x1 p r ts up low S f A.length b y (mu b bm) (ml b bm) (mu y ym) (ml y ym) hu
      exact ⟨_, _, rfl, .inl q, rfl⟩
    have hpat : pTup 2 (pCons (pName 4) (pCons (pTup 2 (pCons (pName 5) (pCons (pName 6) pNil))) pNil)) (enPD (A.length, b)) (enX p r ts up low f none none none none none none none) = some (enX p r ts up low f (some (.int (A.length : Nat))) (some (.int b.1)) (some (.int b.2)) none none none none) := rfl
    rw [hpat]
    dsimp only
    rw [hb]
    dsimp only
    have hcl : clr (enX p r ts up low (f + (R.map (opp up low b)).sum) (some (.int (A.length : Nat))) (some (.int b.1)) (some (.int b.2)) none none none none) [4, 5, 6, 7, 8, 9, 10] = enX p r ts up low (f + (R.map (opp up low b)).sum) none none none none none none none := rfl
    rw [hcl]
    have e1 : f + prS (opp up low) (b :: R) = f + (R.map (opp up low b)).sum + prS (opp up low) R := by
      show f + ((R.map (opp up low b)).sum + prS (opp up low) R) = _
      omega
    rw [e1]
    exact ih
theorem crossings_spec (g : goodT p r ts) (hu : up.Perm (rngI p.toNat)) (hl : low.Perm (rngI r.toNat)) : m_law_crossings [twoD p r ts, .tup (up.map .int), .tup (low.map .int)] S = .ok (.int (crossN ts up low)) S := by
  have mu : ∀ x ∈ ts, x.1 ∈ up := fun x hx => by
    obtain ⟨a1, a2, a3, a4⟩ := g.tie x hx
    exact hu.symm.mem_iff.mp (rngI_mem.mpr ⟨a1, by omega⟩)
  have ml : ∀ x ∈ ts, x.2 ∈ low := fun x hx => by
    obtain ⟨a1, a2, a3, a4⟩ := g.tie x hx
    exact hl.symm.mem_iff.mp (rngI_mem.mpr ⟨a3, by omega⟩)
  have hul : up.length ≤ 100 := by have := hu.length_eq; rw [rngI_len] at this; have := g.p7; omega
  refine run_pure (d := .int (crossN ts up low)) ?_ rfl
  show c_law_crossings [some (twoD p r ts), some (.tup (up.map .int)), some (.tup (low.map .int)), none, none, none, none, none, none, none, none] S = _
  unfold c_law_crossings
  rw [seq_next (e' := enX p r ts up low 0 none none none none none none none) (S' := S) (by rfl)]
  rw [seq_next (e' := enX p r ts up low (crossN ts up low) none none none none none none none) (S' := S)]
  · rfl
  · rw [for_of (ds := enumD 0 (ts.map pD)) (S1 := S) (by rfl), enum_enP]
    have := k78_first p r ts up low S hul mu ml ts [] 0 rfl
    rw [Int.zero_add, ← cross_prS] at this
    exact this
end

section
variable (p r : Int) (ts : List PI2) (up : List Int) (S : Store)
def enB (b d f : Int) (x1 x2 y1 y2 : Option D) : En := [some (twoD p r ts), some (.tup (up.map .int)), some (.int b), some (.int d), some (.int f), x1, x2, y1, y2]
def btw (up : List Int) (b d : Int) (x y : PI2) : Int := chi (decide (x.2 = b)) * chi (decide (y.2 = d)) * chi (decide (ix up y.1 < ix up x.1))
theorem k78_bw1 (b d f : Int) (x y : PI2) (hx : x.1 ∈ up) (hy : y.1 ∈ up) :
    c_law_between_b1 (enB p r ts up b d f (some (.int x.1)) (some (.int x.2)) (some (.int y.1)) (some (.int y.2))) S = .next (enB p r ts up b d (f + btw up b d x y) (some (.int x.1)) (some (.int x.2)) (some (.int y.1)) (some (.int y.2))) S := by
  unfold c_law_between_b1
  have t3 : (tst (e2 dLt (eMt dIndex isSeqB (eVar 1) (aCons (eVar 7) aNil)) (eMt dIndex isSeqB (eVar 1) (aCons (eVar 5) aNil))) : M Bool) (enB p r ts up b d f (some (.int x.1)) (some (.int x.2)) (some (.int y.1)) (some (.int y.2))) S = .ok (decide (ix up y.1 < ix up x.1)) S :=
    tst_of ((e2_of (f := dLt) (mt_index (by rfl) (by rfl) hy) (mt_index (by rfl) (by rfl) hx)).trans rfl)
  have t1 : (tst (e2 dEq (eVar 6) (eVar 2)) : M Bool) (enB p r ts up b d f (some (.int x.1)) (some (.int x.2)) (some (.int y.1)) (some (.int y.2))) S = .ok (decide (x.2 = b)) S := rfl
  have t2 : (tst (e2 dEq (eVar 8) (eVar 3)) : M Bool) (enB p r ts up b d f (some (.int x.1)) (some (.int x.2)) (some (.int y.1)) (some (.int y.2))) S = .ok (decide (y.2 = d)) S := rfl
  have hc : (tAnd' (tst (e2 dEq (eVar 6) (eVar 2))) (tAnd' (tst (e2 dEq (eVar 8) (eVar 3))) (tst (e2 dLt (eMt dIndex isSeqB (eVar 1) (aCons (eVar 7) aNil)) (eMt dIndex isSeqB (eVar 1) (aCons (eVar 5) aNil))))) : M Bool) (enB p r ts up b d f (some (.int x.1)) (some (.int x.2)) (some (.int y.1)) (some (.int y.2))) S = .ok (decide (x.2 = b) && (decide (y.2 = d) && decide (ix up y.1 < ix up x.1))) S := by
    unfold tAnd'
    rw [t1]
    cases decide (x.2 = b) with
    | false => rfl
    | true =>
      simp only [bind_ok, if_true]
      rw [t2]
      cases decide (y.2 = d) with
      | false => rfl
      | true =>
        simp only [bind_ok, if_true]
        rw [t3]
        rfl
  have e : btw up b d x y = chi (decide (x.2 = b) && (decide (y.2 = d) && decide (ix up y.1 < ix up x.1))) := by
    unfold btw
    rw [chi_and, chi_and, Int.mul_assoc]
  rw [e]
  generalize (decide (x.2 = b) && (decide (y.2 = d) && decide (ix up y.1 < ix up x.1))) = z at hc
  cases z with
  | true => rw [if_yes hc]; rfl
  | false => rw [if_no hc, show chi false = 0 from rfl, Int.add_zero]; rfl
theorem between_spec (b d : Int) (g : goodT p r ts) (hu : up.Perm (rngI p.toNat)) : m_law_between [twoD p r ts, .tup (up.map .int), .int b, .int d] S = .ok (.int (numN ts up b d)) S := by
  have mu : ∀ x ∈ ts, x.1 ∈ up := fun x hx => by
    obtain ⟨a1, a2, a3, a4⟩ := g.tie x hx
    exact hu.symm.mem_iff.mp (rngI_mem.mpr ⟨a1, by omega⟩)
  refine run_pure (d := .int (numN ts up b d)) ?_ rfl
  show c_law_between [some (twoD p r ts), some (.tup (up.map .int)), some (.int b), some (.int d), none, none, none, none, none] S = _
  unfold c_law_between
  rw [seq_next (e' := enB p r ts up b d 0 none none none none) (S' := S) (by rfl)]
  rw [seq_next (e' := enB p r ts up b d (numN ts up b d) none none none none) (S' := S)]
  · rfl
  · rw [for_of (ds := ts.map pD) (S1 := S) (seq_of (d := .tup (ts.map pD)) (by rfl) (by rfl))]
    have hin : ∀ x ∈ ts, ∀ f, c_law_between_b2 (enB p r ts up b d f (some (.int x.1)) (some (.int x.2)) none none) S = .next (enB p r ts up b d (f + (ts.map (btw up b d x)).sum) (some (.int x.1)) (some (.int x.2)) none none) S := fun x hx f => by
      unfold c_law_between_b2
      rw [for_of (ds := ts.map pD) (S1 := S) (seq_of (d := .tup (ts.map pD)) (by rfl) (by rfl))]
      exact lp_sum pD (fun f => enB p r ts up b d f (some (.int x.1)) (some (.int x.2)) none none) S (btw up b d x) ts f fun y hy f => ⟨_, _, rfl, .inl (k78_bw1 p r ts up S b d f x y (mu x hx) (mu y hy)), rfl⟩
    have := lp_sum (p := pTup 2 (pCons (pName 5) (pCons (pName 6) pNil))) (body := c_law_between_b2) (dead := [5, 6, 7, 8]) pD (fun f => enB p r ts up b d f none none none none) S (fun x => (ts.map (btw up b d x)).sum) ts 0 fun x hx f => ⟨_, _, rfl, .inl (hin x hx f), rfl⟩
    rw [Int.zero_add] at this
    have e : numN ts up b d = (ts.map fun x => (ts.map (btw up b d x)).sum).sum := num_S2 ts up b d
    rw [e]
    exact this
end
theorem not_alike {m : M D} {k : Nat} {env : En} {S : Store} {i : Int} (h : m env S = .ok (.int i) S) (h2 : env[k]? = some (some (.int i))) :
    (sIf (tNot' (tst (eCall 2 m_law_alike (aCons m (aCons (eVar k) aNil))))) (sRet (eC (.bl false))) sNil : MS) env S = .next env S := by
  have e : tst (eCall 2 m_law_alike (aCons m (aCons (eVar k) aNil))) env S = .ok true S := tst_of (call_of (n := 2) (ds := [.int i, .int i]) (S' := S) (Rf.args_cons h (Rf.args_cons (var_of h2) (by rfl))) rfl (alike_spec i S))
  rw [if_no (S' := S)]
  · rfl
  · unfold tNot'
    rw [e]
    rfl
section
variable (sc f : Option D) (p r : Int) (ts : List PI2)
def enV (bo hi lo du b d : Option D) : En := [sc, f, some (twoD p r ts), bo, hi, lo, du, b, d]
theorem k78_bd (g : goodT p r ts) (up low : List Int) (S : Store) (hu : up.Perm (rngI p.toNat)) (bo : Option D) (x : Option D) (b d : Int) :
    ∃ e2, c_law_b1 (enV sc f p r ts bo (some (.tup (up.map .int))) (some (.tup (low.map .int))) x (some (.int b)) (some (.int d))) S = .next e2 S ∧ clr e2 [8, 6] = enV sc f p r ts bo (some (.tup (up.map .int))) (some (.tup (low.map .int))) none (some (.int b)) none := by
  refine ⟨enV sc f p r ts bo (some (.tup (up.map .int))) (some (.tup (low.map .int))) none (some (.int b)) (some (.int d)), ?_, rfl⟩
  unfold c_law_b1 sCl
  have hc : (tst (e2 dNe (eVar 7) (eVar 8)) : M Bool) (enV sc f p r ts bo (some (.tup (up.map .int))) (some (.tup (low.map .int))) x (some (.int b)) (some (.int d))) S = .ok (!decide (b = d)) S := rfl
  by_cases z : b = d
  · rw [decide_eq_true z] at hc
    rw [if_no hc]
    rfl
  · rw [decide_eq_false z] at hc
    rw [if_yes hc]
    have h1 : (sAsg (eCall 4 m_law_between (aCons (eVar 2) (aCons (eVar 4) (aCons (eVar 7) (aCons (eVar 8) aNil))))) (pName 6) : MS) (enV sc f p r ts bo (some (.tup (up.map .int))) (some (.tup (low.map .int))) x (some (.int b)) (some (.int d))) S = .next (enV sc f p r ts bo (some (.tup (up.map .int))) (some (.tup (low.map .int))) (some (.int (numN ts up b d))) (some (.int b)) (some (.int d))) S :=
      asg_next (call_of (n := 4) (ds := [twoD p r ts, .tup (up.map .int), .int b, .int d]) (S' := S) (by rfl) rfl (between_spec p r ts up S b d g hu))
    rw [seq_next h1, not_alike (i := numN ts up b d) (call_of (n := 4) (ds := [twoD p r ts, .tup (up.map .int), .int b, .int d]) (S' := S) (by rfl) rfl (number_spec p r ts up b d S g hu)) rfl]
    rfl
theorem k78_bout (ns : List Int) (t c : Int) (bo : Nat) (g : goodT p r ts) (ht : 0 ≤ t) (ht2 : t < 10000) :
    ∃ (t' c' : Int) (e2 : En), c_law_b3 (enV sc (some (.cell 0)) p r ts (some (.int (bo : Nat))) none none none none none) [fdR ns t c] = .next e2 [fdR ns t' c'] ∧ clr e2 [3, 4, 5, 6, 7, 8] = enV sc (some (.cell 0)) p r ts none none none none none none ∧ t ≤ t' ∧ t' ≤ t + 14 := by
  have p1 := g.p1
  have p7 := g.p7
  have q1 := g.q1
  have q7 := g.q7
  obtain ⟨t2, c2, up, h3, hu, t2a, t2b⟩ := row_spec [fdR ns t c] 0 ns t c p.toNat rfl (by omega) ht (by omega)
  rw [Int.toNat_of_nonneg (by omega)] at h3
  obtain ⟨t3, c3, low, h4, hl, t3a, t3b⟩ := row_spec [fdR ns t2 c2] 0 ns t2 c2 r.toNat rfl (by omega) (by omega) (by omega)
  rw [Int.toNat_of_nonneg (by omega)] at h4
  obtain ⟨S, hS⟩ : ∃ S : Store, S = [fdR ns t3 c3] := ⟨_, rfl⟩
  have mu : ∀ x ∈ ts, x.1 ∈ up := fun x hx => by
    obtain ⟨a1, a2, a3, a4⟩ := g.tie x hx
    exact hu.symm.mem_iff.mp (rngI_mem.mpr ⟨a1, by omega⟩)
  have ml : ∀ x ∈ ts, x.2 ∈ low := fun x hx => by
    obtain ⟨a1, a2, a3, a4⟩ := g.tie x hx
    exact hl.symm.mem_iff.mp (rngI_mem.mpr ⟨a3, by omega⟩)
  have hnu : up.Nodup := hu.nodup_iff.mpr (rngI_nodup _)
  have hnl : low.Nodup := hl.nodup_iff.mpr (rngI_nodup _)
  have cr1 := crossed_spec p r ts up low S g hu hl
  have cr2 := crossed_spec p r ts up.reverse low.reverse S g ((List.reverse_perm up).trans hu) ((List.reverse_perm low).trans hl)
  rw [cross_rev hnu hnl mu ml] at cr2
  have cr3 := crossings_spec p r ts up low S g hu hl
  refine ⟨t3, c3, enV sc (some (.cell 0)) p r ts (some (.int (bo : Nat))) (some (.tup (up.map .int))) (some (.tup (low.map .int))) none none none, ?_, rfl, by omega, by omega⟩
  rw [← hS]
  have s3 : (sPar 4 5 (aCons (eCall 2 m_law_row (aCons (eVar 1) (aCons (e2 dIx (eVar 2) (eC (.int 0))) aNil))) (aCons (eCall 2 m_law_row (aCons (eVar 1) (aCons (e2 dIx (eVar 2) (eC (.int 1))) aNil))) aNil)) : MS) (enV sc (some (.cell 0)) p r ts (some (.int (bo : Nat))) none none none none none) [fdR ns t c] = .next (enV sc (some (.cell 0)) p r ts (some (.int (bo : Nat))) (some (.tup (up.map .int))) (some (.tup (low.map .int))) none none none) S := by
    rw [hS]
    exact par_of (Rf.args_cons (call_of (n := 2) (ds := [.cell 0, .int p]) (S' := [fdR ns t c]) (by rfl) rfl h3) (Rf.args_cons (call_of (n := 2) (ds := [.cell 0, .int r]) (S' := [fdR ns t2 c2]) (by rfl) rfl h4) (by rfl)))
  have s4 : (sAsg (eCall 3 m_law_crossings (aCons (eVar 2) (aCons (eVar 4) (aCons (eVar 5) aNil)))) (pName 6) : MS) (enV sc (some (.cell 0)) p r ts (some (.int (bo : Nat))) (some (.tup (up.map .int))) (some (.tup (low.map .int))) none none none) S = .next (enV sc (some (.cell 0)) p r ts (some (.int (bo : Nat))) (some (.tup (up.map .int))) (some (.tup (low.map .int))) (some (.int (crossN ts up low))) none none) S :=
    asg_next (call_of (n := 3) (ds := [twoD p r ts, .tup (up.map .int), .tup (low.map .int)]) (S' := S) (by rfl) rfl cr3)
  have hrev : ([twoD p r ts, .tup (up.reverse.map .int), .tup (low.reverse.map .int)] : List D) = [twoD p r ts, .tup (up.map .int).reverse, .tup (low.map .int).reverse] := by rw [List.map_reverse, List.map_reverse]
  have s5 := not_alike (k := 6) (env := enV sc (some (.cell 0)) p r ts (some (.int (bo : Nat))) (some (.tup (up.map .int))) (some (.tup (low.map .int))) (some (.int (crossN ts up low))) none none) (call_of (n := 3) (F := m_crossed) (ma := aCons (eVar 2) (aCons (eVar 4) (aCons (eVar 5) aNil))) (ds := [twoD p r ts, .tup (up.map .int), .tup (low.map .int)]) (S' := S) (by rfl) rfl cr1) rfl
  have s6 := not_alike (k := 6) (env := enV sc (some (.cell 0)) p r ts (some (.int (bo : Nat))) (some (.tup (up.map .int))) (some (.tup (low.map .int))) (some (.int (crossN ts up low))) none none) (call_of (n := 3) (F := m_crossed) (ma := aCons (eVar 2) (aCons (Rf.e1 dRev (eVar 4)) (aCons (Rf.e1 dRev (eVar 5)) aNil))) (ds := [twoD p r ts, .tup (up.reverse.map .int), .tup (low.reverse.map .int)]) (S' := S) (by rw [hrev]; rfl) rfl cr2) rfl
  unfold c_law_b3
  rw [seq_next s3, seq_next s4, seq_next s5, seq_next s6]
  have itr : ∀ env : En, env[2]? = some (some (twoD p r ts)) → (iR1 (aCons (e2 dIx (eVar 2) (eC (.int 1))) aNil) : M IT) env S = .ok ⟨(List.range r.toNat).map fun i => .int (i : Nat), []⟩ S := fun env he =>
    r1_of (Rf.args_cons (x := .int r) (S1 := S) ((e2_of (f := dIx) (var_of he) (y := .int 1) (S2 := S) (by rfl)).trans rfl) (by rfl)) (by omega) (by omega)
  rw [for_of (itr _ rfl)]
  refine lp_same (fun i : Nat => D.int (i : Nat)) (enV sc (some (.cell 0)) p r ts (some (.int (bo : Nat))) (some (.tup (up.map .int))) (some (.tup (low.map .int))) none none none) S _ fun b hb => ?_
  refine ⟨enV sc (some (.cell 0)) p r ts (some (.int (bo : Nat))) (some (.tup (up.map .int))) (some (.tup (low.map .int))) none (some (.int (b : Nat))) none, enV sc (some (.cell 0)) p r ts (some (.int (bo : Nat))) (some (.tup (up.map .int))) (some (.tup (low.map .int))) none (some (.int (b : Nat))) none, rfl, .inl ?_, rfl⟩
  unfold c_law_b2
  rw [for_of (itr _ rfl)]
  refine lp_same (fun i : Nat => D.int (i : Nat)) (enV sc (some (.cell 0)) p r ts (some (.int (bo : Nat))) (some (.tup (up.map .int))) (some (.tup (low.map .int))) none (some (.int (b : Nat))) none) S _ fun d hd => ?_
  obtain ⟨e2, z1, z2⟩ := k78_bd sc (some (.cell 0)) p r ts g up low S hu (some (.int (bo : Nat))) none (b : Nat) (d : Nat)
  exact ⟨_, e2, rfl, .inl z1, z2⟩
end
theorem law_true (ns : List Int) : ∃ S', m_law [.fz (ns.map .int)] [] = .ok (.bl true) S' := by
  obtain ⟨sc, hsc⟩ : ∃ sc : Option D, sc = some (.fz (ns.map .int)) := ⟨_, rfl⟩
  have hf := feed_spec ns []
  obtain ⟨t1, c1, p, r, ts, h2, g, t1a, t1b⟩ := two_spec [fdR (ns.take 63) 0 0] 0 (ns.take 63) 0 0 rfl (by decide) (by decide)
  have s1 : (sAsg (eCall 1 m_law_feed (aCons (eVar 0) aNil)) (pName 1) : MS) [sc, none, none, none, none, none, none, none, none] [] = .next [sc, some (.cell 0), none, none, none, none, none, none, none] [fdR (ns.take 63) 0 0] := by
    rw [hsc]
    exact asg_next (call_of (n := 1) (ds := [.fz (ns.map .int)]) (S' := []) (by rfl) rfl hf)
  have s2 : (sAsg (eCall 1 m_law_two (aCons (eVar 1) aNil)) (pName 2) : MS) [sc, some (.cell 0), none, none, none, none, none, none, none] [fdR (ns.take 63) 0 0] = .next (enV sc (some (.cell 0)) p r ts none none none none none none) [fdR (ns.take 63) t1 c1] :=
    asg_next (call_of (n := 1) (ds := [.cell 0]) (S' := [fdR (ns.take 63) 0 0]) (by rfl) rfl h2)
  obtain ⟨env', S', h3, he, -⟩ := lp_rel (p := pName 3) (body := c_law_b3) (dead := [3, 4, 5, 6, 7, 8]) (fun i : Nat => D.int (i : Nat)) (fun pre env S => env = enV sc (some (.cell 0)) p r ts none none none none none none ∧ ∃ t c : Int, S = [fdR (ns.take 63) t c] ∧ 0 ≤ t ∧ t ≤ 100 + 14 * (pre.length : Nat)) (List.range 3) [] (enV sc (some (.cell 0)) p r ts none none none none none none) [fdR (ns.take 63) t1 c1] ⟨rfl, t1, c1, rfl, t1a, by simp; omega⟩ (by
    rintro pre x post hpre env S ⟨rfl, t, c, rfl, h0, h1⟩
    have hlen : pre.length < 3 := by
      have := congrArg List.length hpre
      simp at this
      omega
    obtain ⟨t', c', e2, q1, q2, q3, q4⟩ := k78_bout sc p r ts (ns.take 63) t c x g h0 (by omega)
    exact ⟨_, e2, _, rfl, .inl q1, q2, t', c', rfl, by omega, by rw [List.length_append]; simp; omega⟩)
  subst he
  have s3 : (sFor (iR1 (aCons (eC (.int 3)) aNil)) (pName 3) c_law_b3 [3, 4, 5, 6, 7, 8] : MS) (enV sc (some (.cell 0)) p r ts none none none none none none) [fdR (ns.take 63) t1 c1] = .next (enV sc (some (.cell 0)) p r ts none none none none none none) S' := by
    rw [for_of (r1_of (j := 3) (by rfl) (by decide) (by decide))]
    exact h3
  refine ⟨[], run_loc (L := S') ?_ rfl⟩
  show c_law [some (.fz (ns.map .int)), none, none, none, none, none, none, none, none] [] = .ret (.bl true) ([] ++ S')
  rw [← hsc]
  unfold c_law
  rw [seq_next s1, seq_next s2, seq_next s3]
  rfl
theorem sp_law {K : PySem.W.Frag} {H : Hp} {a : Addr} {ns : List Int} {E : XK} (hO : Only H) (hS : SqL K H a (ns.map V.int)) : spF K (fun _ => 0) 1 m_law [.ref a] H (fun v _ => v = .bl true) E := law_sp (law_true ns) hO hS

theorem all_mk {l : PySem.W.OpenLaw} {w : World} {K : PySem.W.Frag} {h : Heap} {mg : Str → Option Value} {fa : Addr} (X : K.In h) (G : h.Ns mainGlobals mg) (hfa : mg "law" = some (.ref fa))
    {f0 : Addr} {od0 an0 : Option Addr} {sl0 : Array (Option Value)} {oc0 kV0 dc0 pm0 cd0 ct0 : Value}
    (a0 : PySem.W.nsIn K mainGlobals "_law_feed" = some (some (.ref f0))) (l0 : K.lookup f0 = some ⟨oc0, od0, .func (PySem.W.fnOf "_law_feed" "_law_feed" (defArgs s_law_feed) (defBody s_law_feed) (defScope s_law_feed) .none kV0 dc0 pm0 an0 cd0 ct0), sl0⟩) (c0 : PySem.W.codeIn K cd0 "_law_feed" = true) (k0 : PySem.W.keepIn K (.ref f0) = true)
    {f1 : Addr} {od1 an1 : Option Addr} {sl1 : Array (Option Value)} {oc1 kV1 dc1 pm1 cd1 ct1 : Value}
    (a1 : PySem.W.nsIn K mainGlobals "_law_draw" = some (some (.ref f1))) (l1 : K.lookup f1 = some ⟨oc1, od1, .func (PySem.W.fnOf "_law_draw" "_law_draw" (defArgs s_law_draw) (defBody s_law_draw) (defScope s_law_draw) .none kV1 dc1 pm1 an1 cd1 ct1), sl1⟩) (c1 : PySem.W.codeIn K cd1 "_law_draw" = true) (k1 : PySem.W.keepIn K (.ref f1) = true)
    {f2 : Addr} {od2 an2 : Option Addr} {sl2 : Array (Option Value)} {oc2 kV2 dc2 pm2 cd2 ct2 : Value}
    (a2 : PySem.W.nsIn K mainGlobals "_law_two" = some (some (.ref f2))) (l2 : K.lookup f2 = some ⟨oc2, od2, .func (PySem.W.fnOf "_law_two" "_law_two" (defArgs s_law_two) (defBody s_law_two) (defScope s_law_two) .none kV2 dc2 pm2 an2 cd2 ct2), sl2⟩) (c2 : PySem.W.codeIn K cd2 "_law_two" = true) (k2 : PySem.W.keepIn K (.ref f2) = true)
    {f3 : Addr} {od3 an3 : Option Addr} {sl3 : Array (Option Value)} {oc3 kV3 dc3 pm3 cd3 ct3 : Value}
    (a3 : PySem.W.nsIn K mainGlobals "_law_crossings" = some (some (.ref f3))) (l3 : K.lookup f3 = some ⟨oc3, od3, .func (PySem.W.fnOf "_law_crossings" "_law_crossings" (defArgs s_law_crossings) (defBody s_law_crossings) (defScope s_law_crossings) .none kV3 dc3 pm3 an3 cd3 ct3), sl3⟩) (c3 : PySem.W.codeIn K cd3 "_law_crossings" = true) (k3 : PySem.W.keepIn K (.ref f3) = true)
    {f4 : Addr} {od4 an4 : Option Addr} {sl4 : Array (Option Value)} {oc4 kV4 dc4 pm4 cd4 ct4 : Value}
    (a4 : PySem.W.nsIn K mainGlobals "_law_row" = some (some (.ref f4))) (l4 : K.lookup f4 = some ⟨oc4, od4, .func (PySem.W.fnOf "_law_row" "_law_row" (defArgs s_law_row) (defBody s_law_row) (defScope s_law_row) .none kV4 dc4 pm4 an4 cd4 ct4), sl4⟩) (c4 : PySem.W.codeIn K cd4 "_law_row" = true) (k4 : PySem.W.keepIn K (.ref f4) = true)
    {f5 : Addr} {od5 an5 : Option Addr} {sl5 : Array (Option Value)} {oc5 kV5 dc5 pm5 cd5 ct5 : Value}
    (a5 : PySem.W.nsIn K mainGlobals "_law_alike" = some (some (.ref f5))) (l5 : K.lookup f5 = some ⟨oc5, od5, .func (PySem.W.fnOf "_law_alike" "_law_alike" (defArgs s_law_alike) (defBody s_law_alike) (defScope s_law_alike) .none kV5 dc5 pm5 an5 cd5 ct5), sl5⟩) (c5 : PySem.W.codeIn K cd5 "_law_alike" = true) (k5 : PySem.W.keepIn K (.ref f5) = true)
    {f6 : Addr} {od6 an6 : Option Addr} {sl6 : Array (Option Value)} {oc6 kV6 dc6 pm6 cd6 ct6 : Value}
    (a6 : PySem.W.nsIn K mainGlobals "is_whole" = some (some (.ref f6))) (l6 : K.lookup f6 = some ⟨oc6, od6, .func (PySem.W.fnOf "is_whole" "is_whole" (defArgs s_is_whole) (defBody s_is_whole) (defScope s_is_whole) .none kV6 dc6 pm6 an6 cd6 ct6), sl6⟩) (c6 : PySem.W.codeIn K cd6 "is_whole" = true) (k6 : PySem.W.keepIn K (.ref f6) = true)
    {f7 : Addr} {od7 an7 : Option Addr} {sl7 : Array (Option Value)} {oc7 kV7 dc7 pm7 cd7 ct7 : Value}
    (a7 : PySem.W.nsIn K mainGlobals "is_order" = some (some (.ref f7))) (l7 : K.lookup f7 = some ⟨oc7, od7, .func (PySem.W.fnOf "is_order" "is_order" (defArgs s_is_order) (defBody s_is_order) (defScope s_is_order) .none kV7 dc7 pm7 an7 cd7 ct7), sl7⟩) (c7 : PySem.W.codeIn K cd7 "is_order" = true) (k7 : PySem.W.keepIn K (.ref f7) = true)
    {f8 : Addr} {od8 an8 : Option Addr} {sl8 : Array (Option Value)} {oc8 kV8 dc8 pm8 cd8 ct8 : Value}
    (a8 : PySem.W.nsIn K mainGlobals "upper_looked_at" = some (some (.ref f8))) (l8 : K.lookup f8 = some ⟨oc8, od8, .func (PySem.W.fnOf "upper_looked_at" "upper_looked_at" (defArgs s_upper_looked_at) (defBody s_upper_looked_at) (defScope s_upper_looked_at) .none kV8 dc8 pm8 an8 cd8 ct8), sl8⟩) (c8 : PySem.W.codeIn K cd8 "upper_looked_at" = true) (k8 : PySem.W.keepIn K (.ref f8) = true)
    {f9 : Addr} {od9 an9 : Option Addr} {sl9 : Array (Option Value)} {oc9 kV9 dc9 pm9 cd9 ct9 : Value}
    (a9 : PySem.W.nsIn K mainGlobals "both_looked_at" = some (some (.ref f9))) (l9 : K.lookup f9 = some ⟨oc9, od9, .func (PySem.W.fnOf "both_looked_at" "both_looked_at" (defArgs s_both_looked_at) (defBody s_both_looked_at) (defScope s_both_looked_at) .none kV9 dc9 pm9 an9 cd9 ct9), sl9⟩) (c9 : PySem.W.codeIn K cd9 "both_looked_at" = true) (k9 : PySem.W.keepIn K (.ref f9) = true)
    {f10 : Addr} {od10 an10 : Option Addr} {sl10 : Array (Option Value)} {oc10 kV10 dc10 pm10 cd10 ct10 : Value}
    (a10 : PySem.W.nsIn K mainGlobals "crossed" = some (some (.ref f10))) (l10 : K.lookup f10 = some ⟨oc10, od10, .func (PySem.W.fnOf "crossed" "crossed" (defArgs s_crossed) (defBody s_crossed) (defScope s_crossed) .none kV10 dc10 pm10 an10 cd10 ct10), sl10⟩) (c10 : PySem.W.codeIn K cd10 "crossed" = true) (k10 : PySem.W.keepIn K (.ref f10) = true)
    {f11 : Addr} {od11 an11 : Option Addr} {sl11 : Array (Option Value)} {oc11 kV11 dc11 pm11 cd11 ct11 : Value}
    (a11 : PySem.W.nsIn K mainGlobals "_law_between" = some (some (.ref f11))) (l11 : K.lookup f11 = some ⟨oc11, od11, .func (PySem.W.fnOf "_law_between" "_law_between" (defArgs s_law_between) (defBody s_law_between) (defScope s_law_between) .none kV11 dc11 pm11 an11 cd11 ct11), sl11⟩) (c11 : PySem.W.codeIn K cd11 "_law_between" = true) (k11 : PySem.W.keepIn K (.ref f11) = true)
    {f12 : Addr} {od12 an12 : Option Addr} {sl12 : Array (Option Value)} {oc12 kV12 dc12 pm12 cd12 ct12 : Value}
    (a12 : PySem.W.nsIn K mainGlobals "number_of" = some (some (.ref f12))) (l12 : K.lookup f12 = some ⟨oc12, od12, .func (PySem.W.fnOf "number_of" "number_of" (defArgs s_number_of) (defBody s_number_of) (defScope s_number_of) .none kV12 dc12 pm12 an12 cd12 ct12), sl12⟩) (c12 : PySem.W.codeIn K cd12 "number_of" = true) (k12 : PySem.W.keepIn K (.ref f12) = true)
    {f13 : Addr} {od13 an13 : Option Addr} {sl13 : Array (Option Value)} {oc13 kV13 dc13 pm13 cd13 ct13 : Value}
    (a13 : PySem.W.nsIn K mainGlobals "law" = some (some (.ref f13))) (l13 : K.lookup f13 = some ⟨oc13, od13, .func (PySem.W.fnOf "law" "law" (defArgs s_law) (defBody s_law) (defScope s_law) .none kV13 dc13 pm13 an13 cd13 ct13), sl13⟩) (c13 : PySem.W.codeIn K cd13 "law" = true) (k13 : PySem.W.keepIn K (.ref f13) = true)
    (z_all : PySem.W.nsIn K mainGlobals "all" = some none)
    (z_bool : PySem.W.nsIn K mainGlobals "bool" = some none)
    (z_enumerate : PySem.W.nsIn K mainGlobals "enumerate" = some none)
    (z_int : PySem.W.nsIn K mainGlobals "int" = some none)
    (z_isinstance : PySem.W.nsIn K mainGlobals "isinstance" = some none)
    (z_len : PySem.W.nsIn K mainGlobals "len" = some none)
    (z_list : PySem.W.nsIn K mainGlobals "list" = some none)
    (z_range : PySem.W.nsIn K mainGlobals "range" = some none)
    (z_sorted : PySem.W.nsIn K mainGlobals "sorted" = some none)
    (z_sum : PySem.W.nsIn K mainGlobals "sum" = some none)
    (z_tuple : PySem.W.nsIn K mainGlobals "tuple" = some none)
    : ∃ fd : FuncData, (∀ (s : Shared) (v : Value), BindsTo s fd ⟨[v], []⟩ [("_law_script", v)]) ∧ ∀ base : Heap, K.In base → base.Ns mainGlobals mg → FnOk l.prog w K mg base (L2.CX l.prog w) 6 fa fd ["_law_script"] (spF K (fun _ => 0) 1 m_law) := by
  have e := hfa.symm.trans (PySem.W.mg_of X G a13)
  cases e
  have F0 := fun_mk (st := s_law_feed) l0 c0 k0
  have b0 := F0.binds (ps := ["_law_script"]) fun _ _ _ _ _ _ us hl => match us, hl with | [_], _ => rfl
  have F1 := fun_mk (st := s_law_draw) l1 c1 k1
  have b1 := F1.binds (ps := ["_law_feed_here", "_law_many"]) fun _ _ _ _ _ _ us hl => match us, hl with | [_, _], _ => rfl
  have F2 := fun_mk (st := s_law_two) l2 c2 k2
  have b2 := F2.binds (ps := ["_law_feed_here"]) fun _ _ _ _ _ _ us hl => match us, hl with | [_], _ => rfl
  have F3 := fun_mk (st := s_law_crossings) l3 c3 k3
  have b3 := F3.binds (ps := ["_law_web_here", "_law_high", "_law_low"]) fun _ _ _ _ _ _ us hl => match us, hl with | [_, _, _], _ => rfl
  have F4 := fun_mk (st := s_law_row) l4 c4 k4
  have b4 := F4.binds (ps := ["_law_feed_here", "_law_many"]) fun _ _ _ _ _ _ us hl => match us, hl with | [_, _], _ => rfl
  have F5 := fun_mk (st := s_law_alike) l5 c5 k5
  have b5 := F5.binds (ps := ["_law_found", "_law_due"]) fun _ _ _ _ _ _ us hl => match us, hl with | [_, _], _ => rfl
  have F6 := fun_mk (st := s_is_whole) l6 c6 k6
  have b6 := F6.binds (ps := ["thing"]) fun _ _ _ _ _ _ us hl => match us, hl with | [_], _ => rfl
  have F7 := fun_mk (st := s_is_order) l7 c7 k7
  have b7 := F7.binds (ps := ["thing", "many"]) fun _ _ _ _ _ _ us hl => match us, hl with | [_, _], _ => rfl
  have F8 := fun_mk (st := s_upper_looked_at) l8 c8 k8
  have b8 := F8.binds (ps := ["web", "upper"]) fun _ _ _ _ _ _ us hl => match us, hl with | [_, _], _ => rfl
  have F9 := fun_mk (st := s_both_looked_at) l9 c9 k9
  have b9 := F9.binds (ps := ["web", "upper", "lower"]) fun _ _ _ _ _ _ us hl => match us, hl with | [_, _, _], _ => rfl
  have F10 := fun_mk (st := s_crossed) l10 c10 k10
  have b10 := F10.binds (ps := ["web", "upper", "lower"]) fun _ _ _ _ _ _ us hl => match us, hl with | [_, _, _], _ => rfl
  have F11 := fun_mk (st := s_law_between) l11 c11 k11
  have b11 := F11.binds (ps := ["_law_web_here", "_law_high", "_law_b", "_law_d"]) fun _ _ _ _ _ _ us hl => match us, hl with | [_, _, _, _], _ => rfl
  have F12 := fun_mk (st := s_number_of) l12 c12 k12
  have b12 := F12.binds (ps := ["web", "upper", "b", "d"]) fun _ _ _ _ _ _ us hl => match us, hl with | [_, _, _, _], _ => rfl
  have F13 := fun_mk (st := s_law) l13 c13 k13
  have b13 := F13.binds (ps := ["_law_script"]) fun _ _ _ _ _ _ us hl => match us, hl with | [_], _ => rfl
  exact ⟨_, fun s v => .of_eq rfl, fun base _ _ => ok_law (base := base) { cA := fun _ => 0, n_all := PySem.W.mg_none_of X G z_all, n_bool := PySem.W.mg_none_of X G z_bool, n_enumerate := PySem.W.mg_none_of X G z_enumerate, n_int := PySem.W.mg_none_of X G z_int, n_isinstance := PySem.W.mg_none_of X G z_isinstance, n_len := PySem.W.mg_none_of X G z_len, n_list := PySem.W.mg_none_of X G z_list, n_range := PySem.W.mg_none_of X G z_range, n_sorted := PySem.W.mg_none_of X G z_sorted, n_sum := PySem.W.mg_none_of X G z_sum, n_tuple := PySem.W.mg_none_of X G z_tuple, a_law_feed := f0, fd_law_feed := _, F_law_feed := F0, g_law_feed := PySem.W.mg_of X G a0, b_law_feed := b0, a_law_draw := f1, fd_law_draw := _, F_law_draw := F1, g_law_draw := PySem.W.mg_of X G a1, b_law_draw := b1, a_law_two := f2, fd_law_two := _, F_law_two := F2, g_law_two := PySem.W.mg_of X G a2, b_law_two := b2, a_law_crossings := f3, fd_law_crossings := _, F_law_crossings := F3, g_law_crossings := PySem.W.mg_of X G a3, b_law_crossings := b3, a_law_row := f4, fd_law_row := _, F_law_row := F4, g_law_row := PySem.W.mg_of X G a4, b_law_row := b4, a_law_alike := f5, fd_law_alike := _, F_law_alike := F5, g_law_alike := PySem.W.mg_of X G a5, b_law_alike := b5, a_is_whole := f6, fd_is_whole := _, F_is_whole := F6, g_is_whole := PySem.W.mg_of X G a6, b_is_whole := b6, a_is_order := f7, fd_is_order := _, F_is_order := F7, g_is_order := PySem.W.mg_of X G a7, b_is_order := b7, a_upper_looked_at := f8, fd_upper_looked_at := _, F_upper_looked_at := F8, g_upper_looked_at := PySem.W.mg_of X G a8, b_upper_looked_at := b8, a_both_looked_at := f9, fd_both_looked_at := _, F_both_looked_at := F9, g_both_looked_at := PySem.W.mg_of X G a9, b_both_looked_at := b9, a_crossed := f10, fd_crossed := _, F_crossed := F10, g_crossed := PySem.W.mg_of X G a10, b_crossed := b10, a_law_between := f11, fd_law_between := _, F_law_between := F11, g_law_between := PySem.W.mg_of X G a11, b_law_between := b11, a_number_of := f12, fd_number_of := _, F_number_of := F12, g_number_of := PySem.W.mg_of X G a12, b_number_of := b12, a_law := fa, fd_law := _, F_law := F13, g_law := PySem.W.mg_of X G a13, b_law := b13 }⟩
end Law
open PySem PySem.W PyProof.Rows
set_option maxRecDepth 100000 in
set_option maxHeartbeats 0 in
theorem PySem.Challenge.cw_leastcross_k78_crossings_by_orders_holds : PySem.Challenge.rw_leastcross_k78_crossings_by_orders.Holds := by
  w_on; o_law; k_head; (case hw => w_witness2)
  k_fill
  refine L2.walk_of (l := PySem.Challenge.rw_leastcross_k78_crossings_by_orders) (n := 63) (k := 6) (x := "_law_script") (CX := fun w => L2.CX PySem.Challenge.rw_leastcross_k78_crossings_by_orders.prog w) (sp := fun w => Rf.spF _ (fun _ => 0) 1 Law.m_law) rfl (by decide) rfl ⟨rfl, by decide, by decide⟩ (fun w h Y => PySem.W.kIn_of Y) ?F (fun _ _ _ _ hl hO hS => Law.sp_law hO hS) (fun _ _ _ _ _ h => Rf.no_cx h)
  case F =>
    intro w mg fa h KX G hmg
    refine' Law.all_mk KX G hmg ?a0 ?l0 ?c0 ?k0 ?a1 ?l1 ?c1 ?k1 ?a2 ?l2 ?c2 ?k2 ?a3 ?l3 ?c3 ?k3 ?a4 ?l4 ?c4 ?k4 ?a5 ?l5 ?c5 ?k5 ?a6 ?l6 ?c6 ?k6 ?a7 ?l7 ?c7 ?k7 ?a8 ?l8 ?c8 ?k8 ?a9 ?l9 ?c9 ?k9 ?a10 ?l10 ?c10 ?k10 ?a11 ?l11 ?c11 ?k11 ?a12 ?l12 ?c12 ?k12 ?a13 ?l13 ?c13 ?k13 ?z_all ?z_bool ?z_enumerate ?z_int ?z_isinstance ?z_len ?z_list ?z_range ?z_sorted ?z_sum ?z_tuple
    (case a0 => k_is); (case l0 => k_is); (case c0 => k_is); (case k0 => k_is); (case a1 => k_is); (case l1 => k_is); (case c1 => k_is); (case k1 => k_is); (case a2 => k_is); (case l2 => k_is); (case c2 => k_is); (case k2 => k_is); (case a3 => k_is); (case l3 => k_is); (case c3 => k_is); (case k3 => k_is); (case a4 => k_is); (case l4 => k_is); (case c4 => k_is); (case k4 => k_is); (case a5 => k_is); (case l5 => k_is); (case c5 => k_is); (case k5 => k_is); (case a6 => k_is); (case l6 => k_is); (case c6 => k_is); (case k6 => k_is); (case a7 => k_is); (case l7 => k_is); (case c7 => k_is); (case k7 => k_is); (case a8 => k_is); (case l8 => k_is); (case c8 => k_is); (case k8 => k_is); (case a9 => k_is); (case l9 => k_is); (case c9 => k_is); (case k9 => k_is); (case a10 => k_is); (case l10 => k_is); (case c10 => k_is); (case k10 => k_is); (case a11 => k_is); (case l11 => k_is); (case c11 => k_is); (case k11 => k_is); (case a12 => k_is); (case l12 => k_is); (case c12 => k_is); (case k12 => k_is); (case a13 => k_is); (case l13 => k_is); (case c13 => k_is); (case k13 => k_is); (case z_all => k_is); (case z_bool => k_is); (case z_enumerate => k_is); (case z_int => k_is); (case z_isinstance => k_is); (case z_len => k_is); (case z_list => k_is); (case z_range => k_is); (case z_sorted => k_is); (case z_sum => k_is); (case z_tuple => k_is)
