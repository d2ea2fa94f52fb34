import PyProof.Rows.All
import Wide.All
import OpenK.AllK
import Wide.FinOn
import HandS.ForMost
import HandS.ForExc
import HandS.TupAny
import HandS.Deep
import HandS.IsInst
import HandS.TupSets
import HandS.Walk
import HandS.Zip
import KE.KDictKeyed
import HandS.Wide
import KE.GoesMore
import KE.SortData
import KE.DataMinMax
import HandS.Style
import HandS.Conv
import HandS.Strs
import HandS.TupMul
import PyProof.ReprRoads
import PyProof.ReprLen
import HandS.ExcValue
import HandS.ExcIs
import PyProof.ExcBaseAll.ValueError
import KE.KDictSum
import KE.KDictCopyH
import HandS.TryOnly
import HandS.TupLe
import KE.DataFind
import KE.KTupSum
import KE.KAssignIn
import KE.KDictZip
import HandS.TupLen
import KE.KDictList
import KE.KDictWalk
import KE.KDictPairs
import KE.DataMinKey
import HandS.SortKw
import HandS.SetFor
import HandS.Codes
import HandS.Text
import HandS.SetKeys
import HandS.HotCalls
import PySem.Challenge.RW_leastcross_k97_each_refusal_alone
set_option Elab.async false
set_option linter.all false
set_option maxRecDepth 100000
set_option synthInstance.maxSize 2000
set_option maxHeartbeats 4000000
namespace Rf
open PySem PySem.Spec PyProof.Rows L2

inductive D where
  | non | bl (b : Bool) | int (i : Int) | str (x : Str) | ty (n : String)
  | tup (ds : List D) | lst (ds : List D) | fz (ds : List D) | cell (n : Nat) | exc (x : Str) | cl (x : Str) | dct (k : Nat) (ks ds : List D)
inductive Ob where
  | lst (ds : List D)
  | dK (kvs : List (D × D))
  | dI (kvs : List (Int × D))
  | ins (x : Str) (fs : List (Str × D))
  | dS (fs : List (Str × D))
  | gone
abbrev Store := List Ob
abbrev En := List (Option D)

mutual
def pureD : D → Bool
  | .tup ds => pureL ds
  | .lst ds => pureL ds
  | .fz ds => pureL ds
  | .cell _ => false
  | .dct _ ks ds => pureL ks && pureL ds
  | .non | .bl _ | .int _ | .str _ | .ty _ | .exc _ | .cl _ => true
def pureL : List D → Bool
  | [] => true
  | d :: ds => pureD d && pureL ds
end
mutual
def below (n : Nat) : D → Prop
  | .tup ds => belowL n ds
  | .lst ds => belowL n ds
  | .fz ds => belowL n ds
  | .cell k => k < n
  | .dct _ ks ds => belowL n ks ∧ belowL n ds
  | .non | .bl _ | .int _ | .str _ | .ty _ | .exc _ | .cl _ => True
def belowL (n : Nat) : List D → Prop
  | [] => True
  | d :: ds => below n d ∧ belowL n ds
end
def Ob.pure : Ob → Bool
  | .lst ds => pureL ds
  | .dK kvs => kvs.all fun p => pureD p.2
  | .dI kvs => kvs.all fun p => pureD p.2
  | .ins _ fs => fs.all fun p => pureD p.2
  | .dS fs => fs.all fun p => pureD p.2
  | .gone => true

inductive Res (α : Type) where
  | ok (a : α) (S : Store)
  | err (c : Nat) (S : Store)
  | bad
inductive RS where
  | next (e : En) (S : Store)
  | ret (d : D) (S : Store)
  | brk (e : En) (S : Store)
  | cont (e : En) (S : Store)
  | err (c : Nat) (e : En) (S : Store)
  | bad
abbrev M (α : Type) := En → Store → Res α
abbrev MS := En → Store → RS

def WrL (K : PySem.W.Frag) (a : Addr) (xs : List V) : Prop :=
  ∃ (o : Obj) (its : Array Value) (n : Nat), K.lookup a = some o ∧ o.cls = .type "list" ∧ o.dict = none ∧ o.data = .seq its n ∧ its.size ≤ sizeLine ∧ Vals xs its.toList
def FrL (G : Addr → Prop) (ρ : List Addr) (H : Hp) (a : Addr) (vs : List V) : Prop := a ∉ ρ ∧ ¬ G a ∧ H a = some (.lst vs)
def FzL (K : PySem.W.Frag) (H : Hp) (a : Addr) (vs : List V) : Prop := (∃ o, H a = some (.frz o (.lst vs))) ∨ WrL K a vs
theorem FrL.sq {K : PySem.W.Frag} {G : Addr → Prop} {ρ : List Addr} {H : Hp} {a : Addr} {vs : List V} (h : FrL G ρ H a vs) : SqL K H a vs := .inl (.inl h.2.2)
theorem FzL.sq {K : PySem.W.Frag} {H : Hp} {a : Addr} {vs : List V} (h : FzL K H a vs) : SqL K H a vs := by
  rcases h with h | h
  · exact .inl (.inr h)
  · exact .inr h
def ExAt (H : Hp) (a C : Addr) : Prop := ∃ (oe : Obj) (φ : Heap → Prop), H a = some (.frz oe (.ext φ)) ∧ Zc (.ref C) none oe ∧ ∃ vs, oe.data = .fields vs
@[irreducible] def ExV (K : PySem.W.Frag) (H : Hp) (x : Str) (v : V) : Prop := ∃ a C, v = .ref a ∧ PySem.W.nsIn K mainGlobals x = some (some (.ref C)) ∧ ExAt H a C
theorem ExV.mk {K : PySem.W.Frag} {H : Hp} {x : Str} {a C : Addr} (h1 : PySem.W.nsIn K mainGlobals x = some (some (.ref C))) (h2 : ExAt H a C) : ExV K H x (.ref a) := by unfold ExV; exact ⟨a, C, rfl, h1, h2⟩
theorem ExV.ex {K : PySem.W.Frag} {H : Hp} {x : Str} {v : V} (h : ExV K H x v) : ∃ a C, v = .ref a ∧ PySem.W.nsIn K mainGlobals x = some (some (.ref C)) ∧ ExAt H a C := by unfold ExV at h; exact h
theorem ExV.keep {K : PySem.W.Frag} {H H' : Hp} {x : Str} {v : V} (k : ∀ a o u, H a = some (.frz o u) → H' a = some (.frz o u)) (h : ExV K H x v) : ExV K H' x v := by
  obtain ⟨a, C, rfl, h1, oe, φ, h2, h3⟩ := h.ex
  exact .mk h1 ⟨oe, φ, k a oe _ h2, h3⟩
@[irreducible] def ClV (K : PySem.W.Frag) (x : Str) (v : V) : Prop := ∃ C, v = .ref C ∧ PySem.W.nsIn K mainGlobals x = some (some (.ref C))
theorem ClV.mk {K : PySem.W.Frag} {x : Str} {C : Addr} (h : PySem.W.nsIn K mainGlobals x = some (some (.ref C))) : ClV K x (.ref C) := by unfold ClV; exact ⟨C, rfl, h⟩
theorem ClV.ex {K : PySem.W.Frag} {x : Str} {v : V} (h : ClV K x v) : ∃ C, v = .ref C ∧ PySem.W.nsIn K mainGlobals x = some (some (.ref C)) := by unfold ClV at h; exact h
mutual
def tupI : D → Bool
  | .int _ => true
  | .tup ds => tupIL ds
  | _ => false
def tupIL : List D → Bool
  | [] => true
  | d :: ds => tupI d && tupIL ds
end
mutual
def keyN : D → NestedKey
  | .int i => .num i
  | .tup ds => .tup (keyNL ds)
  | _ => .none
def keyNL : List D → List NestedKey
  | [] => []
  | d :: ds => keyN d :: keyNL ds
end
abbrev DV := (NestedKey × Addr) × V
def dvR (p : DV) (x : NestedKey × Addr × Value) : Prop := p.1.1 = x.1 ∧ p.1.2 = x.2.1 ∧ RelV p.2 x.2.2
def dkP (a : Addr) (vs : List DV) (h : Heap) : Prop := ∃ xs : List (NestedKey × Addr × Value), Paired dvR vs xs ∧ (xs.map (·.1)).Nodup ∧ (a == sysModules) = false ∧ xs.length ≤ sizeLine ∧ ∃ o es ep, h.get? a = some o ∧ o.ExactDict ∧ o.data = .dict es ep ∧ ∀ w' : World, es.toList = xs.map fun x => (⟨x.1.hash w', .ref x.2.1, x.2.2⟩ : DictEntry)
def dkO (a : Addr) (vs : List DV) : HO := .ext (dkP a vs)
def kvT : List D → List V → List V → List DV
  | k :: ks, .ref b :: bs, v :: vs => ((keyN k, b), v) :: kvT ks bs vs
  | _, _, _ => []
def kvX : List D → List V → List (Key × V)
  | .int i :: ks, v :: vs => (.inl i, v) :: kvX ks vs
  | .str x :: ks, v :: vs => (.inr x, v) :: kvX ks vs
  | _, _ => []
def isIntD : D → Bool
  | .int _ => true
  | _ => false
def isStrD : D → Bool
  | .str _ => true
  | _ => false
def isTupD : D → Bool
  | .tup _ => true
  | _ => false
def DcO (a : Addr) (k : Nat) (ks : List D) (bs vs : List V) (u : HO) : Prop := match k with
  | 0 => ks.all isStrD = true ∧ u = .dK (kvX ks vs)
  | 1 => ks.all isIntD = true ∧ u = .dK (kvX ks vs)
  | _ => (tupIL ks = true ∧ ks.all isTupD = true) ∧ u = dkO a (kvT ks bs vs)
mutual
def Rep (K : PySem.W.Frag) (G : Addr → Prop) (ρ : List Addr) (H : Hp) : D → V → Prop
  | .non, v => v = .non
  | .bl b, v => v = .bl b
  | .int i, v => v = .int i
  | .str x, v => v = .str x
  | .ty n, v => v = .ty n
  | .tup ds, v => ∃ a vs, v = .ref a ∧ Rd H a (.tup vs) ∧ RepL K G ρ H ds vs
  | .lst ds, v => ∃ a vs, v = .ref a ∧ FrL G ρ H a vs ∧ RepL K G ρ H ds vs
  | .fz ds, v => ∃ a vs, v = .ref a ∧ FzL K H a vs ∧ RepL K G ρ H ds vs
  | .cell n, v => ∃ a, v = .ref a ∧ ρ[n]? = some a
  | .exc x, v => ExV K H x v
  | .cl x, v => ClV K x v
  | .dct k ks ds, v => ∃ a o u bs vs, v = .ref a ∧ H a = some (.frz o u) ∧ DcO a k ks bs vs u ∧ RepL K G ρ H ks bs ∧ RepL K G ρ H ds vs
def RepL (K : PySem.W.Frag) (G : Addr → Prop) (ρ : List Addr) (H : Hp) : List D → List V → Prop
  | [], vs => vs = []
  | d :: ds, vs => ∃ v vs', vs = v :: vs' ∧ Rep K G ρ H d v ∧ RepL K G ρ H ds vs'
end

structure Keep (G : Addr → Prop) (ρ : List Addr) (H : Hp) (ρ' : List Addr) (H' : Hp) : Prop where
  pre : ∃ t, ρ' = ρ ++ t
  tup : ∀ a xs, Rd H a (.tup xs) → Rd H' a (.tup xs)
  lst : ∀ a xs, a ∉ ρ → ¬ G a → H a = some (.lst xs) → a ∉ ρ' ∧ H' a = some (.lst xs)
  frz : ∀ a o u, H a = some (.frz o u) → H' a = some (.frz o u)
  grd : ∀ a, G a → H' a = H a
section
variable {K : PySem.W.Frag} {G : Addr → Prop} {ρ ρ' ρ'' : List Addr} {H H' H'' : Hp}
theorem Keep.refl : Keep G ρ H ρ H := ⟨⟨[], by simp⟩, fun _ _ h => h, fun _ _ h _ r => ⟨h, r⟩, fun _ _ _ h => h, fun _ _ => rfl⟩
theorem Keep.trans (a : Keep G ρ H ρ' H') (b : Keep G ρ' H' ρ'' H'') : Keep G ρ H ρ'' H'' := by
  obtain ⟨t, e⟩ := a.pre
  obtain ⟨u, e'⟩ := b.pre
  refine ⟨⟨t ++ u, by rw [e', e, List.append_assoc]⟩, fun x xs h => b.tup x xs (a.tup x xs h), fun x xs h g r => ?_, fun x o u h => b.frz x o u (a.frz x o u h), fun x h => (b.grd x h).trans (a.grd x h)⟩
  obtain ⟨h1, r1⟩ := a.lst x xs h g r
  exact b.lst x xs h1 g r1
theorem Keep.sqT (k : Keep G ρ H ρ' H') {a : Addr} {xs : List V} (h : SqT K H a xs) : SqT K H' a xs := by
  rcases h with h | h
  · exact .inl (k.tup a xs h)
  · exact .inr h
theorem Keep.frL (k : Keep G ρ H ρ' H') {a : Addr} {xs : List V} (h : FrL G ρ H a xs) : FrL G ρ' H' a xs :=
  let ⟨q1, q2⟩ := k.lst a xs h.1 h.2.1 h.2.2
  ⟨q1, h.2.1, q2⟩
theorem Keep.fzL (k : Keep G ρ H ρ' H') {a : Addr} {xs : List V} (h : FzL K H a xs) : FzL K H' a xs := by
  rcases h with ⟨o, h⟩ | h
  · exact .inl ⟨o, k.frz a o _ h⟩
  · exact .inr h
theorem Keep.get (k : Keep G ρ H ρ' H') {n : Nat} {a : Addr} (h : ρ[n]? = some a) : ρ'[n]? = some a := by
  obtain ⟨t, rfl⟩ := k.pre
  have hn : n < ρ.length := (List.getElem?_eq_some_iff.mp h).1
  rw [List.getElem?_append_left hn]
  exact h
mutual
theorem Rep.keep (k : Keep G ρ H ρ' H') : ∀ (d : D) (v : V), Rep K G ρ H d v → Rep K G ρ' H' d v
  | .non, _, h => h
  | .bl _, _, h => h
  | .int _, _, h => h
  | .str _, _, h => h
  | .ty _, _, h => h
  | .tup ds, v, h => by
    obtain ⟨a, vs, e, h1, h2⟩ := h
    exact ⟨a, vs, e, k.tup a vs h1, RepL.keep k ds vs h2⟩
  | .lst ds, v, h => by
    obtain ⟨a, vs, e, h1, h2⟩ := h
    exact ⟨a, vs, e, k.frL h1, RepL.keep k ds vs h2⟩
  | .fz ds, v, h => by
    obtain ⟨a, vs, e, h1, h2⟩ := h
    exact ⟨a, vs, e, k.fzL h1, RepL.keep k ds vs h2⟩
  | .cell n, v, h => by
    obtain ⟨a, e, h1⟩ := h
    exact ⟨a, e, k.get h1⟩
  | .exc _, _, h => ExV.keep k.frz h
  | .cl _, _, h => h
  | .dct _ ks ds, v, h => by
    obtain ⟨a, o, u, bs, vs, e, h1, h2, h3, h4⟩ := h
    exact ⟨a, o, u, bs, vs, e, k.frz a o u h1, h2, RepL.keep k ks bs h3, RepL.keep k ds vs h4⟩
theorem RepL.keep (k : Keep G ρ H ρ' H') : ∀ (ds : List D) (vs : List V), RepL K G ρ H ds vs → RepL K G ρ' H' ds vs
  | [], _, h => h
  | d :: ds, vs, h => by
    obtain ⟨v, vs', e, h1, h2⟩ := h
    exact ⟨v, vs', e, Rep.keep k d v h1, RepL.keep k ds vs' h2⟩
end
theorem RepL.length : ∀ {ds : List D} {vs : List V}, RepL K G ρ H ds vs → vs.length = ds.length
  | [], _, h => by rw [show _ = [] from h]; rfl
  | d :: ds, vs, h => by
    obtain ⟨v, vs', rfl, h1, h2⟩ := h
    show vs'.length + 1 = ds.length + 1
    rw [RepL.length h2]
theorem RepL.get : ∀ {ds : List D} {vs : List V} {i : Nat} {d : D}, RepL K G ρ H ds vs → ds[i]? = some d → ∃ v, vs[i]? = some v ∧ Rep K G ρ H d v
  | [], _, i, d, _, e => by simp at e
  | d0 :: ds, vs, 0, d, h, e => by
    obtain ⟨v, vs', rfl, h1, h2⟩ := h
    simp at e
    subst e
    exact ⟨v, rfl, h1⟩
  | d0 :: ds, vs, i + 1, d, h, e => by
    obtain ⟨v, vs', rfl, h1, h2⟩ := h
    obtain ⟨w, h3, h4⟩ := RepL.get (i := i) (d := d) h2 (by simpa using e)
    exact ⟨w, by simpa using h3, h4⟩
theorem RepL.app : ∀ {ds es : List D} {vs ws : List V}, RepL K G ρ H ds vs → RepL K G ρ H es ws → RepL K G ρ H (ds ++ es) (vs ++ ws)
  | [], es, vs, ws, h, h' => by rw [show vs = [] from h]; exact h'
  | d :: ds, es, vs, ws, h, h' => by
    obtain ⟨v, vs', rfl, h1, h2⟩ := h
    exact ⟨v, vs' ++ ws, rfl, h1, RepL.app h2 h'⟩
theorem RepL.snoc {ds : List D} {vs : List V} {d : D} {v : V} (h : RepL K G ρ H ds vs) (h1 : Rep K G ρ H d v) : RepL K G ρ H (ds ++ [d]) (vs ++ [v]) :=
  RepL.app h ⟨v, [], rfl, h1, rfl⟩
theorem RepL.take : ∀ (n : Nat) {ds : List D} {vs : List V}, RepL K G ρ H ds vs → RepL K G ρ H (ds.take n) (vs.take n)
  | 0, ds, vs, h => by simp [RepL]
  | n + 1, [], vs, h => by rw [show vs = [] from h]; simp [RepL]
  | n + 1, d :: ds, vs, h => by
    obtain ⟨v, vs', rfl, h1, h2⟩ := h
    exact ⟨v, vs'.take n, rfl, h1, RepL.take n h2⟩
theorem RepL.drop : ∀ (n : Nat) {ds : List D} {vs : List V}, RepL K G ρ H ds vs → RepL K G ρ H (ds.drop n) (vs.drop n)
  | 0, ds, vs, h => h
  | n + 1, [], vs, h => by rw [show vs = [] from h]; simp [RepL]
  | n + 1, d :: ds, vs, h => by
    obtain ⟨v, vs', rfl, h1, h2⟩ := h
    exact RepL.drop n h2
theorem RepL.set : ∀ (n : Nat) {ds : List D} {vs : List V} {d : D} {v : V}, RepL K G ρ H ds vs → Rep K G ρ H d v → RepL K G ρ H (ds.set n d) (vs.set n v)
  | _, [], vs, _, _, h, _ => by rw [show vs = [] from h]; simp [RepL]
  | 0, d0 :: ds, vs, d, v, h, h0 => by
    obtain ⟨w, vs', rfl, h1, h2⟩ := h
    exact ⟨v, vs', rfl, h0, h2⟩
  | n + 1, d0 :: ds, vs, d, v, h, h0 => by
    obtain ⟨w, vs', rfl, h1, h2⟩ := h
    exact ⟨w, vs'.set n v, rfl, h1, RepL.set n h2 h0⟩
def RepKV (K : PySem.W.Frag) (G : Addr → Prop) (ρ : List Addr) (H : Hp) : List (D × D) → List DV → Prop
  | [], vs => vs = []
  | (k, d) :: r, vs => ∃ b v vs', vs = ((keyN k, b), v) :: vs' ∧ tupI k = true ∧ Rep K G ρ H k (.ref b) ∧ Rep K G ρ H d v ∧ RepKV K G ρ H r vs'
def RepKI (K : PySem.W.Frag) (G : Addr → Prop) (ρ : List Addr) (H : Hp) : List (Int × D) → List (Key × V) → Prop
  | [], vs => vs = []
  | (k, d) :: r, vs => ∃ v vs', vs = (.inl k, v) :: vs' ∧ Rep K G ρ H d v ∧ RepKI K G ρ H r vs'
def RepF (K : PySem.W.Frag) (G : Addr → Prop) (ρ : List Addr) (H : Hp) : List (Str × D) → List (Str × V) → Prop
  | [], vs => vs = []
  | (k, d) :: r, vs => ∃ v vs', vs = (k, v) :: vs' ∧ Rep K G ρ H d v ∧ RepF K G ρ H r vs'
def ObRep (K : PySem.W.Frag) (G : Addr → Prop) (ρ : List Addr) (H : Hp) : Ob → Addr → Prop
  | .lst ds, a => ∃ vs, H a = some (.lst vs) ∧ RepL K G ρ H ds vs
  | .dK kvs, a => ∃ vs, H a = some (dkO a vs) ∧ RepKV K G ρ H kvs vs
  | .dI kvs, a => ∃ vs, H a = some (.dK vs) ∧ RepKI K G ρ H kvs vs
  | .ins x fs, a => ∃ vs, (∃ C dx, H a = some (.ins C dx vs) ∧ PySem.W.nsIn K mainGlobals x = some (some (.ref C))) ∧ RepF K G ρ H fs vs
  | .dS fs, a => ∃ vs, H a = some (.dK (vs.map fun p => (.inr p.1, p.2))) ∧ RepF K G ρ H fs vs
  | .gone, a => ∃ u, H a = some u
theorem RepF.keep (k : Keep G ρ H ρ' H') : ∀ (ds : List (Str × D)) (vs : List (Str × V)), RepF K G ρ H ds vs → RepF K G ρ' H' ds vs
  | [], _, h => h
  | (x, d) :: ds, vs, h => by
    obtain ⟨v, vs', e, h1, h2⟩ := h
    exact ⟨v, vs', e, Rep.keep k d v h1, RepF.keep k ds vs' h2⟩
theorem RepKI.keep (k : Keep G ρ H ρ' H') : ∀ (ds : List (Int × D)) (vs : List (Key × V)), RepKI K G ρ H ds vs → RepKI K G ρ' H' ds vs
  | [], _, h => h
  | (x, d) :: ds, vs, h => by
    obtain ⟨v, vs', e, h1, h2⟩ := h
    exact ⟨v, vs', e, Rep.keep k d v h1, RepKI.keep k ds vs' h2⟩
theorem RepKV.keep (k : Keep G ρ H ρ' H') : ∀ (ds : List (D × D)) (vs : List DV), RepKV K G ρ H ds vs → RepKV K G ρ' H' ds vs
  | [], _, h => h
  | (x, d) :: ds, vs, h => by
    obtain ⟨b, v, vs', e, h0, h3, h1, h2⟩ := h
    exact ⟨b, v, vs', e, h0, Rep.keep k x _ h3, Rep.keep k d v h1, RepKV.keep k ds vs' h2⟩
def okO : HO → Prop
  | .tup _ => False
  | .frz o (.tup _) => o.dict = none
  | _ => True
structure RelS (K : PySem.W.Frag) (G : Addr → Prop) (ρ : List Addr) (S : Store) (H : Hp) : Prop where
  len : ρ.length = S.length
  nd : ρ.Nodup
  ng : ∀ a ∈ ρ, ¬ G a
  gt : ∀ a, G a → ∃ u, H a = some u
  tp : ∀ a o, H a = some o → okO o
  ob : ∀ (i : Nat) (o : Ob) (a : Addr), S[i]? = some o → ρ[i]? = some a → ObRep K G ρ H o a
theorem RelS.at (r : RelS K G ρ S H) {i : Nat} {o : Ob} (h : S[i]? = some o) : ∃ a, ρ[i]? = some a ∧ ObRep K G ρ H o a := by
  have hi : i < ρ.length := by rw [r.len]; exact (List.getElem?_eq_some_iff.mp h).1
  exact ⟨ρ[i], by rw [List.getElem?_eq_getElem hi], r.ob i o _ h (by rw [List.getElem?_eq_getElem hi])⟩
theorem Keep.new {p : Addr} {o : HO} (hn : H p = none) (hg : ∀ a, G a → ∃ u, H a = some u) : Keep G ρ H ρ (upd H p o) := by
  refine ⟨⟨[], by simp⟩, fun a xs h => ?_, fun a xs h1 h2 h => ⟨h1, by rw [upd_ne (ne_of_none h hn)]; exact h⟩, fun a o u h => by rw [upd_ne (ne_of_none h hn)]; exact h, fun a h => ?_⟩
  · rcases h with h | ⟨ob, h⟩
    · exact .inl (by rw [upd_ne (ne_of_none h hn)]; exact h)
    · exact .inr ⟨ob, by rw [upd_ne (ne_of_none h hn)]; exact h⟩
  · obtain ⟨u, e⟩ := hg a h
    rw [upd_ne (ne_of_none e hn)]
theorem okU {p : Addr} {u : HO} (hp : ∀ a o, H a = some o → okO o) (hu : okO u) : ∀ a o, upd H p u a = some o → okO o := fun a o h => by
  by_cases e : a = p
  · subst e; rw [upd_same] at h; cases h; exact hu
  · rw [upd_ne e] at h; exact hp a o h
theorem RelS.keep_at (r : RelS K G ρ S H) (k : Keep G ρ H ρ H') (same : ∀ a ∈ ρ, H' a = H a) (tp : ∀ a o, H' a = some o → okO o) : RelS K G ρ S H' := by
  refine ⟨r.len, r.nd, r.ng, fun a h => by rw [k.grd a h]; exact r.gt a h, tp, fun i o a h1 h2 => ?_⟩
  have := r.ob i o a h1 h2
  cases o with
  | lst ds =>
    obtain ⟨vs, e, h⟩ := this
    exact ⟨vs, by rw [same a (List.mem_of_getElem? h2)]; exact e, RepL.keep k ds vs h⟩
  | dK kvs =>
    obtain ⟨vs, e, h⟩ := this
    exact ⟨vs, by rw [same a (List.mem_of_getElem? h2)]; exact e, RepKV.keep k kvs vs h⟩
  | dI kvs =>
    obtain ⟨vs, e, h⟩ := this
    exact ⟨vs, by rw [same a (List.mem_of_getElem? h2)]; exact e, RepKI.keep k kvs vs h⟩
  | ins x fs =>
    obtain ⟨vs, ⟨C, dx, e, hC⟩, h⟩ := this
    exact ⟨vs, ⟨C, dx, by rw [same a (List.mem_of_getElem? h2)]; exact e, hC⟩, RepF.keep k fs vs h⟩
  | dS fs =>
    obtain ⟨vs, e, h⟩ := this
    exact ⟨vs, by rw [same a (List.mem_of_getElem? h2)]; exact e, RepF.keep k fs vs h⟩
  | gone =>
    obtain ⟨u, e⟩ := this
    exact ⟨u, by rw [same a (List.mem_of_getElem? h2)]; exact e⟩
theorem ObRep.there {o : Ob} {a : Addr} (h : ObRep K G ρ H o a) : ∃ u, H a = some u := by
  cases o with
  | lst ds => obtain ⟨vs, e, _⟩ := h; exact ⟨_, e⟩
  | dK kvs => obtain ⟨vs, e, _⟩ := h; exact ⟨_, e⟩
  | dI kvs => obtain ⟨vs, e, _⟩ := h; exact ⟨_, e⟩
  | ins x fs => obtain ⟨vs, ⟨C, dx, e, _⟩, _⟩ := h; exact ⟨_, e⟩
  | dS fs => obtain ⟨vs, e, _⟩ := h; exact ⟨_, e⟩
  | gone => exact h
theorem RelS.there (r : RelS K G ρ S H) {a : Addr} (h : a ∈ ρ) : ∃ u, H a = some u := by
  obtain ⟨i, hi, e⟩ := List.getElem_of_mem h
  have hS : i < S.length := by rw [← r.len]; exact hi
  exact (r.ob i S[i] a (by rw [List.getElem?_eq_getElem hS]) (by rw [List.getElem?_eq_getElem hi, e])).there
theorem RelS.fresh (r : RelS K G ρ S H) {p : Addr} (hn : H p = none) : p ∉ ρ := fun h => by
  obtain ⟨u, e⟩ := r.there h
  rw [hn] at e
  cases e
theorem RelS.new (r : RelS K G ρ S H) {p : Addr} {o : HO} (hn : H p = none) (ho : okO o := by exact True.intro) : RelS K G ρ S (upd H p o) :=
  r.keep_at (Keep.new hn r.gt) (fun a ha => upd_ne fun e => r.fresh hn (e ▸ ha)) (okU r.tp ho)
theorem RelS.ngn (r : RelS K G ρ S H) {p : Addr} (hn : H p = none) : ¬ G p := fun h => by
  obtain ⟨u, e⟩ := r.gt p h
  rw [hn] at e
  cases e
theorem Keep.cell {p : Addr} {o : HO} (hn : H p = none) (hg : ∀ a, G a → ∃ u, H a = some u) : Keep G ρ H (ρ ++ [p]) (upd H p o) := by
  have k : Keep G ρ H ρ (upd H p o) := Keep.new hn hg
  refine ⟨⟨[p], rfl⟩, k.tup, fun a xs h1 h2 h => ⟨?_, (k.lst a xs h1 h2 h).2⟩, k.frz, k.grd⟩
  simp [h1, ne_of_none h hn]
theorem RelS.alloc (r : RelS K G ρ S H) {p : Addr} {o : Ob} {u : HO} (hn : H p = none) (ho : ObRep K G (ρ ++ [p]) (upd H p u) o p) (hu : okO u := by exact True.intro) : RelS K G (ρ ++ [p]) (S ++ [o]) (upd H p u) := by
  have k : Keep G ρ H (ρ ++ [p]) (upd H p u) := Keep.cell hn r.gt
  have np := r.fresh hn
  refine ⟨by simp [r.len], ?_, fun a ha => ?_, fun a h => by rw [k.grd a h]; exact r.gt a h, okU r.tp hu, fun i o' a h1 h2 => ?_⟩
  · rw [List.nodup_append]
    refine ⟨r.nd, by simp, fun a ha b hb => ?_⟩
    rintro rfl
    simp at hb
    exact np (hb ▸ ha)
  · rcases List.mem_append.mp ha with h | h
    · exact r.ng a h
    · simp at h; rw [h]; exact r.ngn hn
  · by_cases hi : i < S.length
    · rw [List.getElem?_append_left hi] at h1
      rw [List.getElem?_append_left (by rw [r.len]; exact hi)] at h2
      have hne : a ≠ p := fun e => np (e ▸ List.mem_of_getElem? h2)
      have := r.ob i o' a h1 h2
      cases o' with
      | lst ds =>
        obtain ⟨vs, e, h⟩ := this
        exact ⟨vs, by rw [upd_ne hne]; exact e, RepL.keep k ds vs h⟩
      | dK kvs =>
        obtain ⟨vs, e, h⟩ := this
        exact ⟨vs, by rw [upd_ne hne]; exact e, RepKV.keep k kvs vs h⟩
      | dI kvs =>
        obtain ⟨vs, e, h⟩ := this
        exact ⟨vs, by rw [upd_ne hne]; exact e, RepKI.keep k kvs vs h⟩
      | ins x fs =>
        obtain ⟨vs, ⟨C, dx, e, hC⟩, h⟩ := this
        exact ⟨vs, ⟨C, dx, by rw [upd_ne hne]; exact e, hC⟩, RepF.keep k fs vs h⟩
      | dS fs =>
        obtain ⟨vs, e, h⟩ := this
        exact ⟨vs, by rw [upd_ne hne]; exact e, RepF.keep k fs vs h⟩
      | gone =>
        obtain ⟨u, e⟩ := this
        exact ⟨u, by rw [upd_ne hne]; exact e⟩
    · have hi' : i = S.length := by
        have := (List.getElem?_eq_some_iff.mp h1).1
        simp at this
        omega
      subst hi'
      rw [List.getElem?_append_right (Nat.le_refl _)] at h1
      simp at h1
      subst h1
      rw [← r.len, List.getElem?_append_right (Nat.le_refl _)] at h2
      simp at h2
      subst h2
      exact ho
theorem Keep.write {p : Addr} {u : HO} (hp : p ∈ ρ) (hg : ¬ G p) (ht : (∃ vs, H p = some (.lst vs)) ∨ (∃ φ, H p = some (.ext φ)) ∨ (∃ kvs, H p = some (.dK kvs)) ∨ ∃ C dx fs, H p = some (.ins C dx fs)) : Keep G ρ H ρ (upd H p u) := by
  have nt : ∀ a o, H a = some o → (∀ vs, o ≠ .lst vs) → (∀ φ, o ≠ .ext φ) → (∀ kvs, o ≠ .dK kvs) → (∀ C dx fs, o ≠ .ins C dx fs) → a ≠ p := fun a o h n1 n2 n3 n4 e => by
    subst e
    rcases ht with ⟨vs, q⟩ | ⟨kvs, q⟩ | ⟨kvs, q⟩ | ⟨C, dx, fs, q⟩
    · rw [h] at q; cases q; exact n1 _ rfl
    · rw [h] at q; cases q; exact n2 _ rfl
    · rw [h] at q; cases q; exact n3 _ rfl
    · rw [h] at q; cases q; exact n4 _ _ _ rfl
  refine ⟨⟨[], by simp⟩, fun a xs h => ?_, fun a xs h1 h2 h => ⟨h1, ?_⟩, fun a o v h => ?_, fun a h => ?_⟩
  · rcases h with h | ⟨ob, h⟩
    · exact .inl (by rw [upd_ne (nt a _ h (fun _ q => nomatch q) (fun _ q => nomatch q) (fun _ q => nomatch q) (fun _ _ _ q => nomatch q))]; exact h)
    · exact .inr ⟨ob, by rw [upd_ne (nt a _ h (fun _ q => nomatch q) (fun _ q => nomatch q) (fun _ q => nomatch q) (fun _ _ _ q => nomatch q))]; exact h⟩
  · have hne : a ≠ p := fun e => h1 (e ▸ hp)
    rw [upd_ne hne]
    exact h
  · rw [upd_ne (nt a _ h (fun _ q => nomatch q) (fun _ q => nomatch q) (fun _ q => nomatch q) (fun _ _ _ q => nomatch q))]
    exact h
  · rw [upd_ne]
    rintro rfl
    exact hg h
theorem RelS.write (r : RelS K G ρ S H) {i : Nat} {p : Addr} {o : Ob} {u : HO} (hi : ρ[i]? = some p) (ht : (∃ vs, H p = some (.lst vs)) ∨ (∃ φ, H p = some (.ext φ)) ∨ (∃ kvs, H p = some (.dK kvs)) ∨ ∃ C dx fs, H p = some (.ins C dx fs)) (ho : ObRep K G ρ (upd H p u) o p) (hu : okO u := by exact True.intro) : RelS K G ρ (S.set i o) (upd H p u) ∧ Keep G ρ H ρ (upd H p u) := by
  have hm : p ∈ ρ := List.mem_of_getElem? hi
  have k : Keep G ρ H ρ (upd H p u) := Keep.write hm (r.ng p hm) ht
  refine ⟨⟨by simp [r.len], r.nd, r.ng, fun a h => by rw [k.grd a h]; exact r.gt a h, okU r.tp hu, fun j o' a h1 h2 => ?_⟩, k⟩
  by_cases hj : j = i
  · subst hj
    have : j < S.length := by rw [← r.len]; exact (List.getElem?_eq_some_iff.mp hi).1
    rw [List.getElem?_set_self this] at h1
    cases h1
    rw [hi] at h2
    cases h2
    exact ho
  · rw [List.getElem?_set_ne (Ne.symm hj)] at h1
    have hne : a ≠ p := fun e => hj (by
      have h3 := (List.getElem?_eq_some_iff.mp h2)
      have h4 := (List.getElem?_eq_some_iff.mp hi)
      obtain ⟨l3, e3⟩ := h3
      obtain ⟨l4, e4⟩ := h4
      exact (List.getElem_inj r.nd).mp (by rw [e3, e4, e]))
    have := r.ob j o' a h1 h2
    cases o' with
    | lst ds =>
      obtain ⟨vs, e, h⟩ := this
      exact ⟨vs, by rw [upd_ne hne]; exact e, RepL.keep k ds vs h⟩
    | dK kvs =>
      obtain ⟨vs, e, h⟩ := this
      exact ⟨vs, by rw [upd_ne hne]; exact e, RepKV.keep k kvs vs h⟩
    | dI kvs =>
      obtain ⟨vs, e, h⟩ := this
      exact ⟨vs, by rw [upd_ne hne]; exact e, RepKI.keep k kvs vs h⟩
    | ins x fs =>
      obtain ⟨vs, ⟨C, dx, e, hC⟩, h⟩ := this
      exact ⟨vs, ⟨C, dx, by rw [upd_ne hne]; exact e, hC⟩, RepF.keep k fs vs h⟩
    | dS fs =>
      obtain ⟨vs, e, h⟩ := this
      exact ⟨vs, by rw [upd_ne hne]; exact e, RepF.keep k fs vs h⟩
    | gone =>
      obtain ⟨u, e⟩ := this
      exact ⟨u, by rw [upd_ne hne]; exact e⟩

structure RelE (K : PySem.W.Frag) (G : Addr → Prop) (ρ : List Addr) (H : Hp) (env : En) (σ : L2.St) : Prop where
  len : σ.length = env.length
  get : ∀ (i : Nat) (d : D), env[i]? = some (some d) → ∃ v, σ[i]? = some (some v) ∧ Rep K G ρ H d v
theorem RelE.keep {env : En} {σ : L2.St} (k : Keep G ρ H ρ' H') (r : RelE K G ρ H env σ) : RelE K G ρ' H' env σ :=
  ⟨r.len, fun i d h => let ⟨v, h1, h2⟩ := r.get i d h; ⟨v, h1, Rep.keep k d v h2⟩⟩
theorem RelE.set {env : En} {σ : L2.St} (r : RelE K G ρ H env σ) {i : Nat} {d : D} {v : V} (h : Rep K G ρ H d v) : RelE K G ρ H (env.set i (some d)) (σ.set i (some v)) := by
  refine ⟨by simp [r.len], fun j d' e => ?_⟩
  by_cases hj : j = i
  · subst hj
    have hl : j < (env.set j (some d)).length := (List.getElem?_eq_some_iff.mp e).1
    rw [List.length_set] at hl
    rw [List.getElem?_set_self hl] at e
    cases e
    exact ⟨v, by rw [List.getElem?_set_self (by rw [r.len]; exact hl)], h⟩
  · rw [List.getElem?_set_ne (Ne.symm hj)] at e
    obtain ⟨w, h1, h2⟩ := r.get j d' e
    exact ⟨w, by rw [List.getElem?_set_ne (Ne.symm hj)]; exact h1, h2⟩
def clr (env : En) : List Nat → En
  | [] => env
  | i :: r => (clr env r).set i none
theorem clr_length (env : En) : ∀ l : List Nat, (clr env l).length = env.length
  | [] => rfl
  | i :: r => by unfold clr; rw [List.length_set, clr_length env r]
theorem clr_get {env : En} {i : Nat} {d : D} : ∀ {l : List Nat}, (clr env l)[i]? = some (some d) → env[i]? = some (some d)
  | [], h => h
  | j :: r, h => by
    unfold clr at h
    by_cases e : i = j
    · subst e
      have hl : i < ((clr env r).set i none).length := (List.getElem?_eq_some_iff.mp h).1
      rw [List.length_set] at hl
      rw [List.getElem?_set_self hl] at h
      cases h
    · rw [List.getElem?_set_ne (Ne.symm e)] at h
      exact clr_get h
theorem RelE.clr {env : En} {σ : L2.St} (r : RelE K G ρ H env σ) (l : List Nat) : RelE K G ρ H (clr env l) σ :=
  ⟨by rw [clr_length]; exact r.len, fun i d h => r.get i d (clr_get h)⟩
end
end Rf

namespace Rf
open PySem PySem.Spec PyProof.Rows L2

structure RoomG (k : Nat) (A : Around) : Prop extends Room k A where
  gd : A.guards = some []
theorem RoomG.mono {j k : Nat} {A : Around} (r : RoomG k A) (h : j ≤ k) : RoomG j A := ⟨r.toRoom.mono h, r.gd⟩
structure FnOkG (P : Program) (w : World) (K : PySem.W.Frag) (mg : Str → Option Value) (base : Heap) (CX : CXT) (k : Nat) (f : Addr) (fd : FuncData) (ps : List Str) (sp : Sp) : Prop where
  len : ∀ vs H Q E, sp vs H Q E → vs.length = ps.length
  run : ∀ A, A.guards = some [] → ∀ outer s H args us vs Q E, Room k A → Env0 P w K mg base A outer s H → BindsTo s fd args (ps.zip us) → Vals vs us → sp vs H Q E → codeAny (model P w) A (.call (.ref f) args) (CR CX outer P w H s Q E) s
theorem FnOkG.mono {P : Program} {w : World} {K : PySem.W.Frag} {mg : Str → Option Value} {base : Heap} {CX : CXT} {j k : Nat} {f : Addr} {fd : FuncData} {ps : List Str} {sp : Sp} (F : FnOkG P w K mg base CX j f fd ps sp) (h : j ≤ k) : FnOkG P w K mg base CX k f fd ps sp :=
  ⟨F.len, fun A g outer s H args us vs Q E hr => F.run A g outer s H args us vs Q E (hr.mono h)⟩
section
variable {P : Program} {w : World} {K : PySem.W.Frag} {mg : Str → Option Value} {base : Heap}
theorem fn_ofG {x qual : Str} {st : Stmt} {f : Addr} {fd : FuncData} {N ps : List Str} {k : Nat} {sp : Sp} (F : Fun K x qual st f fd) (Sc : FnScope N ps (defScope st)) (len : ∀ vs H Q E, sp vs H Q E → vs.length = ps.length)
    (hbody : ∀ (cdv : Value) (A : Around) (outer : List Env) (s : Shared) (H : Hp) (vs : List V) (Q : VK) (E : XK), RoomG k (A.deeper (envOfC qual (defScope st) s.heap.objs.size f cdv)) → sp vs H Q E →
      ∃ t, PSs (cxOf (L2.CX P w) P w K mg base N qual (defScope st) f cdv A outer s H E) (defBody st) t ∧ t { nx := fun _ H' => Q .non H', rt := Q } (start N vs) H) : FnOkG P w K mg base (L2.CX P w) (k + 1) f fd ps sp := by
  obtain ⟨oc, od, kV, doc, pm, an, cdv, ct, osl, rfl, lk, hcd⟩ := F.ex
  refine ⟨len, fun A gd outer s H args us vs Q E hr e0 hb r hsp => ?_⟩
  have keep : ∀ b o, base.get? b = some o → s.heap.get? b = some o := fun b o e => (e0.bs b o e).1
  have inK := e0.mod.kin.keeps keep
  refine codeAny_call_function hr.depth (inK _ _ lk) rfl Sc.co Sc.gen rfl (PySem.W.codeRec_of inK hcd) (hb _ _ _ _ ?_)
  refine wpAny_newFunctionEnv_cells Sc.kind (fun y hy => (Sc.par y.1 (List.of_mem_zip hy).1).imp id fun q => ⟨q, PySem.W.cellsFrom_some _ _ _ (.inl q)⟩) fun env he s1 x => ?_
  subst he
  refine ⟨(e0.mod.nolimit.keeps keep).keeps x.toInCall.keep, codeAny_func ?_⟩
  obtain ⟨t, ht, hq⟩ := hbody cdv A outer s H vs Q E ⟨hr.deeper _, gd⟩ hsp
  have I0 := inv_start (CX := L2.CX P w) (qual := qual) (f := f) (cd := cdv) (E := E) Sc hr.hd e0 (len _ _ _ _ hsp) r x
  refine wpAny_mono (ht.run [] s1 (start N vs) H _ I0 hq) (fun fl s2 h2 => ?_) fun _ _ h2 => h2
  cases fl with
  | ret u => obtain ⟨v, _, H', J, rv, q⟩ := h2; exact ⟨v, H', J.os, J.bare, J.base, J.hok, rv, q⟩
  | next => obtain ⟨_, H', J, q⟩ := h2; exact ⟨.non, H', J.os, J.bare, J.base, J.hok, rfl, q⟩
  | brk => obtain ⟨_, _, _, q⟩ := h2; exact q.elim
  | cont => obtain ⟨_, _, _, q⟩ := h2; exact q.elim
end
section
variable {X : Cx} {CX : CXT} {k : Nat} {f : Addr} {fd : FuncData} {ps : List Str} {sp : Sp} {E : L2.St → XK} {x : Str} {p pos : Pos} {e : Expr} {es : List Expr} {t : TA}
theorem run_fnG {pins : List (Addr × Obj)} {σ : L2.St} {H : Hp} {s : Shared} {Q : VK} {us : List Value} {vs : List V} (F : FnOkG X.prog X.w X.K X.mg X.base CX k f fd ps sp) (hr : RoomG k X.A) (hb : Binds X.K fd ps []) (hx : PassesAt CX X σ (E σ)) (I : Inv X pins σ H s) (r : Vals vs us) (h : sp vs H Q (E σ)) :
    wpAny (model X.prog X.w) X.A (call (.ref f) us) (EP X pins σ Q) X.xe s := by
  have b := hb s us I.kIn (by rw [List.append_nil, ← r.length]; exact F.len _ _ _ _ h)
  rw [List.append_nil] at b
  refine wpAny_call (codeAny_mono (F.run X.A hr.gd X.stack s H ⟨us, []⟩ us vs Q (E σ) hr.toRoom I.env0 b r h) fun r s' hq => ?_)
  match r, hq with
  | .error e, hq => exact hx pins H s e s' I hq
  | .ok (.ret u), hq => exact I.after hq
theorem pe_callG (F : FnOkG X.prog X.w X.K X.mg X.base CX k f fd ps sp) (hr : RoomG k X.A) (hg : Gl X x) (hm : X.mg x = some (.ref f)) (hk : PySem.W.keepIn X.K (.ref f) = true) (hb : Binds X.K fd ps []) (hx : ∀ σ, PassesAt CX X σ (E σ)) (ha : PA X (e :: es) t)
    (hdb : (x == ("__debug__" : Str)) = false) (he : starEach (e :: es) X.env = (false, eval e X.env) :: starEach es X.env) (hpl : (backTo pos (starEach es X.env)).any (·.1) = false) : PE X (.Call (.Name x p) (e :: es) [] pos) (tCallS sp E t) :=
  ⟨fun pins s σ H Q I h => wpAny_Call_Name_kw (ld_glob I hg hm (PySem.W.callWith_K (h₀ := X.base) I.ok.mod.kin hk (thn (ha.run pos pins s σ H _ I h) fun us s1 ⟨vs, H1, I1, r, q⟩ => ⟨I1.kIn, run_fnG F hr hb (hx σ) I1 r q⟩) he hpl) hdb)⟩
end
section
variable {P : Program} {w : World} {K : PySem.W.Frag} {mg mb : Str → Option Value} {CX : CXT} {k : Nat} {fa a : Addr} {fd : FuncData} {x : Str} {sp : Sp} {s₁ : Shared} {vs : List Value} {ns : List Int}
def scH (K : PySem.W.Frag) (a : Addr) (o : Obj) (xs : List V) : Hp := fun b => if b = a ∧ K.lookup a = none then some (.frz o (.lst xs)) else none
theorem scH_at {o : Obj} {xs : List V} {b : Addr} {u : HO} (h : scH K a o xs b = some u) : b = a ∧ K.lookup a = none ∧ u = .frz o (.lst xs) := by
  unfold scH at h
  split at h
  · rename_i z; cases h; exact ⟨z.1, z.2, rfl⟩
  · cases h
theorem env0_of (KX : K.In s₁.heap) (hns : s₁.heap.Ns mainGlobals mg) (hb : s₁.heap.Ns builtinsNs mb) (hbb : ∀ x : Str, x ≠ "__name__" → mb x = bootBuiltins x) (hlim : s₁.heap.NoLimit) (hg : s₁.gens = #[])
    (ha : s₁.heap.get? a = some { cls := .type "list", data := .seq vs.toArray }) (hi : IntsAre vs ns) (hl : ns.length ≤ sizeLine) :
    ∃ H base, Only H ∧ SqL K H a (ns.map V.int) ∧ K.In base ∧ base.Ns mainGlobals mg ∧ Env0 P w K mg base callerA [] s₁ H := by
  obtain ⟨o, ho⟩ : ∃ o : Obj, o = { cls := .type "list", data := .seq vs.toArray } := ⟨_, rfl⟩
  rw [← ho] at ha
  obtain ⟨H, hH⟩ : ∃ H, H = scH K a o (ns.map V.int) := ⟨_, rfl⟩
  have only : Only H := fun b => by
    cases q : H b with
    | none => exact .inl rfl
    | some u => rw [hH] at q; exact .inr ⟨_, _, by rw [(scH_at q).2.2]⟩
  have sq : SqL K H a (ns.map V.int) := by
    cases hk : K.lookup a with
    | none => exact .inl (.inr ⟨o, by rw [hH]; unfold scH; rw [if_pos ⟨rfl, hk⟩]⟩)
    | some o' =>
      have e := KX a o' hk
      rw [ha] at e
      cases e
      subst ho
      exact .inr ⟨_, vs.toArray, _, hk, rfl, rfl, rfl, by rw [List.size_toArray, hi.length]; exact hl, by simpa using vals_ints hi⟩
  have ok : HOk P w H s₁.heap := fun b u q => by
    rw [hH] at q
    obtain ⟨rfl, _, rfl⟩ := scH_at q
    exact ⟨ha, by rw [List.length_map]; exact hl, vs, _, vals_ints hi, by rw [ha, ho]⟩
  have ns1 : ∀ {b m}, s₁.heap.Ns b m → (hidT s₁.heap H).Ns b m := fun ⟨ob, es, ep, e, d, r⟩ => by
    refine ⟨ob, es, ep, hidT_get e ?_, d, r⟩
    cases q : H _ with
    | none => rfl
    | some u =>
      rw [hH] at q
      obtain ⟨rfl, _, _⟩ := scH_at q
      rw [ha] at e
      cases e
      subst ho
      exact nomatch (show Data.seq vs.toArray _ = Data.dict es ep from d)
  have inB : K.In (hidT s₁.heap H) := fun b ob e => by
    refine hidT_get (KX b ob e) ?_
    cases q : H b with
    | none => rfl
    | some u =>
      rw [hH] at q
      obtain ⟨rfl, z, _⟩ := scH_at q
      rw [z] at e
      cases e
  obtain ⟨mc, l1, l2⟩ := hlim
  exact ⟨H, hidT s₁.heap H, only, sq, inB, ns1 hns, rfl, ⟨inB, ns1 hns, ⟨mb, ns1 hb, hbb⟩, ⟨mc, ns1 l1, l2⟩⟩, fun _ _ e => of_hidT e, Nat.le_of_eq (hidT_size _ _), trivial, fun b z => (nomatch z), ok, .of_eq hg⟩
theorem law_callG (KX : K.In s₁.heap) (hns : s₁.heap.Ns mainGlobals mg) (hb : s₁.heap.Ns builtinsNs mb) (hbb : ∀ x : Str, x ≠ "__name__" → mb x = bootBuiltins x) (hlim : s₁.heap.NoLimit) (hg : s₁.gens = #[])
    (ha : s₁.heap.get? a = some { cls := .type "list", data := .seq vs.toArray }) (hi : IntsAre vs ns) (hl : ns.length ≤ sizeLine) (hr : Room k callerA) (F : ∀ base : Heap, K.In base → base.Ns mainGlobals mg → FnOkG P w K mg base CX k fa fd [x] sp)
    (hbind : ∀ (s : Shared) (u : Value), BindsTo s fd ⟨[u], []⟩ [(x, u)]) (hsp : ∀ H : Hp, Only H → SqL K H a (ns.map V.int) → sp [.ref a] H (fun v _ => v = .bl true) fun _ _ _ => False) (hCX : ∀ H e s', CX [] H s₁ (fun _ _ _ => False) e s' → False) :
    codeAny (model P w) callerA (.call (.ref fa) ⟨[.ref a], []⟩) (fun r s' => r = .ok (.ret (.bool true)) ∧ OldK s₁.heap s'.heap ∧ s'.os = s₁.os ∧ AllBare s'.gens) s₁ := by
  obtain ⟨H, base, only, sq, i1, i2, e0⟩ := env0_of (P := P) (w := w) KX hns hb hbb hlim hg ha hi hl
  refine codeAny_mono ((F base i1 i2).run callerA rfl [] s₁ H ⟨[.ref a], []⟩ [.ref a] [.ref a] _ _ hr e0 (hbind s₁ (.ref a)) (.cons rfl .nil) (hsp H only sq)) fun r s' h => ?_
  match r, h with
  | .error e, h => exact (hCX H e s' h).elim
  | .ok (.ret u), ⟨v, H', os, bare, un, ok', rv, q⟩ =>
    cases (show v = .bl true from q)
    cases (show u = Value.bool true from rv)
    refine ⟨rfl, OldK.of_keep fun b ob e => ?_, os, bare⟩
    rcases only b with z | ⟨o1, xs, z⟩
    · exact un.keep b ob e z (fun y => nomatch y) (fun y => nomatch y)
    · have k1 := (e0.hok b _ z).1
      rw [e] at k1
      cases k1
      exact (ok' b _ (un.frzs b _ _ z)).1
end
theorem walk_ofG {l : PySem.W.OpenLaw} {n k : Nat} {q : Program} {loose : List Str} {XP : (Str → Option Value) → Heap → Prop} {YP : World → Heap → Prop} {d : DefRec} {K : Params → PySem.W.Frag} {CX : World → CXT} {sp : World → Sp} {x : Str} (hn : l.most = some n) (hn2 : n ≤ sizeLine)
    (hdf : d.params.defaults = []) (hr : Room k callerA) (hY : ∀ (w : World) (h : Heap), YP w h → (K w.params).In h) (F : ∀ (w : World) (mg : Str → Option Value) (fa : Addr) (h : Heap), (K w.params).In h → h.Ns mainGlobals mg → mg d.name = some (.ref fa) → ∃ fd : FuncData, (∀ (s : Shared) (u : Value), BindsTo s fd ⟨[u], []⟩ [(x, u)]) ∧
        ∀ base : Heap, (K w.params).In base → base.Ns mainGlobals mg → FnOkG l.prog w (K w.params) mg base (CX w) k fa fd [x] (sp w))
    (hsp : ∀ (w : World) (H : Hp) (a : Addr) (ns : List Int), ns.length ≤ n → Only H → SqL (K w.params) H a (ns.map V.int) → sp w [.ref a] H (fun v _ => v = .bl true) fun _ _ _ => False) (hCX : ∀ (w : World) (H : Hp) (s : Shared) (e : Value) (s' : Shared), CX w [] H s (fun _ _ _ => False) e s' → False) :
    PySem.W.WalkO q loose XP YP l.row.toRowW d [] (fun f vs => PySem.call f vs) := Att.attach_call hn hdf fun w s₀ s₁ mg mb fa o pm cd doc a vs ns G Y ho hd hcd hmg hobj hints hlen hg => by
  have inK := hY w _ Y
  obtain ⟨fd, hb, hF⟩ := F w mg fa _ inK G.T.g hmg
  exact law_callG inK G.T.g G.T.b G.T.builtins G.T.nolimit hg hobj hints (Nat.le_trans hlen hn2) hr hF hb (fun H => hsp w H a ns hlen) fun H => hCX w H s₁
end Rf

namespace Rf
open PySem PySem.Spec PyProof.Rows L2

def Res.bind {α β : Type} (r : Res α) (f : α → Store → Res β) : Res β :=
  match r with
  | .ok a S => f a S
  | .err c S => .err c S
  | .bad => .bad
@[simp] theorem bind_ok {α β : Type} (a : α) (S : Store) (f : α → Store → Res β) : (Res.ok a S).bind f = f a S := rfl
@[simp] theorem bind_err {α β : Type} (c : Nat) (S : Store) (f : α → Store → Res β) : (Res.err c S : Res α).bind f = .err c S := rfl
@[simp] theorem bind_bad {α β : Type} (f : α → Store → Res β) : (Res.bad : Res α).bind f = .bad := rfl

def Ok {α β : Type} (K : PySem.W.Frag) (G : Addr → Prop) (rel : List Addr → Hp → α → β → Prop) (ρ : List Addr) (H : Hp) (r : Res α) (E : Nat → Hp → Prop) (Q : β → Hp → Prop) : Prop :=
  match r with
  | .ok a S' => ∀ b ρ' H', RelS K G ρ' S' H' → rel ρ' H' a b → Keep G ρ H ρ' H' → Q b H'
  | .err c S' => ∀ ρ' H', RelS K G ρ' S' H' → Keep G ρ H ρ' H' → E c H'
  | .bad => False
def OkF (K : PySem.W.Frag) (G : Addr → Prop) (ρ : List Addr) (H : Hp) (r : Res (List D)) (E : Nat → Hp → Prop) (Q : VK) : Prop :=
  match r with
  | .ok ds S' => ∀ a vs ρ' H', RelS K G ρ' S' H' → RepL K G ρ' H' ds vs → Keep G ρ H ρ' H' → H' a = none → Q (.ref a) (upd H' a (.lst vs))
  | .err c S' => ∀ ρ' H', RelS K G ρ' S' H' → Keep G ρ H ρ' H' → E c H'
  | .bad => False
def relB : List Addr → Hp → Bool → Bool → Prop := fun _ _ a b => b = a
section
variable {K : PySem.W.Frag} {G : Addr → Prop} {ρ ρ' : List Addr} {H H' : Hp} {E : Nat → Hp → Prop}
theorem Ok.keep {α β : Type} {rel : List Addr → Hp → α → β → Prop} {r : Res α} {Q : β → Hp → Prop} (k : Keep G ρ H ρ' H') (h : Ok K G rel ρ H r E Q) : Ok K G rel ρ' H' r E Q := by
  cases r with
  | ok a S => exact fun b ρ2 H2 r1 r2 k2 => h b ρ2 H2 r1 r2 (k.trans k2)
  | err c S => exact fun ρ2 H2 r1 k2 => h ρ2 H2 r1 (k.trans k2)
  | bad => exact h
theorem OkF.keep {r : Res (List D)} {Q : VK} (k : Keep G ρ H ρ' H') (h : OkF K G ρ H r E Q) : OkF K G ρ' H' r E Q := by
  cases r with
  | ok a S => exact fun b vs ρ2 H2 r1 r2 k2 => h b vs ρ2 H2 r1 r2 (k.trans k2)
  | err c S => exact fun ρ2 H2 r1 k2 => h ρ2 H2 r1 (k.trans k2)
  | bad => exact h
theorem Ok.bind {α β γ δ : Type} {rel : List Addr → Hp → α → β → Prop} {rel2 : List Addr → Hp → γ → δ → Prop} {r : Res α} {f : α → Store → Res γ} {Q : β → Hp → Prop} {Q2 : δ → Hp → Prop}
    (h : Ok K G rel2 ρ H (r.bind f) E Q2) (n : ∀ a S' b ρ' H', RelS K G ρ' S' H' → rel ρ' H' a b → Keep G ρ H ρ' H' → Ok K G rel2 ρ' H' (f a S') E Q2 → Q b H') : Ok K G rel ρ H r E Q := by
  cases r with
  | ok a S => exact fun b ρ2 H2 r1 r2 k2 => n a S b ρ2 H2 r1 r2 k2 (h.keep k2)
  | err c S => exact h
  | bad => exact h
theorem OkF.bind {α β : Type} {rel : List Addr → Hp → α → β → Prop} {r : Res α} {f : α → Store → Res (List D)} {Q : β → Hp → Prop} {Q2 : VK}
    (h : OkF K G ρ H (r.bind f) E Q2) (n : ∀ a S' b ρ' H', RelS K G ρ' S' H' → rel ρ' H' a b → Keep G ρ H ρ' H' → OkF K G ρ' H' (f a S') E Q2 → Q b H') : Ok K G rel ρ H r E Q := by
  cases r with
  | ok a S => exact fun b ρ2 H2 r1 r2 k2 => n a S b ρ2 H2 r1 r2 k2 (h.keep k2)
  | err c S => exact h
  | bad => exact h
theorem Ok.now {α β : Type} {rel : List Addr → Hp → α → β → Prop} {Q : β → Hp → Prop} {a : α} {b : β} {S : Store} (h : Ok K G rel ρ H (.ok a S) E Q) (r : RelS K G ρ S H) (x : rel ρ H a b) : Q b H := h b ρ H r x Keep.refl
end

abbrev WE' (cA : Nat → Addr) (W : WX) (σ : L2.St) : Nat → Hp → Prop := fun c H' => W (.ref (cA c)) none σ H'
def tE (K : PySem.W.Frag) (cA : Nat → Addr) (W : WX) (m : M D) : TE := fun σ H Q => ∃ G ρ env S, RelE K G ρ H env σ ∧ RelS K G ρ S H ∧ Ok K G (Rep K G) ρ H (m env S) (WE' cA W σ) Q
def tT (K : PySem.W.Frag) (cA : Nat → Addr) (W : WX) (m : M Bool) : TT := fun σ H Q => ∃ G ρ env S, RelE K G ρ H env σ ∧ RelS K G ρ S H ∧ Ok K G relB ρ H (m env S) (WE' cA W σ) Q
def tAr (K : PySem.W.Frag) (cA : Nat → Addr) (W : WX) (m : M (List D)) : TA := fun σ H Q => ∃ G ρ env S, RelE K G ρ H env σ ∧ RelS K G ρ S H ∧ Ok K G (RepL K G) ρ H (m env S) (WE' cA W σ) Q
def tFr (K : PySem.W.Frag) (cA : Nat → Addr) (W : WX) (m : M (List D)) : TE := fun σ H Q => ∃ G ρ env S, RelE K G ρ H env σ ∧ RelS K G ρ S H ∧ OkF K G ρ H (m env S) (WE' cA W σ) Q

section
variable {X : Cx} {e a b c : Expr} {pos : Pos}
theorem pe_imp {t t' : TE} (h : PE X e t) (i : ∀ σ H Q, t' σ H Q → t σ H Q) : PE X e t' := ⟨fun pins s σ H Q I hw => h.run pins s σ H Q I (i σ H Q hw)⟩
theorem pt_imp {t t' : TT} (h : PT X e t) (i : ∀ σ H Q, t' σ H Q → t σ H Q) : PT X e t' := ⟨fun pins s σ H Q I hw => h.run pins s σ H Q I (i σ H Q hw)⟩
theorem pw_imp {t t' : TT} (h : PW X e t) (i : ∀ σ H Q, t' σ H Q → t σ H Q) : PW X e t' := ⟨fun wh pins s σ H Q I hw => h.run wh pins s σ H Q I (i σ H Q hw)⟩
theorem pa_imp {es : List Expr} {t t' : TA} (h : PA X es t) (i : ∀ σ H Q, t' σ H Q → t σ H Q) : PA X es t' := ⟨fun pos pins s σ H Q I hw => h.run pos pins s σ H Q I (i σ H Q hw)⟩
theorem ps_imp {st : Stmt} {t t' : TS} (h : PS X st t) (i : ∀ D σ H, t' D σ H → t D σ H) : PS X st t' := ⟨fun pins s σ H D I hw => h.run pins s σ H D I (i D σ H hw)⟩
theorem pss_imp {st : List Stmt} {t t' : TS} (h : PSs X st t) (i : ∀ D σ H, t' D σ H → t D σ H) : PSs X st t' := ⟨fun pins s σ H D I hw => h.run pins s σ H D I (i D σ H hw)⟩
theorem pg_imp {tg : Expr} {t t' : TG} (h : PG X tg t) (i : ∀ v σ H Q, t' v σ H Q → t v σ H Q) : PG X tg t' := ⟨fun pins s σ H v u Q I r hw => h.run pins s σ H v u Q I r (i v σ H Q hw)⟩
theorem pi_imp {tg it : Expr} {t t' : TI} (h : PI X tg it t) (i : ∀ σ H Q, t' σ H Q → t σ H Q) : PI X tg it t' := ⟨fun pins s σ H Q I hw => h.run pins s σ H Q I (i σ H Q hw)⟩

variable {cA : Nat → Addr} {W : WX}
def eVar (i : Nat) : M D := fun env S => match env[i]? with
  | some (some d) => .ok d S
  | _ => .bad
def eC (d : D) : M D := fun _ S => .ok d S
theorem je_var (i : Nat) {x : Str} (hN : X.N[i]? = some x := by rfl) (hv : Vis X.env.scope x := by first | exact Or.inl rfl | exact Or.inr (Or.inl rfl) | exact Or.inr (Or.inr rfl)) (hd : (x == ("__debug__" : Str)) = false := by decide)
    (hcd : (x == ("__classdict__" : Str)) = false := by decide) : PE X (.Name x pos) (tE X.K cA W (eVar i)) := by
  refine pe_imp (pe_var hN hv hd hcd) ?_
  rintro σ H Q ⟨G, ρ, env, S, hE, hS, h⟩
  unfold eVar at h
  split at h
  · rename_i d e
    obtain ⟨v, h1, h2⟩ := hE.get i d e
    exact ⟨v, h1, h.now hS h2⟩
  · exact h.elim
theorem je_int {i : Int} {j} : PE X (.Constant (.int i) j pos) (tE X.K cA W (eC (.int i))) := pe_imp pe_int fun _ _ _ ⟨_, _, _, _, _, hS, h⟩ => h.now hS rfl
theorem je_bl {i : Bool} {j} : PE X (.Constant (.bool i) j pos) (tE X.K cA W (eC (.bl i))) := pe_imp pe_bl fun _ _ _ ⟨_, _, _, _, _, hS, h⟩ => h.now hS rfl
theorem je_non {j} : PE X (.Constant .none j pos) (tE X.K cA W (eC .non)) := pe_imp pe_non fun _ _ _ ⟨_, _, _, _, _, hS, h⟩ => h.now hS rfl
theorem je_str {x : Str} {j} : PE X (.Constant (.str x) j pos) (tE X.K cA W (eC (.str x))) := pe_imp pe_str fun _ _ _ ⟨_, _, _, _, _, hS, h⟩ => h.now hS rfl
theorem je_gint {x : Str} {i : Int} {t : Tok} (hg : Gl X x) (hm : X.mg x = some (.int i t)) (hd : (x == ("__debug__" : Str)) = false := by decide) : PE X (.Name x pos) (tE X.K cA W (eC (.int i))) :=
  pe_imp (pe_glob (v := .int i) hg hm ⟨_, rfl⟩ hd) fun _ _ _ ⟨_, _, _, _, _, hS, h⟩ => h.now hS rfl
theorem je_ty {x : Str} {T : String} (hg : Gl X x) (hm : X.mg x = none) (hv : bootBuiltins x = some (.type T)) (hn : x ≠ "__name__" := by decide) (hd : (x == ("__debug__" : Str)) = false := by decide) : PE X (.Name x pos) (tE X.K cA W (eC (.ty T))) :=
  pe_imp (pe_bltn (v := .ty T) hg hm hv rfl hn hd) fun _ _ _ ⟨_, _, _, _, _, hS, h⟩ => h.now hS rfl

def OpD (K : PySem.W.Frag) (r : R2) (f : D → D → Store → Res D) : Prop :=
  ∀ G ρ H S d1 d2 v1 v2 E Q, RelS K G ρ S H → Rep K G ρ H d1 v1 → Rep K G ρ H d2 v2 → Ok K G (Rep K G) ρ H (f d1 d2 S) E Q → r v1 v2 H Q
def e2 (f : D → D → Store → Res D) (ma mb : M D) : M D := fun env S => (ma env S).bind fun x S1 => (mb env S1).bind fun y S2 => f x y S2
theorem op_read {r : R2} {f : D → D → Store → Res D} (hd : OpD X.K r f) {ma mb : M D} : ∀ σ H Q, tE X.K cA W (e2 f ma mb) σ H Q → tOp r (tE X.K cA W ma) (tE X.K cA W mb) σ H Q := by
  rintro σ H Q ⟨G, ρ, env, S, hE, hS, h⟩
  refine ⟨G, ρ, env, S, hE, hS, Ok.bind h fun x S1 v ρ1 H1 r1 x1 k1 h1 => ?_⟩
  refine ⟨G, ρ1, env, S1, hE.keep k1, r1, Ok.bind h1 fun y S2 u ρ2 H2 r2 x2 k2 h2 => ?_⟩
  exact hd G ρ2 H2 S2 x y v u _ Q r2 (Rep.keep k2 x v x1) x2 h2
theorem je_op {op : Operator} {r : R2} {f : D → D → Store → Res D} {ma mb : M D} (ho : OpR X (binaryOp op) r) (hd : OpD X.K r f) (ha : PE X a (tE X.K cA W ma)) (hb : PE X b (tE X.K cA W mb)) : PE X (.BinOp a op b pos) (tE X.K cA W (e2 f ma mb)) :=
  pe_imp (pe_op ho ha hb) (op_read hd)
theorem je_cmp {op : CmpOp} {r : R2} {f : D → D → Store → Res D} {ma mb : M D} (ho : OpR X (compareOp op) r) (hd : OpD X.K r f) (ha : PE X a (tE X.K cA W ma)) (hb : PE X b (tE X.K cA W mb)) (hm : behindInMarks op b = false) : PE X (.Compare a [op] [b] pos) (tE X.K cA W (e2 f ma mb)) :=
  pe_imp (pe_cmpR ho ha hb hm) (op_read hd)
def tst (m : M D) : M Bool := fun env S => (m env S).bind fun d S1 => match d with
  | .bl b => .ok b S1
  | _ => .bad
theorem test_read {m : M D} : ∀ σ H Q, tT X.K cA W (tst m) σ H Q → (tTest (tE X.K cA W m)) σ H Q := by
  rintro σ H Q ⟨G, ρ, env, S, hE, hS, h⟩
  refine ⟨G, ρ, env, S, hE, hS, Ok.bind h fun x S1 v ρ1 H1 r1 x1 k1 h1 => ?_⟩
  cases x with
  | bl b =>
    rw [show v = .bl b from x1]
    exact ⟨b, rfl, h1.now r1 rfl⟩
  | _ => exact h1.elim
theorem jt_cmp {op : CmpOp} {r : R2} {f : D → D → Store → Res D} {ma mb : M D} (ho : OpR X (compareOp op) r) (hd : OpD X.K r f) (ha : PE X a (tE X.K cA W ma)) (hb : PE X b (tE X.K cA W mb)) (hm : behindInMarks op b = false) : PT X (.Compare a [op] [b] pos) (tT X.K cA W (tst (e2 f ma mb))) := by
  refine pt_imp (pt_cmpR ho ha hb hm) fun σ H Q h => ?_
  obtain ⟨G, ρ, env, S, hE, hS, h⟩ := h
  have := test_read (X := X) (cA := cA) (W := W) σ H Q ⟨G, ρ, env, S, hE, hS, h⟩
  exact op_read hd _ _ _ this
theorem jt_val {m : M D} (h : PE X e (tE X.K cA W m)) (he : ∀ whole, isTrue e X.env whole = (do let v ← whole; standAt e.pos; holding [v] (truthy v)) := by intro _; rfl) : PT X e (tT X.K cA W (tst m)) :=
  pt_imp (pt_val h he) test_read
def tOr' (ma mb : M Bool) : M Bool := fun env S => (ma env S).bind fun x S1 => if x = true then .ok true S1 else mb env S1
def tNot' (ma : M Bool) : M Bool := fun env S => (ma env S).bind fun x S1 => .ok (!x) S1
theorem jw_or1 {m : M Bool} (ha : PT X a (tT X.K cA W m)) : PW X (.BoolOp .Or [a] pos) (tT X.K cA W m) := pw_or1 ha
theorem jw_or {m n : M Bool} {rest : List Expr} (ha : PT X a (tT X.K cA W m)) (hb : PW X (.BoolOp .Or (b :: rest) pos) (tT X.K cA W n)) : PW X (.BoolOp .Or (a :: b :: rest) pos) (tT X.K cA W (tOr' m n)) := by
  refine pw_imp (pw_or ha hb) ?_
  rintro σ H Q ⟨G, ρ, env, S, hE, hS, h⟩
  refine ⟨G, ρ, env, S, hE, hS, Ok.bind h fun x S1 v ρ1 H1 r1 x1 k1 h1 => ?_⟩
  cases (show v = x from x1)
  cases x with
  | true => exact iteT (h1.now r1 rfl)
  | false => exact iteF ⟨G, ρ1, env, S1, hE.keep k1, r1, h1⟩
theorem jt_not {m : M Bool} (ha : PT X a (tT X.K cA W m)) : PT X (.UnaryOp .Not a pos) (tT X.K cA W (tNot' m)) := by
  refine pt_imp (pt_not ha) ?_
  rintro σ H Q ⟨G, ρ, env, S, hE, hS, h⟩
  refine ⟨G, ρ, env, S, hE, hS, Ok.bind h fun x S1 v ρ1 H1 r1 x1 k1 h1 => ?_⟩
  cases (show v = x from x1)
  exact h1.now r1 rfl
def eAnd (ma mb : M D) : M D := fun env S => (ma env S).bind fun x S1 => match x with
  | .bl true => mb env S1
  | .bl false => .ok (.bl false) S1
  | _ => .bad
def eNot (ma : M D) : M D := fun env S => (ma env S).bind fun x S1 => match x with
  | .bl b => .ok (.bl (!b)) S1
  | _ => .bad
theorem je_one {op} {m : M D} (h : PE X a (tE X.K cA W m)) : PE X (.BoolOp op [a] pos) (tE X.K cA W m) := pe_one h
theorem je_and {m n : M D} {rest : List Expr} (ha : PE X a (tE X.K cA W m)) (hb : PE X (.BoolOp .And (b :: rest) pos) (tE X.K cA W n)) : PE X (.BoolOp .And (a :: b :: rest) pos) (tE X.K cA W (eAnd m n)) := by
  refine pe_imp (pe_and ha hb) ?_
  rintro σ H Q ⟨G, ρ, env, S, hE, hS, h⟩
  refine ⟨G, ρ, env, S, hE, hS, Ok.bind h fun x S1 v ρ1 H1 r1 x1 k1 h1 => ?_⟩
  cases x with
  | bl k =>
    cases (show v = .bl k from x1)
    cases k with
    | true => exact ⟨true, rfl, iteT ⟨G, ρ1, env, S1, hE.keep k1, r1, h1⟩⟩
    | false => exact ⟨false, rfl, iteF (h1.now r1 rfl)⟩
  | _ => exact h1.elim
theorem je_not {m : M D} (ha : PE X a (tE X.K cA W m)) : PE X (.UnaryOp .Not a pos) (tE X.K cA W (eNot m)) := by
  refine pe_imp (pe_not ha) ?_
  rintro σ H Q ⟨G, ρ, env, S, hE, hS, h⟩
  refine ⟨G, ρ, env, S, hE, hS, Ok.bind h fun x S1 v ρ1 H1 r1 x1 k1 h1 => ?_⟩
  cases x with
  | bl k =>
    cases (show v = .bl k from x1)
    exact ⟨k, rfl, h1.now r1 rfl⟩
  | _ => exact h1.elim
def UnD (K : PySem.W.Frag) (r : V → Hp → VK → Prop) (f : D → Store → Res D) : Prop :=
  ∀ G ρ H S d v E Q, RelS K G ρ S H → Rep K G ρ H d v → Ok K G (Rep K G) ρ H (f d S) E Q → r v H Q
def e1 (f : D → Store → Res D) (ma : M D) : M D := fun env S => (ma env S).bind fun x S1 => f x S1
theorem je_un {op : UnaryOp} {r : V → Hp → VK → Prop} {f : D → Store → Res D} {ma : M D} (ho : UnR X (unaryOp op) r) (hd : UnD X.K r f) (ha : PE X a (tE X.K cA W ma)) : PE X (.UnaryOp op a pos) (tE X.K cA W (e1 f ma)) := by
  refine pe_imp (pe_un ho ha) ?_
  rintro σ H Q ⟨G, ρ, env, S, hE, hS, h⟩
  refine ⟨G, ρ, env, S, hE, hS, Ok.bind h fun x S1 v ρ1 H1 r1 x1 k1 h1 => ?_⟩
  exact hd G ρ1 H1 S1 x v _ Q r1 x1 h1
def aNil : M (List D) := fun _ S => .ok [] S
def aCons (m : M D) (r : M (List D)) : M (List D) := fun env S => (m env S).bind fun x S1 => (r env S1).bind fun xs S2 => .ok (x :: xs) S2
theorem ja_nil : PA X [] (tAr X.K cA W aNil) := pa_imp pa_nil fun _ _ _ ⟨_, _, _, _, _, hS, h⟩ => h.now hS (show RepL _ _ _ _ [] [] from rfl)
theorem ja_cons {es : List Expr} {m : M D} {r : M (List D)} (ha : PE X e (tE X.K cA W m)) (hr : PA X es (tAr X.K cA W r)) (hs : starEach (e :: es) X.env = (false, eval e X.env) :: starEach es X.env := by rfl) : PA X (e :: es) (tAr X.K cA W (aCons m r)) := by
  refine pa_imp (pa_cons ha hr hs) ?_
  rintro σ H Q ⟨G, ρ, env, S, hE, hS, h⟩
  refine ⟨G, ρ, env, S, hE, hS, Ok.bind h fun x S1 v ρ1 H1 r1 x1 k1 h1 => ?_⟩
  refine ⟨G, ρ1, env, S1, hE.keep k1, r1, Ok.bind h1 fun xs S2 vs ρ2 H2 r2 x2 k2 h2 => ?_⟩
  exact h2.now r2 ⟨v, vs, rfl, Rep.keep k2 x v x1, x2⟩
def CallD (K : PySem.W.Frag) (r : List V → Hp → VK → Prop) (f : List D → Store → Res D) : Prop :=
  ∀ G ρ H S ds vs E Q, RelS K G ρ S H → RepL K G ρ H ds vs → Ok K G (Rep K G) ρ H (f ds S) E Q → r vs H Q
def CallF (K : PySem.W.Frag) (r : List V → Hp → VK → Prop) (f : List D → Store → Res (List D)) : Prop :=
  ∀ G ρ H S ds vs E Q, RelS K G ρ S H → RepL K G ρ H ds vs → OkF K G ρ H (f ds S) E Q → r vs H Q
def eB {α : Type} (f : List D → Store → Res α) (ma : M (List D)) : M α := fun env S => (ma env S).bind fun xs S1 => f xs S1
variable {es : List Expr} {x : Str} {p : Pos} {r : List V → Hp → VK → Prop}
theorem call_read {f : List D → Store → Res D} {ma : M (List D)} (hd : CallD X.K r f) : ∀ σ H Q, tE X.K cA W (eB f ma) σ H Q → tCB r (tAr X.K cA W ma) σ H Q := by
  rintro σ H Q ⟨G, ρ, env, S, hE, hS, h⟩
  refine ⟨G, ρ, env, S, hE, hS, Ok.bind h fun x S1 v ρ1 H1 r1 x1 k1 h1 => ?_⟩
  exact hd G ρ1 H1 S1 x v _ Q r1 x1 h1
theorem callF_read {f : List D → Store → Res (List D)} {ma : M (List D)} (hd : CallF X.K r f) : ∀ σ H Q, tFr X.K cA W (eB f ma) σ H Q → tCB r (tAr X.K cA W ma) σ H Q := by
  rintro σ H Q ⟨G, ρ, env, S, hE, hS, h⟩
  refine ⟨G, ρ, env, S, hE, hS, OkF.bind h fun x S1 v ρ1 H1 r1 x1 k1 h1 => ?_⟩
  exact hd G ρ1 H1 S1 x v _ Q r1 x1 h1
theorem je_B {id : String} {f : List D → Store → Res D} {ma : M (List D)} (hc : CallR X (.builtin id) r) (hd : CallD X.K r f) (hg : Gl X x) (hm : X.mg x = none) (hv : bootBuiltins x = some (.builtin id)) (ha : PA X (e :: es) (tAr X.K cA W ma)) (hn : x ≠ "__name__" := by decide) (hdb : (x == ("__debug__" : Str)) = false := by decide)
    (he : starEach (e :: es) X.env = (false, eval e X.env) :: starEach es X.env := by rfl) (hpl : (backTo pos (starEach es X.env)).any (·.1) = false := by rfl) : PE X (.Call (.Name x p) (e :: es) [] pos) (tE X.K cA W (eB f ma)) :=
  pe_imp (pe_callB hc hg hm hv ha hn hdb he hpl) (call_read hd)
theorem je_Ty {T : String} {f : List D → Store → Res D} {ma : M (List D)} (hc : CallR X (.type T) r) (hd : CallD X.K r f) (hg : Gl X x) (hm : X.mg x = none) (hv : bootBuiltins x = some (.type T)) (ha : PA X (e :: es) (tAr X.K cA W ma)) (hn : x ≠ "__name__" := by decide) (hdb : (x == ("__debug__" : Str)) = false := by decide)
    (he : starEach (e :: es) X.env = (false, eval e X.env) :: starEach es X.env := by rfl) (hpl : (backTo pos (starEach es X.env)).any (·.1) = false := by rfl) : PE X (.Call (.Name x p) (e :: es) [] pos) (tE X.K cA W (eB f ma)) :=
  pe_imp (pe_callTy hc hg hm hv ha hn hdb he hpl) (call_read hd)
theorem jf_B {id : String} {f : List D → Store → Res (List D)} {ma : M (List D)} (hc : CallR X (.builtin id) r) (hd : CallF X.K r f) (hg : Gl X x) (hm : X.mg x = none) (hv : bootBuiltins x = some (.builtin id)) (ha : PA X (e :: es) (tAr X.K cA W ma)) (hn : x ≠ "__name__" := by decide) (hdb : (x == ("__debug__" : Str)) = false := by decide)
    (he : starEach (e :: es) X.env = (false, eval e X.env) :: starEach es X.env := by rfl) (hpl : (backTo pos (starEach es X.env)).any (·.1) = false := by rfl) : PE X (.Call (.Name x p) (e :: es) [] pos) (tFr X.K cA W (eB f ma)) :=
  pe_imp (pe_callB hc hg hm hv ha hn hdb he hpl) (callF_read hd)
def fz (m : M (List D)) : M D := fun env S => (m env S).bind fun ds S1 => .ok (.lst ds) S1
def cel (m : M (List D)) : M D := fun env S => (m env S).bind fun ds S1 => .ok (.cell S1.length) (S1 ++ [.lst ds])
theorem fz_read {m : M (List D)} : ∀ σ H Q, tE X.K cA W (fz m) σ H Q → tFr X.K cA W m σ H Q := by
  rintro σ H Q ⟨G, ρ, env, S, hE, hS, h⟩
  refine ⟨G, ρ, env, S, hE, hS, ?_⟩
  unfold fz at h
  revert h
  cases m env S with
  | ok ds S1 =>
    intro h a vs ρ' H' r x k hn
    exact h _ ρ' _ (r.new hn) ⟨a, vs, rfl, ⟨r.fresh hn, r.ngn hn, upd_same⟩, RepL.keep (Keep.new hn r.gt) ds vs x⟩ (k.trans (Keep.new hn r.gt))
  | err c S1 => exact fun h => h
  | bad => exact fun h => h
theorem cel_read {m : M (List D)} : ∀ σ H Q, tE X.K cA W (cel m) σ H Q → tFr X.K cA W m σ H Q := by
  rintro σ H Q ⟨G, ρ, env, S, hE, hS, h⟩
  refine ⟨G, ρ, env, S, hE, hS, ?_⟩
  unfold cel at h
  revert h
  cases m env S with
  | ok ds S1 =>
    intro h a vs ρ' H' r x k hn
    have k2 : Keep G ρ' H' (ρ' ++ [a]) (upd H' a (.lst vs)) := Keep.cell hn r.gt
    refine h _ (ρ' ++ [a]) _ (r.alloc hn ⟨vs, upd_same, RepL.keep k2 ds vs x⟩) ⟨a, rfl, ?_⟩ (k.trans k2)
    rw [← r.len, List.getElem?_append_right (Nat.le_refl _)]
    simp
  | err c S1 => exact fun h => h
  | bad => exact fun h => h
theorem je_fz {m : M (List D)} (h : PE X e (tFr X.K cA W m)) : PE X e (tE X.K cA W (fz m)) := pe_imp h fz_read
theorem je_cel {m : M (List D)} (h : PE X e (tFr X.K cA W m)) : PE X e (tE X.K cA W (cel m)) := pe_imp h cel_read
def big : Nat := 1000000
theorem big_line {n : Nat} (h : n ≤ big) : n ≤ sizeLine := Nat.le_trans h (by decide)
theorem big_lt {n : Nat} (h : n < big) : n < sizeLine := Nat.lt_of_lt_of_le h (by decide)
def eTup (ma : M (List D)) : M D := fun env S => (ma env S).bind fun ds S1 => if ds.length ≤ big then .ok (.tup ds) S1 else .bad
def fLst (ma : M (List D)) : M (List D) := fun env S => (ma env S).bind fun ds S1 => if ds.length ≤ big then .ok ds S1 else .bad
def tTupZ (t : TA) : TE := fun σ H Q => t σ H fun xs H1 => xs.length ≤ sizeLine ∧ ∀ p (o : Obj), H1 p = none → o.dict = none → Q (.ref p) (upd H1 p (.frz o (.tup xs)))
theorem pe_tupZ {x1} {t : TA} (h : PA X es t) : PE X (.Tuple es x1 pos) (tTupZ t) := by
  refine ⟨fun pins s σ H Q I hq => ?_⟩
  refine wpAny_Tuple_spliced (thn (h.run pos pins s σ H _ I hq) fun us s1 ⟨xs, H1, I1, r, z, q⟩ => ⟨by rw [← r.length]; exact z, ?_⟩)
  have hf : H1 s1.heap.objs.size = none := I1.hok.fresh (Nat.le_refl _)
  refine ⟨.ref s1.heap.objs.size, upd H1 s1.heap.objs.size (.frz { cls := .type "tuple", data := .seq us.toArray } (.tup xs)), I1.laid (t' := s1.toks) (fun b u e => Heap.get?_push_of_some _ e) (Nat.le_refl _) ?_, rfl, q _ _ hf rfl⟩
  exact ⟨Heap.get?_push_size _ rfl, z, us, r, ⟨_, Heap.get?_push_size _ rfl, rfl, _, rfl⟩⟩
theorem je_tup {x1} {ma : M (List D)} (ha : PA X es (tAr X.K cA W ma)) : PE X (.Tuple es x1 pos) (tE X.K cA W (eTup ma)) := by
  refine pe_imp (pe_tupZ ha) ?_
  rintro σ H Q ⟨G, ρ, env, S, hE, hS, h⟩
  refine ⟨G, ρ, env, S, hE, hS, Ok.bind h fun ds S1 vs ρ1 H1 r1 x1 k1 h1 => ?_⟩
  by_cases hl : ds.length ≤ big
  · rw [if_pos hl] at h1
    refine ⟨by rw [x1.length]; exact big_line hl, fun p o hp ho => ?_⟩
    have k2 : Keep G ρ1 H1 ρ1 (upd H1 p (.frz o (.tup vs))) := Keep.new hp r1.gt
    exact h1 _ ρ1 _ (r1.new hp ho) ⟨p, vs, rfl, .inr ⟨o, upd_same⟩, RepL.keep k2 ds vs x1⟩ k2
  · rw [if_neg hl] at h1
    exact h1.elim
theorem jf_lst {ma : M (List D)} (ha : PA X es (tAr X.K cA W ma)) : PE X (.List es pos) (tFr X.K cA W (fLst ma)) := by
  refine pe_imp (pe_lst ha) ?_
  rintro σ H Q ⟨G, ρ, env, S, hE, hS, h⟩
  refine ⟨G, ρ, env, S, hE, hS, OkF.bind h fun ds S1 vs ρ1 H1 r1 x1 k1 h1 => ?_⟩
  by_cases hl : ds.length ≤ big
  · rw [if_pos hl] at h1
    exact ⟨by rw [x1.length]; exact big_line hl, fun p hp => h1 p vs ρ1 H1 r1 x1 Keep.refl hp⟩
  · rw [if_neg hl] at h1
    exact h1.elim
end
end Rf

namespace Rf
open PySem PySem.Spec PyProof.Rows L2

def OkS (K : PySem.W.Frag) (cA : Nat → Addr) (W : WX) (G : Addr → Prop) (ρ : List Addr) (H : Hp) (D : Ends) : RS → Prop
  | .next e S' => ∀ σ' ρ' H', RelE K G ρ' H' e σ' → RelS K G ρ' S' H' → Keep G ρ H ρ' H' → D.nx σ' H'
  | .ret d S' => ∀ v ρ' H', RelS K G ρ' S' H' → Rep K G ρ' H' d v → Keep G ρ H ρ' H' → D.rt v H'
  | .brk e S' => ∀ σ' ρ' H', RelE K G ρ' H' e σ' → RelS K G ρ' S' H' → Keep G ρ H ρ' H' → D.bk σ' H'
  | .cont e S' => ∀ σ' ρ' H', RelE K G ρ' H' e σ' → RelS K G ρ' S' H' → Keep G ρ H ρ' H' → D.ct σ' H'
  | .err c e S' => ∀ σ' ρ' H', RelE K G ρ' H' e σ' → RelS K G ρ' S' H' → Keep G ρ H ρ' H' → W (.ref (cA c)) none σ' H'
  | .bad => False
def tS (K : PySem.W.Frag) (cA : Nat → Addr) (W : WX) (m : MS) : TS := fun D σ H => ∃ G ρ env S, RelE K G ρ H env σ ∧ RelS K G ρ S H ∧ OkS K cA W G ρ H D (m env S)
theorem OkS.keep {K : PySem.W.Frag} {cA : Nat → Addr} {W : WX} {G : Addr → Prop} {ρ ρ' : List Addr} {H H' : Hp} {D : Ends} {r : RS} (k : Keep G ρ H ρ' H') (h : OkS K cA W G ρ H D r) : OkS K cA W G ρ' H' D r := by
  cases r with
  | next e S => exact fun σ2 ρ2 H2 r1 r2 k2 => h σ2 ρ2 H2 r1 r2 (k.trans k2)
  | ret d S => exact fun v ρ2 H2 r1 r2 k2 => h v ρ2 H2 r1 r2 (k.trans k2)
  | brk e S => exact fun σ2 ρ2 H2 r1 r2 k2 => h σ2 ρ2 H2 r1 r2 (k.trans k2)
  | cont e S => exact fun σ2 ρ2 H2 r1 r2 k2 => h σ2 ρ2 H2 r1 r2 (k.trans k2)
  | err c e S => exact fun σ2 ρ2 H2 r1 r2 k2 => h σ2 ρ2 H2 r1 r2 (k.trans k2)
  | bad => exact h

def Res.then {α : Type} (r : Res α) (env : En) (f : α → Store → RS) : RS :=
  match r with
  | .ok a S => f a S
  | .err c S => .err c env S
  | .bad => .bad
@[simp] theorem then_ok {α : Type} (a : α) (S : Store) (env : En) (f : α → Store → RS) : (Res.ok a S).then env f = f a S := rfl
@[simp] theorem then_err {α : Type} (c : Nat) (S : Store) (env : En) (f : α → Store → RS) : (Res.err c S : Res α).then env f = .err c env S := rfl
@[simp] theorem then_bad {α : Type} (env : En) (f : α → Store → RS) : (Res.bad : Res α).then env f = .bad := rfl
section
variable {K : PySem.W.Frag} {G : Addr → Prop} {ρ ρ' : List Addr} {H H' : Hp} {cA : Nat → Addr} {W : WX}
theorem OkS.thn {α β : Type} {rel : List Addr → Hp → α → β → Prop} {r : Res α} {env : En} {σ : L2.St} {f : α → Store → RS} {D : Ends} {Q : β → Hp → Prop} (hE : RelE K G ρ H env σ)
    (h : OkS K cA W G ρ H D (r.then env f)) (n : ∀ a S' b ρ' H', RelS K G ρ' S' H' → rel ρ' H' a b → Keep G ρ H ρ' H' → OkS K cA W G ρ' H' D (f a S') → Q b H') : Ok K G rel ρ H r (WE' cA W σ) Q := by
  cases r with
  | ok a S => exact fun b ρ2 H2 r1 r2 k2 => n a S b ρ2 H2 r1 r2 k2 (h.keep k2)
  | err c S => exact fun ρ2 H2 r1 k2 => h σ ρ2 H2 (hE.keep k2) r1 k2
  | bad => exact h
end

section
variable {X : Cx} {st : Stmt} {rest : List Stmt} {e c : Expr} {pos : Pos} {cA : Nat → Addr} {W : WX}
def sNil : MS := fun env S => .next env S
def sSeq (m n : MS) : MS := fun env S => match m env S with
  | .next e S' => n e S'
  | r => r
theorem js_nil : PSs X [] (tS X.K cA W sNil) := pss_imp pss_nil fun D σ H ⟨G, ρ, env, S, hE, hS, h⟩ => h σ ρ H hE hS Keep.refl
theorem js_cons {m n : MS} (h1 : PS X st (tS X.K cA W m)) (h2 : PSs X rest (tS X.K cA W n)) : PSs X (st :: rest) (tS X.K cA W (sSeq m n)) := by
  refine pss_imp (pss_cons h1 h2) ?_
  rintro D σ H ⟨G, ρ, env, S, hE, hS, h⟩
  refine ⟨G, ρ, env, S, hE, hS, ?_⟩
  unfold sSeq at h
  revert h
  cases m env S with
  | next e S1 => exact fun h σ1 ρ1 H1 r1 r2 k => ⟨G, ρ1, e, S1, r1, r2, h.keep k⟩
  | ret d S1 => exact fun h => h
  | brk e S1 => exact fun h => h
  | cont e S1 => exact fun h => h
  | err c e S1 => exact fun h => h
  | bad => exact fun h => h
theorem js_one {m : MS} (h1 : PS X st (tS X.K cA W m)) : PSs X [st] (tS X.K cA W m) := pss_one h1
def sBad : MS := fun _ _ => .bad
theorem js_bad : PS X st (tS X.K cA W sBad) := ps_imp ps_never fun D σ H ⟨G, ρ, env, S, hE, hS, h⟩ => h
def sCl (l : List Nat) (m : MS) : MS := fun env S => match m env S with
  | .next e S' => .next (clr e l) S'
  | r => r
theorem js_cl (l : List Nat) {m : MS} (h1 : PS X st (tS X.K cA W m)) : PS X st (tS X.K cA W (sCl l m)) := by
  refine ps_imp h1 ?_
  rintro D σ H ⟨G, ρ, env, S, hE, hS, h⟩
  refine ⟨G, ρ, env, S, hE, hS, ?_⟩
  unfold sCl at h
  revert h
  cases m env S with
  | next e S1 => exact fun h σ1 ρ1 H1 r1 r2 k => h σ1 ρ1 H1 (r1.clr l) r2 k
  | ret d S1 => exact fun h => h
  | brk e S1 => exact fun h => h
  | cont e S1 => exact fun h => h
  | err c e S1 => exact fun h => h
  | bad => exact fun h => h
def sExpr (m : M D) : MS := fun env S => (m env S).then env fun _ S1 => .next env S1
theorem js_expr {m : M D} (he : PE X e (tE X.K cA W m)) (hs : swapsWith e none pos.line X.env = pure false := by rfl) : PS X (.Expr e pos) (tS X.K cA W (sExpr m)) := by
  refine ps_imp (ps_expr he hs) ?_
  rintro D σ H ⟨G, ρ, env, S, hE, hS, h⟩
  exact ⟨G, ρ, env, S, hE, hS, OkS.thn hE h fun d S1 v ρ1 H1 r1 x1 k1 h1 => h1 σ ρ1 H1 (hE.keep k1) r1 Keep.refl⟩
def sRet (m : M D) : MS := fun env S => (m env S).then env fun d S1 => .ret d S1
theorem js_ret {m : M D} (he : PE X e (tE X.K cA W m)) : PS X (.Return (some e) pos) (tS X.K cA W (sRet m)) := by
  refine ps_imp (ps_ret he) ?_
  rintro D σ H ⟨G, ρ, env, S, hE, hS, h⟩
  exact ⟨G, ρ, env, S, hE, hS, OkS.thn hE h fun d S1 v ρ1 H1 r1 x1 k1 h1 => h1 v ρ1 H1 r1 x1 Keep.refl⟩
def sIf (c : M Bool) (m n : MS) : MS := fun env S => (c env S).then env fun b S1 => if b = true then m env S1 else n env S1
theorem js_if {mc : M Bool} {m n : MS} {a b : List Stmt} (hc : PT X c (tT X.K cA W mc)) (ha : PSs X a (tS X.K cA W m)) (hb : PSs X b (tS X.K cA W n)) : PS X (.If c a b pos) (tS X.K cA W (sIf mc m n)) := by
  refine ps_imp (ps_if hc ha hb) ?_
  rintro D σ H ⟨G, ρ, env, S, hE, hS, h⟩
  refine ⟨G, ρ, env, S, hE, hS, OkS.thn hE h fun x S1 v ρ1 H1 r1 x1 k1 h1 => ?_⟩
  cases (show v = x from x1)
  cases x with
  | true => exact iteT ⟨G, ρ1, env, S1, hE.keep k1, r1, h1⟩
  | false => exact iteF ⟨G, ρ1, env, S1, hE.keep k1, r1, h1⟩
abbrev Pat := D → En → Option En
def tG (K : PySem.W.Frag) (p : Pat) : TG := fun v σ H Q => ∃ G ρ env d, RelE K G ρ H env σ ∧ Rep K G ρ H d v ∧ match p d env with
  | some env' => ∀ σ', RelE K G ρ H env' σ' → Q σ' H
  | none => False
abbrev Pats := List D → En → Option En
def tGs (K : PySem.W.Frag) (p : Pats) : TGs := fun vs σ H Q => ∃ G ρ env ds, RelE K G ρ H env σ ∧ RepL K G ρ H ds vs ∧ match p ds env with
  | some env' => ∀ σ', RelE K G ρ H env' σ' → Q σ' H
  | none => False
def pName (i : Nat) : Pat := fun d env => some (env.set i (some d))
def pNil : Pats := fun ds env => match ds with
  | [] => some env
  | _ => none
def pCons (p : Pat) (q : Pats) : Pats := fun ds env => match ds with
  | d :: r => (p d env).bind fun e => q r e
  | [] => none
def pTup (n : Nat) (q : Pats) : Pat := fun d env => match d with
  | .tup ds => if ds.length = n then q ds env else none
  | _ => none
theorem jg_name (i : Nat) {x : Str} (hN : X.N.Nodup) (hi : X.N[i]? = some x := by rfl) (hx : Loc X.env.scope x := by first | exact Or.inl rfl | exact Or.inr rfl) (hf : X.fn x = true ∨ X.env.scope.names.lookup x = some .local := by first | exact .inl rfl | exact .inr rfl | assumption) : PG X (.Name x pos) (tG X.K (pName i)) :=
  pg_imp (pg_name hN hi hx hf) fun v σ H Q ⟨G, ρ, env, d, hE, hd, h⟩ => h _ (hE.set hd)
theorem pgs_imp {es : List Expr} {t t' : TGs} (h : PGs X es t) (i : ∀ v σ H Q, t' v σ H Q → t v σ H Q) : PGs X es t' := ⟨fun pins s σ H v u Q I r hw => h.run pins s σ H v u Q I r (i v σ H Q hw)⟩
theorem jgs_nil : PGs X [] (tGs X.K pNil) := pgs_imp pgs_nil fun vs σ H Q ⟨G, ρ, env, ds, hE, hd, h⟩ => by
  cases ds with
  | nil => exact ⟨hd, h σ hE⟩
  | cons d r => exact h.elim
theorem jgs_cons {tg : Expr} {es : List Expr} {p : Pat} {q : Pats} (h1 : PG X tg (tG X.K p)) (h2 : PGs X es (tGs X.K q))
    (hs : (assignEach (tg :: es) X.env).map (·.2) = assign tg X.env :: (assignEach es X.env).map (·.2) := by rfl) : PGs X (tg :: es) (tGs X.K (pCons p q)) := by
  refine pgs_imp (pgs_cons h1 h2 hs) ?_
  rintro vs σ H Q ⟨G, ρ, env, ds, hE, hd, h⟩
  cases ds with
  | nil => exact h.elim
  | cons d r =>
    obtain ⟨v, vs', rfl, x1, x2⟩ := hd
    refine ⟨v, vs', rfl, G, ρ, env, d, hE, x1, ?_⟩
    revert h
    show (match (p d env).bind fun e => q r e with | some env' => ∀ σ', RelE X.K G ρ H env' σ' → Q σ' H | none => False) → _
    cases p d env with
    | none => exact fun h => h
    | some e1 => exact fun h σ1 hE1 => ⟨G, ρ, e1, r, hE1, x2, h⟩
theorem jg_tup {es : List Expr} {k : Nat} {n : Nat} {q : Pats} (hc : X.calm = true) (h : PGs X es (tGs X.K q)) (hn : (assignEach es X.env).length = n := by rfl) (hst : (assignEach es X.env).findIdx? (·.1) = none := by rfl) : PG X (.Tuple es k pos) (tG X.K (pTup n q)) := by
  refine pg_imp (pg_tup hc h hn hst) ?_
  rintro v σ H Q ⟨G, ρ, env, d, hE, hd, h⟩
  cases d with
  | tup ds =>
    obtain ⟨a, vs, rfl, x1, x2⟩ := hd
    have h : (match (if ds.length = n then q ds env else none) with | some env' => ∀ σ', RelE X.K G ρ H env' σ' → Q σ' H | none => False) := h
    by_cases hl : ds.length = n
    · rw [if_pos hl] at h
      exact ⟨a, vs, rfl, .inl x1, by rw [x2.length]; exact hl, G, ρ, env, ds, hE, x2, h⟩
    · rw [if_neg hl] at h
      exact h.elim
  | _ => exact h.elim
def sAsg (m : M D) (p : Pat) : MS := fun env S => (m env S).then env fun d S1 => match p d env with
  | some e' => .next e' S1
  | none => .bad
theorem asg_read {m : M D} {p : Pat} : ∀ D σ H, tS X.K cA W (sAsg m p) D σ H → tAsg (tE X.K cA W m) (tG X.K p) D σ H := by
  rintro D σ H ⟨G, ρ, env, S, hE, hS, h⟩
  refine ⟨G, ρ, env, S, hE, hS, OkS.thn hE h fun d S1 v ρ1 H1 r1 x1 k1 h1 => ⟨G, ρ1, env, d, hE.keep k1, x1, ?_⟩⟩
  revert h1
  cases p d env with
  | none => exact fun h => h
  | some e1 => exact fun h σ1 hE1 => h σ1 ρ1 H1 hE1 r1 Keep.refl
theorem js_asg {tg : Expr} {m : M D} {p : Pat} (he : PE X e (tE X.K cA W m)) (hg : PG X tg (tG X.K p)) (hs : swapsWithSole [tg] e pos.line X.env = pure false := by rfl) (hw : swappedStores [tg] e X.env = pure none := by rfl)
    (h1 : (assignEach [tg] X.env).map (·.2) = [assign tg X.env] := by rfl) : PS X (.Assign [tg] e pos) (tS X.K cA W (sAsg m p)) :=
  ps_imp (ps_asg he hg hs hw h1) asg_read
theorem js_set (i : Nat) {x : Str} {m : M D} {pos' : Pos} (hN : X.N.Nodup) (he : PE X e (tE X.K cA W m)) (hi : X.N[i]? = some x := by rfl) (hx : Loc X.env.scope x := by first | exact Or.inl rfl | exact Or.inr rfl) (hs : swapsWith e (some (.Name x pos')) pos.line X.env = pure false := by rfl)
    (hf : X.fn x = true ∨ X.env.scope.names.lookup x = some .local := by first | exact .inl rfl | exact .inr rfl | assumption) : PS X (.Assign [.Name x pos'] e pos) (tS X.K cA W (sAsg m (pName i))) := by
  refine ps_imp (ps_set hN hi hx he hs hf) ?_
  intro D σ H h
  obtain ⟨G, ρ, env, S, hE, hS, h⟩ := h
  refine ⟨G, ρ, env, S, hE, hS, OkS.thn hE h fun d S1 v ρ1 H1 r1 x1 k1 h1 => ?_⟩
  exact h1 _ ρ1 H1 ((hE.keep k1).set x1) r1 Keep.refl
def sSet (mv mo mi : M D) (f : D → D → D → Store → Option Store) : MS := fun env S => (mv env S).then env fun v S1 => (mo env S1).then env fun o S2 => (mi env S2).then env fun i S3 => match f o i v S3 with
  | some S4 => .next env S4
  | none => .bad
def SetD (K : PySem.W.Frag) (r : TSet) (f : D → D → D → Store → Option Store) : Prop :=
  ∀ G ρ H S do_ di dv o i v S', RelS K G ρ S H → Rep K G ρ H do_ o → Rep K G ρ H di i → Rep K G ρ H dv v → f do_ di dv S = some S' → ∀ Q : Hp → Prop, (∀ H', RelS K G ρ S' H' → Keep G ρ H ρ H' → Q H') → r o i v H Q
theorem js_sub {o i : Expr} {mv mo mi : M D} {r : TSet} {f : D → D → D → Store → Option Store} {pos' : Pos} (hv : PE X e (tE X.K cA W mv)) (ho : PE X o (tE X.K cA W mo)) (hi : PE X i (tE X.K cA W mi)) (hs : PSet X r) (hd : SetD X.K r f)
    (ha : ∀ v, assign (.Subscript o i pos') X.env v = (do
      let ov ← holding [v] (eval o X.env)
      let iv ← holding [v, ov] (eval i X.env)
      standAt pos'
      holding [v, ov, iv] (setItem ov iv v)
      release [v, ov, iv] []) := by intro _; rfl) (hsw : swapsWithSole [.Subscript o i pos'] e pos.line X.env = pure false := by rfl) (hw : swappedStores [.Subscript o i pos'] e X.env = pure none := by rfl)
    (h1 : (assignEach [.Subscript o i pos'] X.env).map (·.2) = [assign (.Subscript o i pos') X.env] := by rfl) : PS X (.Assign [.Subscript o i pos'] e pos) (tS X.K cA W (sSet mv mo mi f)) := by
  refine ps_imp (ps_asg hv (pg_sub ho hi hs ha) hsw hw h1) ?_
  rintro D σ H ⟨G, ρ, env, S, hE, hS, h⟩
  refine ⟨G, ρ, env, S, hE, hS, OkS.thn hE h fun dv S1 v ρ1 H1 r1 x1 k1 h1 => ?_⟩
  refine ⟨G, ρ1, env, S1, hE.keep k1, r1, OkS.thn (hE.keep k1) h1 fun d0 S2 o ρ2 H2 r2 x2 k2 h2 => ?_⟩
  refine ⟨G, ρ2, env, S2, (hE.keep k1).keep k2, r2, OkS.thn ((hE.keep k1).keep k2) h2 fun di S3 i ρ3 H3 r3 x3 k3 h3 => ?_⟩
  revert h3
  cases e4 : f d0 di dv S3 with
  | none => exact fun h => h.elim
  | some S4 =>
    intro h3
    exact hd G ρ3 H3 S3 d0 di dv o i v S4 r3 (Rep.keep k3 _ _ x2) x3 (Rep.keep (k2.trans k3) _ _ x1) e4 _ fun H4 r4 k4 => h3 σ ρ3 H4 (((hE.keep k1).keep k2).keep (k3.trans k4)) r4 k4
end
structure IT where
  ds : List D
  cells : List (Nat × List D)
def IT.chk (t : IT) (S : Store) : Prop := ∀ p ∈ t.cells, S[p.1]? = some (.lst p.2)
structure Keep2 (G : Addr → Prop) (ρ : List Addr) (H : Hp) (G' : Addr → Prop) (ρ' : List Addr) (H' : Hp) : Prop where
  pre : ∃ t, ρ' = ρ ++ t
  tup : ∀ a xs, Rd H a (.tup xs) → Rd H' a (.tup xs)
  lst : ∀ a xs, a ∉ ρ → ¬ G a → H a = some (.lst xs) → a ∉ ρ' ∧ ¬ G' a ∧ H' a = some (.lst xs)
  frz : ∀ a o u, H a = some (.frz o u) → H' a = some (.frz o u)
theorem Keep.two {G : Addr → Prop} {ρ ρ' : List Addr} {H H' : Hp} (k : Keep G ρ H ρ' H') : Keep2 G ρ H G ρ' H' := ⟨k.pre, k.tup, fun a xs h1 h2 h3 => let ⟨q1, q2⟩ := k.lst a xs h1 h2 h3; ⟨q1, h2, q2⟩, k.frz⟩
section
variable {K : PySem.W.Frag} {G G' : Addr → Prop} {ρ ρ' : List Addr} {H H' : Hp}
theorem Keep2.get (k : Keep2 G ρ H G' ρ' H') {n : Nat} {a : Addr} (h : ρ[n]? = some a) : ρ'[n]? = some a := by
  obtain ⟨t, rfl⟩ := k.pre
  have hn : n < ρ.length := (List.getElem?_eq_some_iff.mp h).1
  rw [List.getElem?_append_left hn]
  exact h
theorem Keep2.sqT (k : Keep2 G ρ H G' ρ' H') {a : Addr} {xs : List V} (h : SqT K H a xs) : SqT K H' a xs := by
  rcases h with h | h
  · exact .inl (k.tup a xs h)
  · exact .inr h
theorem Keep2.frL (k : Keep2 G ρ H G' ρ' H') {a : Addr} {xs : List V} (h : FrL G ρ H a xs) : FrL G' ρ' H' a xs :=
  k.lst a xs h.1 h.2.1 h.2.2
theorem Keep2.fzL (k : Keep2 G ρ H G' ρ' H') {a : Addr} {xs : List V} (h : FzL K H a xs) : FzL K H' a xs := by
  rcases h with ⟨o, h⟩ | h
  · exact .inl ⟨o, k.frz a o _ h⟩
  · exact .inr h
mutual
theorem Rep.keep2 (k : Keep2 G ρ H G' ρ' H') : ∀ (d : D) (v : V), Rep K G ρ H d v → Rep K G' ρ' H' d v
  | .non, _, h => h
  | .bl _, _, h => h
  | .int _, _, h => h
  | .str _, _, h => h
  | .ty _, _, h => h
  | .tup ds, v, h => by
    obtain ⟨a, vs, e, h1, h2⟩ := h
    exact ⟨a, vs, e, k.tup a vs h1, RepL.keep2 k ds vs h2⟩
  | .lst ds, v, h => by
    obtain ⟨a, vs, e, h1, h2⟩ := h
    exact ⟨a, vs, e, k.frL h1, RepL.keep2 k ds vs h2⟩
  | .fz ds, v, h => by
    obtain ⟨a, vs, e, h1, h2⟩ := h
    exact ⟨a, vs, e, k.fzL h1, RepL.keep2 k ds vs h2⟩
  | .cell n, v, h => by
    obtain ⟨a, e, h1⟩ := h
    exact ⟨a, e, k.get h1⟩
  | .exc _, _, h => ExV.keep k.frz h
  | .cl _, _, h => h
  | .dct _ ks ds, v, h => by
    obtain ⟨a, o, u, bs, vs, e, h1, h2, h3, h4⟩ := h
    exact ⟨a, o, u, bs, vs, e, k.frz a o u h1, h2, RepL.keep2 k ks bs h3, RepL.keep2 k ds vs h4⟩
theorem RepL.keep2 (k : Keep2 G ρ H G' ρ' H') : ∀ (ds : List D) (vs : List V), RepL K G ρ H ds vs → RepL K G' ρ' H' ds vs
  | [], _, h => h
  | d :: ds, vs, h => by
    obtain ⟨v, vs', e, h1, h2⟩ := h
    exact ⟨v, vs', e, Rep.keep2 k d v h1, RepL.keep2 k ds vs' h2⟩
end
theorem RepKV.keep2 (k : Keep2 G ρ H G' ρ' H') : ∀ (ds : List (D × D)) (vs : List DV), RepKV K G ρ H ds vs → RepKV K G' ρ' H' ds vs
  | [], _, h => h
  | (x, d) :: ds, vs, h => by
    obtain ⟨b, v, vs', e, h0, h3, h1, h2⟩ := h
    exact ⟨b, v, vs', e, h0, Rep.keep2 k x _ h3, Rep.keep2 k d v h1, RepKV.keep2 k ds vs' h2⟩
theorem RepF.keep2 (k : Keep2 G ρ H G' ρ' H') : ∀ (ds : List (Str × D)) (vs : List (Str × V)), RepF K G ρ H ds vs → RepF K G' ρ' H' ds vs
  | [], _, h => h
  | (x, d) :: ds, vs, h => by
    obtain ⟨v, vs', e, h1, h2⟩ := h
    exact ⟨v, vs', e, Rep.keep2 k d v h1, RepF.keep2 k ds vs' h2⟩
theorem RepKI.keep2 (k : Keep2 G ρ H G' ρ' H') : ∀ (ds : List (Int × D)) (vs : List (Key × V)), RepKI K G ρ H ds vs → RepKI K G' ρ' H' ds vs
  | [], _, h => h
  | (x, d) :: ds, vs, h => by
    obtain ⟨v, vs', e, h1, h2⟩ := h
    exact ⟨v, vs', e, Rep.keep2 k d v h1, RepKI.keep2 k ds vs' h2⟩
end
structure WD (K : PySem.W.Frag) (G : Addr → Prop) (ρ : List Addr) (H : Hp) (t : IT) (J : It) : Prop where
  go : ∀ G1 ρ1 S1 H1 i, Keep2 G ρ H G1 ρ1 H1 → RelS K G1 ρ1 S1 H1 → t.chk S1 → i < t.ds.length → J.go i H1
  stop : ∀ G1 ρ1 S1 H1, Keep2 G ρ H G1 ρ1 H1 → RelS K G1 ρ1 S1 H1 → t.chk S1 → J.stop t.ds.length H1
  yld : ∀ G1 ρ1 S1 H1 (i : Nat) d x H2, Keep2 G ρ H G1 ρ1 H1 → RelS K G1 ρ1 S1 H1 → t.chk S1 → t.ds[i]? = some d → J.yld i H1 x H2 → Rep K G1 ρ1 H2 d x ∧ Keep G1 ρ1 H1 ρ1 H2 ∧ RelS K G1 ρ1 S1 H2
def tI (K : PySem.W.Frag) (cA : Nat → Addr) (W : WX) (m : M IT) : TI := fun σ H R => ∃ G ρ env S, RelE K G ρ H env σ ∧ RelS K G ρ S H ∧ Ok K G (WD K G) ρ H (m env S) (WE' cA W σ) R
open Classical in
noncomputable def loopD (p : Pat) (body : MS) (dead : List Nat) (chk : Store → Prop) : List D → En → Store → RS
  | [], env, S => if chk S then .next env S else .bad
  | d :: ds, env, S => if chk S then (match p d env with
    | none => .bad
    | some e1 => match body e1 S with
      | .next e2 S2 => loopD p body dead chk ds (clr e2 dead) S2
      | .cont e2 S2 => loopD p body dead chk ds (clr e2 dead) S2
      | .brk e2 S2 => .next (clr e2 dead) S2
      | r => r) else .bad
noncomputable def sFor (m : M IT) (p : Pat) (body : MS) (dead : List Nat) : MS := fun env S => (m env S).then env fun t S1 => loopD p body dead t.chk t.ds (clr env dead) S1
section
variable {X : Cx} {e c tg : Expr} {pos : Pos} {cA : Nat → Addr} {W : WX}
theorem js_for {iter : Expr} {bd : List Stmt} {m : M IT} {p : Pat} {body : MS} (dead : List Nat) (hp : PassesOwn (model X.prog X.w) X.A X.env X.xe) (hc : X.calm = true) (hi : PI X tg iter (tI X.K cA W m)) (hg : PG X tg (tG X.K p)) (hb : PSs X bd (tS X.K cA W body))
    (hs : ∀ x, foldedSetIterable iter X.env x = pure x := by intro _; rfl) : PS X (.For tg iter bd [] pos) (tS X.K cA W (sFor m p body dead)) := by
  refine ps_imp (ps_for hp hc hi hg hb hs) ?_
  rintro D σ H ⟨G, ρ, env, S, hE, hS, h⟩
  refine ⟨G, ρ, env, S, hE, hS, OkS.thn hE h fun t S1 J ρ1 H1 r1 wd k1 h1 => ?_⟩
  let P : Nat → L2.St → Hp → Prop := fun i σ' H' => ∃ ρ' env' S', RelE X.K G ρ' H' env' σ' ∧ RelS X.K G ρ' S' H' ∧ Keep G ρ1 H1 ρ' H' ∧ OkS X.K cA W G ρ' H' D (loopD p body dead t.chk (t.ds.drop i) env' S')
  refine ⟨fun i m σ' H' => m = t.ds.length - i ∧ i ≤ t.ds.length ∧ P i σ' H', ⟨t.ds.length, rfl, Nat.zero_le _, ρ1, clr env dead, S1, (hE.keep k1).clr dead, r1, Keep.refl, h1⟩, ?_⟩
  rintro i m σ' H' ⟨rfl, hi, ρ2, env2, S2, e2, r2, k2, h2⟩
  by_cases hlt : i < t.ds.length
  · have hd : t.ds.drop i = t.ds[i] :: t.ds.drop (i + 1) := (List.getElem_cons_drop hlt).symm
    rw [hd] at h2
    unfold loopD at h2
    by_cases hch : t.chk S2
    · rw [if_pos hch] at h2
      refine .inr ⟨wd.go G ρ2 S2 H' i k2.two r2 hch hlt, P (i + 1), fun σ3 H3 q => ⟨t.ds.length - (i + 1), by omega, rfl, hlt, q⟩, fun x H3 hy => ?_⟩
      obtain ⟨x3, k3, r3⟩ := wd.yld G ρ2 S2 H' i t.ds[i] x H3 k2.two r2 hch (by rw [List.getElem?_eq_getElem hlt]) hy
      refine ⟨G, ρ2, env2, t.ds[i], e2.keep k3, x3, ?_⟩
      revert h2
      cases p t.ds[i] env2 with
      | none => exact fun h => h
      | some en1 =>
        intro h2 σ3 e3
        refine ⟨G, ρ2, en1, S2, e3, r3, ?_⟩
        have h2 := h2.keep k3
        revert h2
        show OkS X.K cA W G ρ2 H3 D (match body en1 S2 with | .next e2 S2 => _ | .cont e2 S2 => _ | .brk e2 S2 => _ | r => r) → _
        cases body en1 S2 with
        | next e4 S4 => exact fun h2 σ4 ρ4 H4 q1 q2 q3 => ⟨ρ4, _, S4, q1.clr dead, q2, (k2.trans k3).trans q3, h2.keep q3⟩
        | cont e4 S4 => exact fun h2 σ4 ρ4 H4 q1 q2 q3 => ⟨ρ4, _, S4, q1.clr dead, q2, (k2.trans k3).trans q3, h2.keep q3⟩
        | brk e4 S4 => exact fun h2 σ4 ρ4 H4 q1 q2 q3 => h2 σ4 ρ4 H4 (q1.clr dead) q2 q3
        | ret d S4 => exact fun h2 => h2
        | err c e4 S4 => exact fun h2 => h2
        | bad => exact fun h2 => h2
    · rw [if_neg hch] at h2
      exact h2.elim
  · have e : i = t.ds.length := by omega
    subst e
    rw [List.drop_length] at h2
    unfold loopD at h2
    by_cases hch : t.chk S2
    · rw [if_pos hch] at h2
      exact .inl ⟨wd.stop G ρ2 S2 H' k2.two r2 hch, h2 σ' ρ2 H' e2 r2 Keep.refl⟩
    · rw [if_neg hch] at h2
      exact h2.elim
end
end Rf

namespace Rf
open PySem PySem.Spec PyProof.Rows L2

section
variable {K : PySem.W.Frag} {G : Addr → Prop} {ρ ρ' t : List Addr} {H H' : Hp} {S S' : Store}
mutual
theorem Rep.below : ∀ (d : D) (v : V), Rep K G ρ H d v → below ρ.length d
  | .non, _, _ => trivial
  | .bl _, _, _ => trivial
  | .int _, _, _ => trivial
  | .str _, _, _ => trivial
  | .ty _, _, _ => trivial
  | .exc _, _, _ => trivial
  | .cl _, _, _ => trivial
  | .dct _ ks ds, v, h => by
    obtain ⟨a, o, u, bs, vs, e, h1, h2, h3, h4⟩ := h
    exact ⟨RepL.below ks bs h3, RepL.below ds vs h4⟩
  | .tup ds, v, h => by
    obtain ⟨a, vs, e, h1, h2⟩ := h
    exact RepL.below ds vs h2
  | .lst ds, v, h => by
    obtain ⟨a, vs, e, h1, h2⟩ := h
    exact RepL.below ds vs h2
  | .fz ds, v, h => by
    obtain ⟨a, vs, e, h1, h2⟩ := h
    exact RepL.below ds vs h2
  | .cell n, v, h => by
    obtain ⟨a, e, h1⟩ := h
    exact (List.getElem?_eq_some_iff.mp h1).1
theorem RepL.below : ∀ (ds : List D) (vs : List V), RepL K G ρ H ds vs → belowL ρ.length ds
  | [], _, _ => trivial
  | d :: ds, vs, h => by
    obtain ⟨v, vs', e, h1, h2⟩ := h
    exact ⟨Rep.below d v h1, RepL.below ds vs' h2⟩
end
mutual
theorem pure_below (n : Nat) : ∀ d : D, pureD d = true → below n d
  | .non, _ => trivial
  | .bl _, _ => trivial
  | .int _, _ => trivial
  | .str _, _ => trivial
  | .ty _, _ => trivial
  | .exc _, _ => trivial
  | .cl _, _ => trivial
  | .dct _ ks ds, h => by
    have h : (pureL ks && pureL ds) = true := h
    rw [Bool.and_eq_true] at h
    exact ⟨pureL_below n ks h.1, pureL_below n ds h.2⟩
  | .tup ds, h => pureL_below n ds h
  | .lst ds, h => pureL_below n ds h
  | .fz ds, h => pureL_below n ds h
  | .cell k, h => by cases h
theorem pureL_below (n : Nat) : ∀ ds : List D, pureL ds = true → belowL n ds
  | [], _ => trivial
  | d :: ds, h => by
    have h : (pureD d && pureL ds) = true := h
    rw [Bool.and_eq_true] at h
    exact ⟨pure_below n d h.1, pureL_below n ds h.2⟩
end
mutual
theorem Rep.sub {n : Nat} {ρ1 ρ2 : List Addr} (hn : ∀ i, i < n → ρ2[i]? = ρ1[i]?) (hm : ∀ a ∈ ρ2, a ∈ ρ1) : ∀ (d : D) (v : V), below n d → Rep K G ρ1 H d v → Rep K G ρ2 H d v
  | .non, _, _, h => h
  | .bl _, _, _, h => h
  | .int _, _, _, h => h
  | .str _, _, _, h => h
  | .ty _, _, _, h => h
  | .exc _, _, _, h => h
  | .cl _, _, _, h => h
  | .dct _ ks ds, v, b, h => by
    obtain ⟨a, o, u, bs, vs, e, h1, h2, h3, h4⟩ := h
    exact ⟨a, o, u, bs, vs, e, h1, h2, RepL.sub hn hm ks bs b.1 h3, RepL.sub hn hm ds vs b.2 h4⟩
  | .tup ds, v, b, h => by
    obtain ⟨a, vs, e, h1, h2⟩ := h
    exact ⟨a, vs, e, h1, RepL.sub hn hm ds vs b h2⟩
  | .lst ds, v, b, h => by
    obtain ⟨a, vs, e, h1, h2⟩ := h
    exact ⟨a, vs, e, ⟨fun z => h1.1 (hm _ z), h1.2⟩, RepL.sub hn hm ds vs b h2⟩
  | .fz ds, v, b, h => by
    obtain ⟨a, vs, e, h1, h2⟩ := h
    exact ⟨a, vs, e, h1, RepL.sub hn hm ds vs b h2⟩
  | .cell k, v, b, h => by
    obtain ⟨a, e, h1⟩ := h
    exact ⟨a, e, by rw [hn k b]; exact h1⟩
theorem RepL.sub {n : Nat} {ρ1 ρ2 : List Addr} (hn : ∀ i, i < n → ρ2[i]? = ρ1[i]?) (hm : ∀ a ∈ ρ2, a ∈ ρ1) : ∀ (ds : List D) (vs : List V), belowL n ds → RepL K G ρ1 H ds vs → RepL K G ρ2 H ds vs
  | [], _, _, h => h
  | d :: ds, vs, b, h => by
    obtain ⟨v, vs', e, h1, h2⟩ := h
    exact ⟨v, vs', e, Rep.sub hn hm d v b.1 h1, RepL.sub hn hm ds vs' b.2 h2⟩
end
mutual
theorem tupI_pure : ∀ d : D, tupI d = true → pureD d = true
  | .int i, _ => by unfold pureD; rfl
  | .tup ds, h => by unfold tupI at h; unfold pureD; exact tupIL_pure ds h
  | .non, _ => rfl
  | .bl _, _ => rfl
  | .str _, _ => rfl
  | .ty _, _ => rfl
  | .lst _, h => by unfold tupI at h; cases h
  | .fz _, h => by unfold tupI at h; cases h
  | .cell _, h => by unfold tupI at h; cases h
  | .exc _, _ => rfl
  | .cl _, _ => rfl
  | .dct _ _ _, h => by unfold tupI at h; cases h
theorem tupIL_pure : ∀ ds : List D, tupIL ds = true → pureL ds = true
  | [], _ => rfl
  | d :: ds, h => by
    unfold tupIL at h
    rw [Bool.and_eq_true] at h
    show (pureD d && pureL ds) = true
    rw [tupI_pure d h.1, tupIL_pure ds h.2]
    rfl
end
theorem RepKV.sub {n : Nat} {ρ1 ρ2 : List Addr} (hn : ∀ i, i < n → ρ2[i]? = ρ1[i]?) (hm : ∀ a ∈ ρ2, a ∈ ρ1) : ∀ (ds : List (D × D)) (vs : List DV), (∀ p ∈ ds, Rf.below n p.2) → RepKV K G ρ1 H ds vs → RepKV K G ρ2 H ds vs
  | [], _, _, h => h
  | (x, d) :: ds, vs, b, h => by
    obtain ⟨k, v, vs', e, h0, h3, h1, h2⟩ := h
    exact ⟨k, v, vs', e, h0, Rep.sub hn hm x _ (pure_below n x (tupI_pure x h0)) h3, Rep.sub hn hm d v (b (x, d) List.mem_cons_self) h1, RepKV.sub hn hm ds vs' (fun p hp => b p (List.mem_cons_of_mem _ hp)) h2⟩
theorem RepKI.sub {n : Nat} {ρ1 ρ2 : List Addr} (hn : ∀ i, i < n → ρ2[i]? = ρ1[i]?) (hm : ∀ a ∈ ρ2, a ∈ ρ1) : ∀ (ds : List (Int × D)) (vs : List (Key × V)), (∀ p ∈ ds, Rf.below n p.2) → RepKI K G ρ1 H ds vs → RepKI K G ρ2 H ds vs
  | [], _, _, h => h
  | (x, d) :: ds, vs, b, h => by
    obtain ⟨v, vs', e, h1, h2⟩ := h
    exact ⟨v, vs', e, Rep.sub hn hm d v (b (x, d) List.mem_cons_self) h1, RepKI.sub hn hm ds vs' (fun p hp => b p (List.mem_cons_of_mem _ hp)) h2⟩
theorem RepF.sub {n : Nat} {ρ1 ρ2 : List Addr} (hn : ∀ i, i < n → ρ2[i]? = ρ1[i]?) (hm : ∀ a ∈ ρ2, a ∈ ρ1) : ∀ (ds : List (Str × D)) (vs : List (Str × V)), (∀ p ∈ ds, Rf.below n p.2) → RepF K G ρ1 H ds vs → RepF K G ρ2 H ds vs
  | [], _, _, h => h
  | (x, d) :: ds, vs, b, h => by
    obtain ⟨v, vs', e, h1, h2⟩ := h
    exact ⟨v, vs', e, Rep.sub hn hm d v (b (x, d) List.mem_cons_self) h1, RepF.sub hn hm ds vs' (fun p hp => b p (List.mem_cons_of_mem _ hp)) h2⟩
theorem pre_get {i : Nat} (h : i < ρ.length) : ρ[i]? = (ρ ++ t)[i]? := by rw [List.getElem?_append_left h]
theorem Rep.cut (d : D) (v : V) (b : Rf.below ρ.length d) (h : Rep K G (ρ ++ t) H d v) : Rep K G ρ H d v := Rep.sub (fun _ hi => pre_get hi) (fun _ z => List.mem_append_left _ z) d v b h
theorem RepL.cut (d : List D) (v : List V) (b : belowL ρ.length d) (h : RepL K G (ρ ++ t) H d v) : RepL K G ρ H d v := RepL.sub (fun _ hi => pre_get hi) (fun _ z => List.mem_append_left _ z) d v b h
theorem RepKV.below : ∀ (ds : List (D × D)) (vs : List DV), RepKV K G ρ H ds vs → ∀ p ∈ ds, below ρ.length p.2
  | [], _, _, _, hp => nomatch hp
  | (x, d) :: ds, vs, h, p, hp => by
    obtain ⟨k, v, vs', e, h0, h3, h1, h2⟩ := h
    rcases List.mem_cons.mp hp with rfl | hp
    · exact Rep.below d v h1
    · exact RepKV.below ds vs' h2 p hp
theorem RepKI.below : ∀ (ds : List (Int × D)) (vs : List (Key × V)), RepKI K G ρ H ds vs → ∀ p ∈ ds, below ρ.length p.2
  | [], _, _, _, hp => nomatch hp
  | (x, d) :: ds, vs, h, p, hp => by
    obtain ⟨v, vs', e, h1, h2⟩ := h
    rcases List.mem_cons.mp hp with rfl | hp
    · exact Rep.below d v h1
    · exact RepKI.below ds vs' h2 p hp
theorem RepF.below : ∀ (ds : List (Str × D)) (vs : List (Str × V)), RepF K G ρ H ds vs → ∀ p ∈ ds, below ρ.length p.2
  | [], _, _, _, hp => nomatch hp
  | (x, d) :: ds, vs, h, p, hp => by
    obtain ⟨v, vs', e, h1, h2⟩ := h
    rcases List.mem_cons.mp hp with rfl | hp
    · exact Rep.below d v h1
    · exact RepF.below ds vs' h2 p hp
def stOk (S S' : Store) : Prop := S.length ≤ S'.length ∧ ∀ i, i < S.length → S'[i]? = S[i]? ∨ ∃ ob, S'[i]? = some ob ∧ ob.pure = true
theorem Keep.cut (k : Keep G ρ H ρ' H') : Keep G ρ H ρ H' := ⟨⟨[], by simp⟩, k.tup, fun a xs h1 h2 h3 => ⟨h1, (k.lst a xs h1 h2 h3).2⟩, k.frz, k.grd⟩
theorem st_below (r : RelS K G ρ S H) (st : stOk S S') {i : Nat} {o : Ob} (hi : i < S.length) (h1 : S'[i]? = some o) : (match o with | .lst ds => belowL ρ.length ds | .dK kvs => ∀ p ∈ kvs, Rf.below ρ.length p.2 | .dI kvs => ∀ p ∈ kvs, Rf.below ρ.length p.2 | .ins _ fs => ∀ p ∈ fs, Rf.below ρ.length p.2 | .dS fs => ∀ p ∈ fs, Rf.below ρ.length p.2 | .gone => True) := by
  rcases st.2 i hi with e | ⟨ob, e, hp⟩
  · rw [e] at h1
    obtain ⟨a, _, q0⟩ := r.at h1
    cases o with
    | lst ds => obtain ⟨vs, _, h⟩ := q0; exact RepL.below ds vs h
    | dK kvs => obtain ⟨vs, _, h⟩ := q0; exact RepKV.below kvs vs h
    | dI kvs => obtain ⟨vs, _, h⟩ := q0; exact RepKI.below kvs vs h
    | ins x fs => obtain ⟨vs, _, h⟩ := q0; exact RepF.below fs vs h
    | dS fs => obtain ⟨vs, _, h⟩ := q0; exact RepF.below fs vs h
    | gone => trivial
  · rw [e] at h1
    cases h1
    cases o with
    | lst ds => exact pureL_below _ ds hp
    | dK kvs => exact fun p hm => pure_below _ _ (List.all_eq_true.mp hp p hm)
    | dI kvs => exact fun p hm => pure_below _ _ (List.all_eq_true.mp hp p hm)
    | ins x fs => exact fun p hm => pure_below _ _ (List.all_eq_true.mp hp p hm)
    | dS fs => exact fun p hm => pure_below _ _ (List.all_eq_true.mp hp p hm)
    | gone => trivial
theorem RelS.cut (r : RelS K G ρ S H) (r' : RelS K G ρ' S' H') (k : Keep G ρ H ρ' H') (st : stOk S S') : RelS K G ρ (S'.take S.length) H' := by
  obtain ⟨t, rfl⟩ := k.pre
  refine ⟨by rw [List.length_take, r.len]; have := st.1; omega, r.nd, r.ng, fun a h => r'.gt a h, r'.tp, fun i o a h1 h2 => ?_⟩
  have hi : i < S.length := by rw [← r.len]; exact (List.getElem?_eq_some_iff.mp h2).1
  rw [List.getElem?_take_of_lt hi] at h1
  have h3 : (ρ ++ t)[i]? = some a := by rw [List.getElem?_append_left (by rw [r.len]; exact hi)]; exact h2
  have q := r'.ob i o a h1 h3
  have bl := st_below r st hi h1
  cases o with
  | lst ds => obtain ⟨vs, e, h⟩ := q; exact ⟨vs, e, RepL.cut ds vs bl h⟩
  | dK kvs => obtain ⟨vs, e, h⟩ := q; exact ⟨vs, e, RepKV.sub (fun _ hi => pre_get hi) (fun _ z => List.mem_append_left _ z) kvs vs bl h⟩
  | dI kvs => obtain ⟨vs, e, h⟩ := q; exact ⟨vs, e, RepKI.sub (fun _ hi => pre_get hi) (fun _ z => List.mem_append_left _ z) kvs vs bl h⟩
  | ins x fs => obtain ⟨vs, e, h⟩ := q; exact ⟨vs, e, RepF.sub (fun _ hi => pre_get hi) (fun _ z => List.mem_append_left _ z) fs vs bl h⟩
  | dS fs => obtain ⟨vs, e, h⟩ := q; exact ⟨vs, e, RepF.sub (fun _ hi => pre_get hi) (fun _ z => List.mem_append_left _ z) fs vs bl h⟩
  | gone => exact q
theorem RelS.cut1 (r : RelS K G ρ S H) (r' : RelS K G ρ' S' H') (k : Keep G ρ H ρ' H') (st : stOk S S') {j : Nat} {a : Addr} {ob : Ob} (hj : S.length ≤ j) (ha : ρ'[j]? = some a) (eo : S'[j]? = some ob) (hq : ob.pure = true) :
    RelS K G (ρ ++ [a]) (S'.take S.length ++ [ob]) H' ∧ Keep G ρ H (ρ ++ [a]) H' ∧ a ∉ ρ := by
  obtain ⟨t, et⟩ := k.pre
  have na : a ∉ ρ := fun hm => by
    obtain ⟨i, hi, ei⟩ := List.getElem_of_mem hm
    have hi' : i < ρ'.length := by rw [et, List.length_append]; omega
    have hj' : j < ρ'.length := (List.getElem?_eq_some_iff.mp ha).1
    have e1 : ρ'[i] = a := by
      have : ρ'[i]? = some a := by rw [et, List.getElem?_append_left hi, List.getElem?_eq_getElem hi, ei]
      exact (List.getElem?_eq_some_iff.mp this).2
    have e2 : ρ'[j] = a := (List.getElem?_eq_some_iff.mp ha).2
    have : i = j := (List.getElem_inj r'.nd).mp (e1.trans e2.symm)
    rw [r.len] at hi
    omega
  have ma : a ∈ ρ' := List.mem_of_getElem? ha
  have hsub : ∀ b ∈ ρ ++ [a], b ∈ ρ' := fun b hb => by
    rcases List.mem_append.mp hb with hb | hb
    · rw [et]; exact List.mem_append_left _ hb
    · simp at hb; rw [hb]; exact ma
  have hget : ∀ i, i < ρ.length → (ρ ++ [a])[i]? = ρ'[i]? := fun i hi => by rw [et, List.getElem?_append_left hi, List.getElem?_append_left hi]
  have k2 : Keep G ρ H (ρ ++ [a]) H' := by
    refine ⟨⟨[a], rfl⟩, k.tup, fun b xs h1 h2 h3 => ?_, k.frz, k.grd⟩
    obtain ⟨q1, q2⟩ := k.lst b xs h1 h2 h3
    exact ⟨fun hb => q1 (hsub b hb), q2⟩
  refine ⟨⟨?_, ?_, fun b hb => r'.ng b (hsub b hb), r'.gt, r'.tp, fun i o b h1 h2 => ?_⟩, k2, na⟩
  · rw [List.length_append, List.length_append, List.length_take, r.len]
    have := st.1
    simp
    omega
  · rw [List.nodup_append]
    refine ⟨r.nd, by simp, fun x hx y hy => ?_⟩
    rintro rfl
    simp at hy
    exact na (hy ▸ hx)
  · have lt : (S'.take S.length).length = S.length := by rw [List.length_take]; have := st.1; omega
    by_cases hi : i < S.length
    · rw [List.getElem?_append_left (by rw [lt]; exact hi), List.getElem?_take_of_lt hi] at h1
      rw [hget i (by rw [r.len]; exact hi)] at h2
      have q := r'.ob i o b h1 h2
      have bl := st_below r st hi h1
      cases o with
      | lst ds => obtain ⟨vs, e, h⟩ := q; exact ⟨vs, e, RepL.sub hget hsub ds vs bl h⟩
      | dK kvs => obtain ⟨vs, e, h⟩ := q; exact ⟨vs, e, RepKV.sub hget hsub kvs vs bl h⟩
      | dI kvs => obtain ⟨vs, e, h⟩ := q; exact ⟨vs, e, RepKI.sub hget hsub kvs vs bl h⟩
      | ins x fs => obtain ⟨vs, e, h⟩ := q; exact ⟨vs, e, RepF.sub hget hsub fs vs bl h⟩
      | dS fs => obtain ⟨vs, e, h⟩ := q; exact ⟨vs, e, RepF.sub hget hsub fs vs bl h⟩
      | gone => exact q
    · have hi' : i = S.length := by
        have := (List.getElem?_eq_some_iff.mp h1).1
        rw [List.length_append, lt] at this
        simp at this
        omega
      subst hi'
      rw [List.getElem?_append_right (by rw [lt]; exact Nat.le_refl _), lt] at h1
      simp at h1
      subst h1
      rw [← r.len, List.getElem?_append_right (Nat.le_refl _)] at h2
      simp at h2
      subst h2
      have q := r'.ob j _ a eo ha
      cases ob with
      | lst ds => obtain ⟨vs, e, h⟩ := q; exact ⟨vs, e, RepL.sub hget hsub ds vs (pureL_below _ ds hq) h⟩
      | dK kvs => obtain ⟨vs, e, h⟩ := q; exact ⟨vs, e, RepKV.sub hget hsub kvs vs (fun p hm => pure_below _ _ (List.all_eq_true.mp hq p hm)) h⟩
      | dI kvs => obtain ⟨vs, e, h⟩ := q; exact ⟨vs, e, RepKI.sub hget hsub kvs vs (fun p hm => pure_below _ _ (List.all_eq_true.mp hq p hm)) h⟩
      | ins x fs => obtain ⟨vs, e, h⟩ := q; exact ⟨vs, e, RepF.sub hget hsub fs vs (fun p hm => pure_below _ _ (List.all_eq_true.mp hq p hm)) h⟩
      | dS fs => obtain ⟨vs, e, h⟩ := q; exact ⟨vs, e, RepF.sub hget hsub fs vs (fun p hm => pure_below _ _ (List.all_eq_true.mp hq p hm)) h⟩
      | gone => exact q
end
inductive Mode where
  | val | own | raw
def unT (n : Nat) (S' : Store) : List D → Option (List D)
  | [] => some []
  | d :: r => match (if pureD d = true then some d else match d with
      | .cell j => if n ≤ j then (match S'[j]? with
        | some (.lst ds) => if pureL ds = true then some (.lst ds) else none
        | _ => none) else none
      | _ => none), unT n S' r with
    | some e, some es => some (e :: es)
    | _, _ => none
theorem unT_rep {K : PySem.W.Frag} {G : Addr → Prop} {ρ ρ' : List Addr} {H H' : Hp} {S S' : Store} (r : RelS K G ρ S H) (r' : RelS K G ρ' S' H') (k : Keep G ρ H ρ' H') (st : stOk S S') : ∀ (ds es : List D) (vs : List V), RepL K G ρ' H' ds vs → unT S.length S' ds = some es → RepL K G ρ H' es vs
  | [], es, vs, h, e => by cases e; exact h
  | d :: ds, es, vs, h, e => by
    obtain ⟨v, vs', rfl, h1, h2⟩ := h
    unfold unT at e
    split at e
    · rename_i x xs e1 e2
      cases e
      refine ⟨v, vs', rfl, ?_, unT_rep r r' k st ds xs vs' h2 e2⟩
      obtain ⟨t, et⟩ := k.pre
      by_cases hp : pureD d = true
      · rw [if_pos hp] at e1
        cases e1
        rw [et] at h1
        exact Rep.cut d v (pure_below _ d hp) h1
      · rw [if_neg hp] at e1
        cases d with
        | cell j =>
          dsimp only at e1
          by_cases hj : S.length ≤ j
          · rw [if_pos hj] at e1
            obtain ⟨a, rfl, ha⟩ := h1
            cases eo : S'[j]? with
            | none => rw [eo] at e1; cases e1
            | some o =>
              rw [eo] at e1
              cases o with
              | dK kvs => cases e1
              | dI kvs => cases e1
              | ins x fs => cases e1
              | dS fs => cases e1
              | gone => cases e1
              | lst ds =>
                dsimp only at e1
                by_cases hq : pureL ds = true
                · rw [if_pos hq] at e1
                  cases e1
                  obtain ⟨ws, e, q⟩ := r'.ob j _ a eo ha
                  obtain ⟨_, _, na⟩ := r.cut1 r' k st hj ha eo hq
                  rw [et] at q
                  exact ⟨a, ws, rfl, ⟨na, r'.ng a (List.mem_of_getElem? ha), e⟩, RepL.cut ds ws (pureL_below _ ds hq) q⟩
                · rw [if_neg hq] at e1; cases e1
          · rw [if_neg hj] at e1; cases e1
        | _ => cases e1
    · cases e
open Classical in
noncomputable def fin (md : Mode) (S : Store) (d : D) (S' : Store) : Res D :=
  if stOk S S' then
    match md with
    | .val => if pureD d = true then .ok d (S'.take S.length) else match d with
      | .cell j => if S.length ≤ j then (match S'[j]? with
        | some (.lst ds) => if pureL ds = true then .ok (.lst ds) (S'.take S.length) else .bad
        | _ => .bad) else .bad
      | .tup ds => (match unT S.length S' ds with
        | some es => .ok (.tup es) (S'.take S.length)
        | none => .bad)
      | _ => .bad
    | .own => match d with
      | .cell j => if S.length ≤ j then (match S'[j]? with
        | some (.lst ds) => if pureL ds = true then .ok (.cell S.length) (S'.take S.length ++ [.lst ds]) else .bad
        | some (.dI kvs) => if (Ob.dI kvs).pure = true then .ok (.cell S.length) (S'.take S.length ++ [.dI kvs]) else .bad
        | some (.dK kvs) => if (Ob.dK kvs).pure = true then .ok (.cell S.length) (S'.take S.length ++ [.dK kvs]) else .bad
        | _ => .bad) else .bad
      | _ => .bad
    | .raw => .ok d S'
  else .bad
theorem fin_ok {K : PySem.W.Frag} {G : Addr → Prop} {ρ ρ' : List Addr} {H H' : Hp} {S S' : Store} {md : Mode} {d : D} {v : V} {E : Nat → Hp → Prop} {Q : VK} (h : Ok K G (Rep K G) ρ H (fin md S d S') E Q) (r : RelS K G ρ S H) (r' : RelS K G ρ' S' H') (x : Rep K G ρ' H' d v) (k : Keep G ρ H ρ' H') : Q v H' := by
  unfold fin at h
  by_cases st : stOk S S'
  · rw [if_pos st] at h
    have rc := r.cut r' k st
    obtain ⟨t, et⟩ := k.pre
    cases md with
    | val =>
      dsimp only at h
      by_cases hp : pureD d = true
      · rw [if_pos hp] at h
        refine h v ρ H' rc ?_ k.cut
        rw [et] at x
        exact Rep.cut d v (pure_below _ d hp) x
      · rw [if_neg hp] at h
        cases d with
        | cell j =>
          dsimp only at h
          by_cases hj : S.length ≤ j
          · rw [if_pos hj] at h
            obtain ⟨a, rfl, ha⟩ := x
            cases eo : S'[j]? with
            | none => rw [eo] at h; exact h.elim
            | some o =>
              rw [eo] at h
              cases o with
              | dK kvs => exact h.elim
              | dI kvs => exact h.elim
              | ins x fs => exact h.elim
              | dS fs => exact h.elim
              | gone => exact h.elim
              | lst ds =>
                dsimp only at h
                by_cases hq : pureL ds = true
                · rw [if_pos hq] at h
                  obtain ⟨vs, e, q⟩ := r'.ob j _ a eo ha
                  obtain ⟨_, _, na⟩ := r.cut1 r' k st hj ha eo hq
                  refine h (.ref a) ρ H' rc ⟨a, vs, rfl, ⟨na, r'.ng a (List.mem_of_getElem? ha), e⟩, ?_⟩ k.cut
                  rw [et] at q
                  exact RepL.cut ds vs (pureL_below _ ds hq) q
                · rw [if_neg hq] at h; exact h.elim
          · rw [if_neg hj] at h; exact h.elim
        | tup ds =>
          dsimp only at h
          cases eu : unT S.length S' ds with
          | none => rw [eu] at h; exact h.elim
          | some es =>
            rw [eu] at h
            obtain ⟨a, vs, rfl, h1, h2⟩ := x
            exact h (.ref a) ρ H' rc ⟨a, vs, rfl, h1, unT_rep r r' k st ds es vs h2 eu⟩ k.cut
        | _ => exact h.elim
    | own =>
      cases d with
      | cell j =>
        dsimp only at h
        by_cases hj : S.length ≤ j
        · rw [if_pos hj] at h
          obtain ⟨a, rfl, ha⟩ := x
          cases eo : S'[j]? with
          | none => rw [eo] at h; exact h.elim
          | some o =>
            rw [eo] at h
            cases o with
            | dK kvs =>
              dsimp only at h
              by_cases hq : (Ob.dK kvs).pure = true
              · rw [if_pos hq] at h
                obtain ⟨q1, q2, q3⟩ := r.cut1 r' k st hj ha eo hq
                refine h (.ref a) (ρ ++ [a]) H' q1 ⟨a, rfl, ?_⟩ q2
                rw [← r.len, List.getElem?_append_right (Nat.le_refl _)]
                simp
              · rw [if_neg hq] at h; exact h.elim
            | dI kvs =>
              dsimp only at h
              by_cases hq : (Ob.dI kvs).pure = true
              · rw [if_pos hq] at h
                obtain ⟨q1, q2, q3⟩ := r.cut1 r' k st hj ha eo hq
                refine h (.ref a) (ρ ++ [a]) H' q1 ⟨a, rfl, ?_⟩ q2
                rw [← r.len, List.getElem?_append_right (Nat.le_refl _)]
                simp
              · rw [if_neg hq] at h; exact h.elim
            | ins x fs => exact h.elim
            | dS fs => exact h.elim
            | gone => exact h.elim
            | lst ds =>
              dsimp only at h
              by_cases hq : pureL ds = true
              · rw [if_pos hq] at h
                obtain ⟨q1, q2, q3⟩ := r.cut1 r' k st hj ha eo hq
                refine h (.ref a) (ρ ++ [a]) H' q1 ⟨a, rfl, ?_⟩ q2
                rw [← r.len, List.getElem?_append_right (Nat.le_refl _)]
                simp
              · rw [if_neg hq] at h; exact h.elim
        · rw [if_neg hj] at h; exact h.elim
      | _ => exact h.elim
    | raw => exact h v ρ' H' r' x k
  · rw [if_neg st] at h
    exact h.elim
open Classical in
noncomputable def runFn (md : Mode) (N : Nat) (body : MS) : List D → Store → Res D := fun ds S =>
  match body (ds.map some ++ List.replicate (N - ds.length) none) S with
  | .ret d S' => fin md S d S'
  | .next _ S' => fin md S .non S'
  | .err c _ S' => if stOk S S' then .err c (S'.take S.length) else .bad
  | _ => .bad
def spF (K : PySem.W.Frag) (cA : Nat → Addr) (n : Nat) (F : List D → Store → Res D) : Sp := fun vs H Q E => vs.length = n ∧ ∃ G ρ S ds, RelS K G ρ S H ∧ RepL K G ρ H ds vs ∧ Ok K G (Rep K G) ρ H (F ds S) (fun c H' => E (.ref (cA c)) none H') Q
theorem start_rel {K : PySem.W.Frag} {G : Addr → Prop} {ρ : List Addr} {H : Hp} {ds : List D} {vs : List V} (N : List Str) (h : RepL K G ρ H ds vs) : RelE K G ρ H (ds.map some ++ List.replicate (N.length - ds.length) none) (L2.start N vs) := by
  unfold L2.start
  have hl := h.length
  refine ⟨by simp [hl], fun i d e => ?_⟩
  by_cases hi : i < ds.length
  · rw [List.getElem?_append_left (by simpa using hi), List.getElem?_map] at e
    cases ed : ds[i]? with
    | none => rw [ed] at e; cases e
    | some d0 =>
      rw [ed] at e
      have e : some d0 = some d := by simpa using e
      cases e
      obtain ⟨v, h1, h2⟩ := h.get ed
      exact ⟨v, by rw [List.getElem?_append_left (by rw [List.length_map, hl]; exact hi), List.getElem?_map, h1]; rfl, h2⟩
  · rw [List.getElem?_append_right (by simpa using hi)] at e
    rw [List.getElem?_replicate] at e
    split at e <;> cases e
section
variable {P : Program} {w : World} {K : PySem.W.Frag} {mg : Str → Option Value} {base : Heap} {cA : Nat → Addr}
abbrev WF (E : XK) : WX := fun c d _ H => E c d H
theorem fn_ok {x qual : Str} {st : Stmt} {f : Addr} {fd : FuncData} {N ps : List Str} {k : Nat} {md : Mode} {body : MS} (F : Fun K x qual st f fd) (Sc : FnScope N ps (defScope st))
    (hb : ∀ (cdv : Value) (A : Around) (outer : List Env) (s : Shared) (H : Hp) (E : XK), RoomG k (A.deeper (envOfC qual (defScope st) s.heap.objs.size f cdv)) →
      PSs (cxOf (L2.CX P w) P w K mg base N qual (defScope st) f cdv A outer s H E) (defBody st) (tS K cA (WF E) body)) :
    FnOkG P w K mg base (L2.CX P w) (k + 1) f fd ps (spF K cA ps.length (runFn md N.length body)) := by
  refine fn_ofG F Sc (fun vs H Q E h => h.1) (fun cdv A outer s H vs Q E hr h => ⟨_, hb cdv A outer s H E hr, ?_⟩)
  obtain ⟨hl, G, ρ, S, ds, hS, hd, h⟩ := h
  refine ⟨G, ρ, _, S, start_rel N hd, hS, ?_⟩
  unfold runFn at h
  revert h
  cases body (ds.map some ++ List.replicate (N.length - ds.length) none) S with
  | next e S1 => exact fun h σ' ρ' H' q1 q2 q3 => fin_ok h hS q2 (show Rep K G ρ' H' .non .non from rfl) q3
  | ret d S1 => exact fun h v ρ' H' q1 q2 q3 => fin_ok h hS q1 q2 q3
  | brk e S1 => exact fun h => h.elim
  | cont e S1 => exact fun h => h.elim
  | err c e S1 =>
    intro h σ' ρ' H' q1 q2 q3
    dsimp only at h
    by_cases st : stOk S S1
    · rw [if_pos st] at h
      exact h ρ H' (hS.cut q2 q3 st) q3.cut
    · rw [if_neg st] at h
      exact h.elim
  | bad => exact fun h => h
end
section
variable {X : Cx} {e : Expr} {es : List Expr} {pos p : Pos} {cA : Nat → Addr} {W : WX} {x : Str}
def eCall (n : Nat) (F : List D → Store → Res D) (ma : M (List D)) : M D := fun env S => (ma env S).bind fun xs S1 => if xs.length = n then F xs S1 else .bad
theorem je_call {k n : Nat} {f : Addr} {fd : FuncData} {ps : List Str} {Fm : List D → Store → Res D} {ma : M (List D)} (F : FnOkG X.prog X.w X.K X.mg X.base (L2.CX X.prog X.w) k f fd ps (spF X.K cA n Fm)) (hr : RoomG k X.A) (hg : Gl X x) (hm : X.mg x = some (.ref f)) (hk : PySem.W.keepIn X.K (.ref f) = true) (hb : Binds X.K fd ps []) (tk : Takes X W)
    (ha : PA X (e :: es) (tAr X.K cA W ma)) (hdb : (x == ("__debug__" : Str)) = false := by decide) (he : starEach (e :: es) X.env = (false, eval e X.env) :: starEach es X.env := by rfl) (hpl : (backTo pos (starEach es X.env)).any (·.1) = false := by rfl) :
    PE X (.Call (.Name x p) (e :: es) [] pos) (tE X.K cA W (eCall n Fm ma)) := by
  refine pe_imp (pe_callG (E := WE W) F hr hg hm hk hb (fun σ => passAt tk σ) ha hdb he hpl) ?_
  rintro σ H Q ⟨G, ρ, env, S, hE, hS, h⟩
  refine ⟨G, ρ, env, S, hE, hS, Ok.bind h fun ds S1 vs ρ1 H1 r1 x1 k1 h1 => ?_⟩
  by_cases hl : ds.length = n
  · rw [if_pos hl] at h1
    exact ⟨by rw [x1.length]; exact hl, G, ρ1, S1, ds, r1, x1, h1⟩
  · rw [if_neg hl] at h1
    exact h1.elim
end
end Rf

namespace Rf
open PySem PySem.Spec PyProof.Rows L2

def era (H : Hp) (d : Addr) : Hp := fun b => if b = d then none else H b
def gAnd (G : Addr → Prop) (d : Addr) : Addr → Prop := fun a => G a ∨ a = d
section
variable {K : PySem.W.Frag} {G : Addr → Prop} {ρ ρ' : List Addr} {H H' : Hp} {d : Addr} {S S' : Store}
theorem era_same : era H d d = none := by unfold era; rw [if_pos rfl]
theorem era_ne {b : Addr} (h : b ≠ d) : era H d b = H b := by unfold era; rw [if_neg h]
theorem era_some {b : Addr} {o : HO} (h : era H d b = some o) : b ≠ d ∧ H b = some o := by
  by_cases e : b = d
  · subst e; rw [era_same] at h; cases h
  · exact ⟨e, by rw [era_ne e] at h; exact h⟩
theorem upd_era {o : HO} (h : H d = some o) : upd (era H d) d o = H := by
  funext b
  by_cases e : b = d
  · subst e; rw [upd_same, h]
  · rw [upd_ne e, era_ne e]
theorem era_upd {o : HO} : era (upd H d o) d = era H d := by
  funext b
  by_cases e : b = d
  · subst e; rw [era_same, era_same]
  · rw [era_ne e, era_ne e, upd_ne e]
theorem era_none (h : H d = none) : era H d = H := by
  funext b
  by_cases e : b = d
  · subst e; rw [era_same, h]
  · rw [era_ne e]
theorem up2 {o : HO} (h : H d = some o) : Keep2 G ρ (era H d) (gAnd G d) ρ H := by
  refine ⟨⟨[], by simp⟩, fun a xs r => ?_, fun a xs h1 h2 h3 => ?_, fun a o u r => (era_some r).2⟩
  · rcases r with r | ⟨o, r⟩
    · exact .inl (era_some r).2
    · exact .inr ⟨o, (era_some r).2⟩
  · obtain ⟨e1, e2⟩ := era_some h3
    exact ⟨h1, fun q => q.elim h2 e1, e2⟩
theorem down2 {vs : List V} (h : H d = some (.lst vs)) : Keep2 (gAnd G d) ρ H G ρ (era H d) := by
  refine ⟨⟨[], by simp⟩, fun a xs r => ?_, fun a xs h1 h2 h3 => ?_, fun a o u r => ?_⟩
  · have ne : a ≠ d := fun e => by
      subst e
      rcases r with r | ⟨o, r⟩
      · rw [h] at r; cases r
      · rw [h] at r; cases r
    rcases r with r | ⟨o, r⟩
    · exact .inl (by rw [era_ne ne]; exact r)
    · exact .inr ⟨o, by rw [era_ne ne]; exact r⟩
  · have ne : a ≠ d := fun e => h2 (.inr e)
    exact ⟨h1, fun g => h2 (.inl g), by rw [era_ne ne]; exact h3⟩
  · have ne : a ≠ d := fun e => by subst e; rw [h] at r; cases r
    rw [era_ne ne]; exact r
theorem RelS.up {o : HO} (r : RelS K G ρ S (era H d)) (h : H d = some o) (ho : okO o := by exact True.intro) : RelS K (gAnd G d) ρ S H := by
  have nd := r.fresh (p := d) era_same
  refine ⟨r.len, r.nd, fun a ha q => q.elim (r.ng a ha) fun e => nd (e ▸ ha), fun a q => ?_, fun a u e => ?_, fun i o' a h1 h2 => ?_⟩
  · rcases q with q | q
    · obtain ⟨u, e⟩ := r.gt a q
      exact ⟨u, (era_some e).2⟩
    · exact ⟨o, by rw [q]; exact h⟩
  · by_cases z : a = d
    · subst z; rw [h] at e; cases e; exact ho
    · exact r.tp a u (by rw [era_ne z]; exact e)
  · have q := r.ob i o' a h1 h2
    cases o' with
    | lst ds => obtain ⟨vs, e, x⟩ := q; exact ⟨vs, (era_some e).2, RepL.keep2 (up2 h) ds vs x⟩
    | dK kvs => obtain ⟨vs, e, x⟩ := q; exact ⟨vs, (era_some e).2, RepKV.keep2 (up2 h) kvs vs x⟩
    | dI kvs => obtain ⟨vs, e, x⟩ := q; exact ⟨vs, (era_some e).2, RepKI.keep2 (up2 h) kvs vs x⟩
    | ins x0 fs => obtain ⟨vs, ⟨C, dx, e, hC⟩, x⟩ := q; exact ⟨vs, ⟨C, dx, (era_some e).2, hC⟩, RepF.keep2 (up2 h) fs vs x⟩
    | dS fs => obtain ⟨vs, e, x⟩ := q; exact ⟨vs, (era_some e).2, RepF.keep2 (up2 h) fs vs x⟩
    | gone => obtain ⟨u, e⟩ := q; exact ⟨u, (era_some e).2⟩
theorem RelS.down {vs : List V} (r : RelS K (gAnd G d) ρ S H) (h : H d = some (.lst vs)) (hd : ¬ G d) : RelS K G ρ S (era H d) := by
  refine ⟨r.len, r.nd, fun a ha g => r.ng a ha (.inl g), fun a g => ?_, fun a u e => r.tp a u (era_some e).2, fun i o' a h1 h2 => ?_⟩
  · obtain ⟨u, e⟩ := r.gt a (.inl g)
    exact ⟨u, by rw [era_ne (fun (z : a = d) => hd (z ▸ g))]; exact e⟩
  · have ne : a ≠ d := fun e => r.ng a (List.mem_of_getElem? h2) (.inr e)
    have q := r.ob i o' a h1 h2
    cases o' with
    | lst ds => obtain ⟨vs, e, x⟩ := q; exact ⟨vs, by rw [era_ne ne]; exact e, RepL.keep2 (down2 h) ds vs x⟩
    | dK kvs => obtain ⟨vs, e, x⟩ := q; exact ⟨vs, by rw [era_ne ne]; exact e, RepKV.keep2 (down2 h) kvs vs x⟩
    | dI kvs => obtain ⟨vs, e, x⟩ := q; exact ⟨vs, by rw [era_ne ne]; exact e, RepKI.keep2 (down2 h) kvs vs x⟩
    | ins x0 fs => obtain ⟨vs, ⟨C, dx, e, hC⟩, x⟩ := q; exact ⟨vs, ⟨C, dx, by rw [era_ne ne]; exact e, hC⟩, RepF.keep2 (down2 h) fs vs x⟩
    | dS fs => obtain ⟨vs, e, x⟩ := q; exact ⟨vs, by rw [era_ne ne]; exact e, RepF.keep2 (down2 h) fs vs x⟩
    | gone => obtain ⟨u, e⟩ := q; exact ⟨u, by rw [era_ne ne]; exact e⟩
theorem RelE.keep2 {G' : Addr → Prop} {env : En} {σ : L2.St} (k : Keep2 G ρ H G' ρ' H') (r : RelE K G ρ H env σ) : RelE K G' ρ' H' env σ :=
  ⟨r.len, fun i d h => let ⟨v, h1, h2⟩ := r.get i d h; ⟨v, h1, Rep.keep2 k d v h2⟩⟩
theorem Keep.down {vs : List V} (k : Keep (gAnd G d) ρ H ρ' H') (h : H d = some (.lst vs)) (hd : ¬ G d) : Keep G ρ (era H d) ρ' (era H' d) := by
  have h' : H' d = some (.lst vs) := by rw [k.grd d (.inr rfl)]; exact h
  refine ⟨k.pre, fun a xs r => ?_, fun a xs h1 h2 h3 => ?_, fun a o u r => ?_, fun a g => ?_⟩
  · rcases r with r | ⟨o, r⟩
    · obtain ⟨e1, e2⟩ := era_some r
      rcases k.tup a xs (.inl e2) with q | ⟨o, q⟩
      · exact .inl (by rw [era_ne e1]; exact q)
      · exact .inr ⟨o, by rw [era_ne e1]; exact q⟩
    · obtain ⟨e1, e2⟩ := era_some r
      rcases k.tup a xs (.inr ⟨o, e2⟩) with q | ⟨o, q⟩
      · exact .inl (by rw [era_ne e1]; exact q)
      · exact .inr ⟨o, by rw [era_ne e1]; exact q⟩
  · obtain ⟨e1, e2⟩ := era_some h3
    obtain ⟨q1, q2⟩ := k.lst a xs h1 (fun q => q.elim h2 e1) e2
    exact ⟨q1, by rw [era_ne e1]; exact q2⟩
  · obtain ⟨e1, e2⟩ := era_some r
    rw [era_ne e1]
    exact k.frz a o u e2
  · have ne : a ≠ d := fun e => hd (e ▸ g)
    rw [era_ne ne, era_ne ne]
    exact k.grd a (.inl g)
end
def tGo (K : PySem.W.Frag) (p : Pat) (own : List Nat) : TG := fun v σ H Q => ∃ G ρ env d, RelE K G ρ H env σ ∧ Rep K G ρ H d v ∧ match p d env with
  | some env' => ∀ σ', RelE K G ρ H env' σ' → wipe σ' own = wipe σ own → Q σ' H
  | none => False
theorem set_comm' {α : Type} (l : List α) (i j : Nat) (a b : α) (h : i ≠ j) : (l.set i a).set j b = (l.set j b).set i a := List.set_comm _ _ h
theorem wipe_set {σ : L2.St} {i : Nat} {v : Option V} : ∀ {own : List Nat}, i ∈ own → wipe (σ.set i v) own = wipe σ own
  | [], h => nomatch h
  | j :: r, h => by
    unfold wipe
    by_cases e : i ∈ r
    · rw [wipe_set e]
    · have : i = j := by
        rcases List.mem_cons.mp h with h | h
        · exact h
        · exact absurd h e
      subst this
      have key : ∀ (r : List Nat) (σ : L2.St), i ∉ r → wipe (σ.set i v) r = (wipe σ r).set i v := by
        intro r
        induction r with
        | nil => intro σ _; rfl
        | cons k r ih =>
          intro σ hn
          unfold wipe
          rw [ih σ (fun z => hn (List.mem_cons_of_mem _ z))]
          exact set_comm' _ _ _ _ _ (fun z => hn (z ▸ List.mem_cons_self))
      rw [key r σ e, List.set_set]
theorem wipe_sub {σ : L2.St} {own : List Nat} : ∀ l : List Nat, (∀ i ∈ l, i ∈ own) → wipe (wipe σ l) own = wipe σ own
  | [], _ => rfl
  | i :: l, h => by
    show wipe ((wipe σ l).set i none) own = _
    rw [wipe_set (h i List.mem_cons_self)]
    exact wipe_sub l fun j hj => h j (List.mem_cons_of_mem _ hj)
theorem wipe_wipe {σ : L2.St} {own : List Nat} : wipe (wipe σ own) own = wipe σ own := wipe_sub own fun _ h => h
section
variable {X : Cx} {pos : Pos} {own : List Nat}
theorem jgo_name (i : Nat) {x : Str} (hN : X.N.Nodup) (ho : i ∈ own := by decide) (hi : X.N[i]? = some x := by rfl) (hx : Loc X.env.scope x := by first | exact Or.inl rfl | exact Or.inr rfl) (hf : X.fn x = true ∨ X.env.scope.names.lookup x = some .local := by first | exact .inl rfl | exact .inr rfl | assumption) : PG X (.Name x pos) (tGo X.K (pName i) own) :=
  pg_imp (pg_name hN hi hx hf) fun v σ H Q ⟨G, ρ, env, d, hE, hd, h⟩ => h _ (hE.set hd) (wipe_set ho)
end
open Classical in
noncomputable def compD (p : Pat) (mt : M Bool) (me : M D) (chk : Store → Prop) (env : En) : List D → Store → Res (List D)
  | [], S => if chk S then .ok [] S else .bad
  | d :: ds, S => if chk S then (match p d env with
    | none => .bad
    | some e1 => match mt e1 S with
      | .ok true S1 => (match me e1 S1 with
        | .ok x S2 => (compD p mt me chk env ds S2).bind fun xs S3 => .ok (x :: xs) S3
        | _ => .bad)
      | .ok false S1 => compD p mt me chk env ds S1
      | _ => .bad) else .bad
noncomputable def fComp (mi : M IT) (p : Pat) (mt : M Bool) (me : M D) (own : List Nat) : M (List D) := fun env S => (mi env S).bind fun t S1 => if t.ds.length ≤ big then compD p mt me t.chk (clr env own) t.ds S1 else .bad
abbrev W0 : WX := fun _ _ _ _ => False
theorem clr_wipe_rel {K : PySem.W.Frag} {G : Addr → Prop} {ρ : List Addr} {H : Hp} {env : En} {σ : L2.St} (r : RelE K G ρ H env σ) : ∀ own : List Nat, RelE K G ρ H (clr env own) (wipe σ own)
  | [] => r
  | i :: own => by
    have q := clr_wipe_rel r own
    refine ⟨by rw [clr_length, wipe_length]; exact r.len, fun j d e => ?_⟩
    unfold clr at e
    unfold wipe
    by_cases hj : j = i
    · subst hj
      have hl : j < ((clr env own).set j none).length := (List.getElem?_eq_some_iff.mp e).1
      rw [List.length_set] at hl
      rw [List.getElem?_set_self hl] at e
      cases e
    · rw [List.getElem?_set_ne (Ne.symm hj)] at e
      obtain ⟨v, h1, h2⟩ := q.get j d e
      exact ⟨v, by rw [List.getElem?_set_ne (Ne.symm hj)]; exact h1, h2⟩
section
variable {X : Cx} {elt tg iter : Expr} {pos : Pos} {cA : Nat → Addr} {W : WX}
theorem comp_read {K : PySem.W.Frag} {mi : M IT} {p : Pat} {mt : M Bool} {me : M D} {own : List Nat} : ∀ σ H Q, tFr K cA W (fComp mi p mt me own) σ H Q → tLc (tI K cA W mi) (tGo K p own) (tT K cA W0 mt) (tE K cA W0 me) own σ H Q := by
  rintro σ H Q ⟨G, ρ, env, S, hE, hS, h⟩
  refine ⟨G, ρ, env, S, hE, hS, OkF.bind h fun t S1 J ρ1 H1 r1 wd k1 h1 => ?_⟩
  intro dA hdA
  have ng : ¬ G dA := r1.ngn hdA
  by_cases hbig : t.ds.length ≤ big
  · rw [if_pos hbig] at h1
    have hE1 : RelE K G ρ1 H1 (clr env own) (wipe σ own) := clr_wipe_rel (hE.keep k1) own
    let P : Nat → Hp → Prop := fun i H' => ∃ ρ' S' acc vs, RelS K G ρ' S' (era H' dA) ∧ Keep G ρ1 H1 ρ' (era H' dA) ∧ H' dA = some (.lst vs) ∧ RepL K G ρ' (era H' dA) acc vs ∧ acc.length ≤ i ∧
      OkF K G ρ' (era H' dA) ((compD p mt me t.chk (clr env own) (t.ds.drop i) S').bind fun xs S3 => .ok (acc ++ xs) S3) (WE' cA W σ) Q
    refine ⟨fun i m H' => m = t.ds.length - i ∧ i ≤ t.ds.length ∧ P i H', ⟨t.ds.length, rfl, Nat.zero_le _, ρ1, S1, [], [], ?_, ?_, upd_same, rfl, Nat.le_refl _, ?_⟩, ?_⟩
    · rw [era_upd, era_none hdA]; exact r1
    · rw [era_upd, era_none hdA]; exact Keep.refl
    · rw [era_upd, era_none hdA]
      have e : (compD p mt me t.chk (clr env own) t.ds S1).bind (fun xs S3 => Res.ok ([] ++ xs) S3) = compD p mt me t.chk (clr env own) t.ds S1 := by
        cases compD p mt me t.chk (clr env own) t.ds S1 <;> rfl
      show OkF K G ρ1 H1 ((compD p mt me t.chk (clr env own) t.ds S1).bind fun xs S3 => .ok ([] ++ xs) S3) (WE' cA W σ) Q
      rw [e]
      exact h1
    · rintro i m H' ⟨rfl, hi, ρ2, S2, acc, vs, r2, k2, hD, ra, hacc, h2⟩
      have ru : RelS K (gAnd G dA) ρ2 S2 H' := r2.up hD
      have ku : Keep2 G ρ1 H1 (gAnd G dA) ρ2 H' := by
        refine ⟨k2.pre, fun a xs q => (up2 (G := G) (ρ := ρ2) hD).tup a xs (k2.tup a xs q), fun a xs q1 q2 q3 => ?_, fun a o u q => (up2 (G := G) (ρ := ρ2) hD).frz a o u (k2.frz a o u q)⟩
        obtain ⟨z1, z2⟩ := k2.lst a xs q1 q2 q3
        exact (up2 (G := G) (ρ := ρ2) hD).lst a xs z1 q2 z2
      by_cases hlt : i < t.ds.length
      · have hd : t.ds.drop i = t.ds[i] :: t.ds.drop (i + 1) := (List.getElem_cons_drop hlt).symm
        rw [hd] at h2
        unfold compD at h2
        by_cases hch : t.chk S2
        · rw [if_pos hch] at h2
          refine .inr ⟨wd.go (gAnd G dA) ρ2 S2 H' i ku ru hch hlt, P (i + 1), fun H3 q => ⟨t.ds.length - (i + 1), by omega, rfl, hlt, q⟩, fun x H3 hy => ?_⟩
          obtain ⟨x3, k3, r3⟩ := wd.yld (gAnd G dA) ρ2 S2 H' i t.ds[i] x H3 ku ru hch (by rw [List.getElem?_eq_getElem hlt]) hy
          have eu : RelE K (gAnd G dA) ρ2 H3 (clr env own) (wipe σ own) := ((hE1.keep k2).keep2 (up2 hD)).keep k3
          refine ⟨gAnd G dA, ρ2, clr env own, t.ds[i], eu, x3, ?_⟩
          have hD3 : H3 dA = some (.lst vs) := by rw [k3.grd dA (.inr rfl)]; exact hD
          revert h2
          cases p t.ds[i] (clr env own) with
          | none => exact fun h => h
          | some en1 =>
            intro h2 σ3 e3 w3
            refine ⟨by rw [w3, wipe_wipe], gAnd G dA, ρ2, en1, S2, e3, r3, ?_⟩
            revert h2
            dsimp only
            cases mt en1 S2 with
            | bad => exact fun h => h
            | err c S4 => exact fun h => h.elim
            | ok b S4 =>
              intro h2 b' ρ4 H4 r4 eb k4
              cases (show b' = b from eb)
              have hD4 : H4 dA = some (.lst vs) := by rw [k4.grd dA (.inr rfl)]; exact hD3
              have kk4 : Keep (gAnd G dA) ρ2 H' ρ4 H4 := k3.trans k4
              have kd4 := kk4.down hD ng
              cases b with
              | false =>
                refine iteF ⟨ρ4, S4, acc, vs, r4.down hD4 ng, k2.trans kd4, hD4, RepL.keep kd4 _ _ ra, by omega, h2.keep kd4⟩
              | true =>
                refine iteT ⟨gAnd G dA, ρ4, en1, S4, e3.keep k4, r4, ?_⟩
                revert h2
                dsimp only
                cases me en1 S4 with
                | bad => exact fun h => h
                | err c S5 => exact fun h => h.elim
                | ok y S5 =>
                  intro h2 v ρ5 H5 r5 x5 k5
                  have hD5 : H5 dA = some (.lst vs) := by rw [k5.grd dA (.inr rfl)]; exact hD4
                  have kd5 := (kk4.trans k5).down hD ng
                  refine ⟨vs, hD5, ?_, ρ5, S5, acc ++ [y], vs ++ [v], ?_, ?_, upd_same, ?_, by simp; omega, ?_⟩
                  · have := ra.length
                    exact big_lt (by omega)
                  · rw [era_upd]; exact r5.down hD5 ng
                  · rw [era_upd]; exact k2.trans kd5
                  · rw [era_upd]
                    exact (RepL.keep kd5 _ _ ra).snoc (Rep.keep2 (down2 hD5) y v x5)
                  · rw [era_upd]
                    refine OkF.keep kd5 ?_
                    have e : ((compD p mt me t.chk (clr env own) (t.ds.drop (i + 1)) S5).bind fun xs S3 => Res.ok (y :: xs) S3).bind (fun xs S3 => Res.ok (acc ++ xs) S3) = (compD p mt me t.chk (clr env own) (t.ds.drop (i + 1)) S5).bind fun xs S3 => .ok (acc ++ [y] ++ xs) S3 := by
                      cases compD p mt me t.chk (clr env own) (t.ds.drop (i + 1)) S5 <;> simp [Res.bind]
                    rw [← e]
                    exact h2
        · rw [if_neg hch] at h2
          exact h2.elim
      · have e : i = t.ds.length := by omega
        subst e
        rw [List.drop_length] at h2
        unfold compD at h2
        by_cases hch : t.chk S2
        · rw [if_pos hch] at h2
          refine .inl ⟨wd.stop (gAnd G dA) ρ2 S2 H' ku ru hch, ?_⟩
          have q := h2 dA vs ρ2 (era H' dA) r2 (by rw [List.append_nil]; exact ra) Keep.refl era_same
          rw [upd_era hD] at q
          exact q
        · rw [if_neg hch] at h2
          exact h2.elim
  · rw [if_neg hbig] at h1
    exact h1.elim
theorem pts_imp {ifs : List Expr} {t t' : TT} (h : PTs X ifs t) (i : ∀ σ H Q, t' σ H Q → t σ H Q) : PTs X ifs t' := ⟨fun pins s σ H Q I hw => h.run pins s σ H Q I (i σ H Q hw)⟩
def tYes' : M Bool := fun _ S => .ok true S
theorem jts_nil : PTs X [] (tT X.K cA W tYes') := pts_imp pts_nil fun _ _ _ ⟨_, _, _, _, _, hS, h⟩ => h.now hS rfl
theorem jts_one {c : Expr} {m : M Bool} (h : PT X c (tT X.K cA W m)) : PTs X [c] (tT X.K cA W m) := pts_one h
theorem jf_lc {ifs : List Expr} {scope : Scope} (own : List (Str × Nat)) {mi : M IT} {p : Pat} {mt : M Bool} {me : M D} (hc : X.calm = true) (hN : X.N.Nodup) (hi : PI X tg iter (tI X.K cA W mi)) (ok : BlkOk X.N X.env.scope scope own)
    (hg : ∀ (s : Shared) (H : Hp) (C : Addr) (cl : List (Str × Addr)) (fp : List Addr), PG (X.blk s H scope (compEnvC scope cl C X.env) fp) tg (tGo X.K p (own.map (·.2)))) (ht : ∀ (s : Shared) (H : Hp) (C : Addr) (cl : List (Str × Addr)) (fp : List Addr), PTs (X.blk s H scope (compEnvC scope cl C X.env) fp) ifs (tT X.K cA W0 mt))
    (he : ∀ (s : Shared) (H : Hp) (C : Addr) (cl : List (Str × Addr)) (fp : List Addr), PE (X.blk s H scope (compEnvC scope cl C X.env) fp) elt (tE X.K cA W0 me)) (hs : ∀ x, foldedSetIterable iter X.env x = pure x := by intro _; rfl) :
    PE X (.ListComp elt [⟨tg, iter, ifs, 0⟩] scope pos) (tFr X.K cA W (fComp mi p mt me (own.map (·.2)))) :=
  pe_imp (pe_lc hc hN hi ok hg ht he hs) comp_read
theorem js_setLc (i : Nat) {y : Str} {py spos : Pos} {ifs : List Expr} {scope : Scope} (own : List (Str × Nat)) {mi : M IT} {p : Pat} {mt : M Bool} {me m : M D} (hm : ∀ σ H Q, tE X.K cA W m σ H Q → tFr X.K cA W (fComp mi p mt me (own.map (·.2))) σ H Q) (hc : X.calm = true) (hN : X.N.Nodup)
    (hsw : swapsWith (.ListComp elt [⟨tg, iter, ifs, 0⟩] scope pos) (some (.Name y py)) spos.line X.env = pure true) (hi : PI X tg iter (tI X.K cA W mi)) (ok : BlkOk X.N X.env.scope scope own)
    (hg : ∀ (s : Shared) (H : Hp) (C : Addr) (cl : List (Str × Addr)) (fp : List Addr), PG (X.blk s H scope (compEnvC scope cl C X.env) fp) tg (tGo X.K p (own.map (·.2)))) (ht : ∀ (s : Shared) (H : Hp) (C : Addr) (cl : List (Str × Addr)) (fp : List Addr), PTs (X.blk s H scope (compEnvC scope cl C X.env) fp) ifs (tT X.K cA W0 mt))
    (he : ∀ (s : Shared) (H : Hp) (C : Addr) (cl : List (Str × Addr)) (fp : List Addr), PE (X.blk s H scope (compEnvC scope cl C X.env) fp) elt (tE X.K cA W0 me)) (hy : X.N[i]? = some y := by rfl) (hyl : X.env.scope.names.lookup y = some .local := by rfl) (hs : ∀ x, foldedSetIterable iter X.env x = pure x := by intro _; rfl) :
    PS X (.Assign [.Name y py] (.ListComp elt [⟨tg, iter, ifs, 0⟩] scope pos) spos) (tS X.K cA W (sAsg m (pName i))) := by
  refine ps_imp (ps_setLc hc hN hy hyl hsw hi ok hg ht he hs) ?_
  intro D σ H h
  refine comp_read σ H _ (hm σ H _ ?_)
  obtain ⟨G, ρ, env, S, hE, hS, h⟩ := h
  refine ⟨G, ρ, env, S, hE, hS, OkS.thn hE h fun d S1 v ρ1 H1 r1 x1 k1 h1 => ?_⟩
  exact h1 _ ρ1 H1 ((hE.keep k1).set x1) r1 Keep.refl
end
end Rf

namespace Rf
open PySem PySem.Spec PyProof.Rows L2

mutual
def py : D → PyData
  | .non => .none
  | .bl b => .bool b
  | .int i => .int i
  | .str x => .str x
  | .ty _ => .none
  | .exc _ => .none
  | .cl _ => .none
  | .dct _ _ _ => .none
  | .tup ds => .tuple (pyL ds)
  | .lst ds => .list (pyL ds)
  | .fz ds => .list (pyL ds)
  | .cell _ => .none
def pyL : List D → List PyData
  | [] => []
  | d :: ds => py d :: pyL ds
end
theorem pyL_map : ∀ ds : List D, pyL ds = ds.map py
  | [] => rfl
  | d :: ds => by unfold pyL; rw [pyL_map ds]; rfl
def shD : Nat → D → Bool
  | _, .non | _, .bl _ | _, .int _ => true
  | _, .str x => PyData.strOk x
  | n + 1, .tup ds => ds.all (shD n)
  | n + 1, .lst ds => ds.all (shD n)
  | n + 1, .fz ds => ds.all (shD n)
  | _, _ => false
theorem lay_all {ps : List PyData} (h : ∀ p ∈ ps, p.canLay0 = true) : PyData.canLayAll0 ps = true := by
  induction ps with
  | nil => rfl
  | cons p r ih =>
    unfold PyData.canLayAll0
    rw [h p List.mem_cons_self, ih fun q hq => h q (List.mem_cons_of_mem _ hq)]
    rfl
theorem depth_all {n : Nat} {ps : List PyData} (h : ∀ p ∈ ps, p.depth ≤ n) : PyData.depthAll ps ≤ n := by
  induction ps with
  | nil => unfold PyData.depthAll; exact Nat.zero_le _
  | cons p r ih =>
    unfold PyData.depthAll
    exact Nat.max_le.mpr ⟨h p List.mem_cons_self, ih fun q hq => h q (List.mem_cons_of_mem _ hq)⟩
theorem shD_ok : ∀ (n : Nat) (d : D), shD n d = true → (py d).canLay0 = true ∧ (py d).depth ≤ n
  | _, .non, _ => ⟨rfl, Nat.zero_le _⟩
  | _, .bl _, _ => ⟨rfl, Nat.zero_le _⟩
  | _, .int _, _ => ⟨rfl, Nat.zero_le _⟩
  | 0, .str x, h => ⟨by simpa [py, PyData.canLay0, shD] using h, by simp [py, PyData.depth]⟩
  | n + 1, .str x, h => ⟨by simpa [py, PyData.canLay0, shD] using h, by simp [py, PyData.depth]⟩
  | 0, .ty _, h => by simp [shD] at h
  | 0, .exc _, h => by simp [shD] at h
  | 0, .cl _, h => by simp [shD] at h
  | 0, .dct _ _ _, h => by simp [shD] at h
  | n + 1, .dct _ _ _, h => by simp [shD] at h
  | n + 1, .ty _, h => by simp [shD] at h
  | n + 1, .exc _, h => by simp [shD] at h
  | n + 1, .cl _, h => by simp [shD] at h
  | 0, .cell _, h => by simp [shD] at h
  | n + 1, .cell _, h => by simp [shD] at h
  | 0, .tup ds, h => by simp [shD] at h
  | 0, .lst ds, h => by simp [shD] at h
  | 0, .fz ds, h => by simp [shD] at h
  | n + 1, .tup ds, h => by
    have h : ds.all (shD n) = true := h
    have k : ∀ p ∈ pyL ds, p.canLay0 = true ∧ p.depth ≤ n := fun p hp => by
      rw [pyL_map] at hp
      obtain ⟨d, hd, rfl⟩ := List.mem_map.mp hp
      exact shD_ok n d (List.all_eq_true.mp h d hd)
    refine ⟨by unfold py PyData.canLay0; exact lay_all fun p hp => (k p hp).1, ?_⟩
    unfold py PyData.depth
    exact Nat.succ_le_succ (depth_all fun p hp => (k p hp).2)
  | n + 1, .lst ds, h => by
    have h : ds.all (shD n) = true := h
    have k : ∀ p ∈ pyL ds, p.canLay0 = true ∧ p.depth ≤ n := fun p hp => by
      rw [pyL_map] at hp
      obtain ⟨d, hd, rfl⟩ := List.mem_map.mp hp
      exact shD_ok n d (List.all_eq_true.mp h d hd)
    refine ⟨by unfold py PyData.canLay0; exact lay_all fun p hp => (k p hp).1, ?_⟩
    unfold py PyData.depth
    exact Nat.succ_le_succ (depth_all fun p hp => (k p hp).2)
  | n + 1, .fz ds, h => by
    have h : ds.all (shD n) = true := h
    have k : ∀ p ∈ pyL ds, p.canLay0 = true ∧ p.depth ≤ n := fun p hp => by
      rw [pyL_map] at hp
      obtain ⟨d, hd, rfl⟩ := List.mem_map.mp hp
      exact shD_ok n d (List.all_eq_true.mp h d hd)
    refine ⟨by unfold py PyData.canLay0; exact lay_all fun p hp => (k p hp).1, ?_⟩
    unfold py PyData.depth
    exact Nat.succ_le_succ (depth_all fun p hp => (k p hp).2)
def dpt : Nat := 12
theorem shaped_of {d : D} (h : shD dpt d = true) : SeqAt.shaped (py d) = true := by
  obtain ⟨h1, h2⟩ := shD_ok dpt d h
  unfold SeqAt.shaped
  rw [h1, decide_eq_true (Nat.le_trans h2 (by decide))]
  rfl
section
variable {K : PySem.W.Frag} {G : Addr → Prop} {ρ : List Addr} {H : Hp}
theorem rep_dpL {n : Nat} (ih : ∀ (d : D) (v : V), shD n d = true → Rep K G ρ H d v → Dp K H v (py d)) : ∀ (ds : List D) (vs : List V), ds.all (shD n) = true → RepL K G ρ H ds vs → DpAll K H vs (pyL ds)
  | [], vs, _, h => by rw [show vs = [] from h]; exact .nil
  | d :: ds, vs, hs, h => by
    obtain ⟨v, vs', rfl, h1, h2⟩ := h
    rw [List.all_cons, Bool.and_eq_true] at hs
    exact .cons (ih d v hs.1 h1) (rep_dpL ih ds vs' hs.2 h2)
theorem rep_dp : ∀ (n : Nat) (d : D) (v : V), shD n d = true → Rep K G ρ H d v → Dp K H v (py d)
  | _, .non, v, _, h => by rw [show v = .non from h]; exact .non
  | _, .bl b, v, _, h => by rw [show v = .bl b from h]; exact .bl b
  | _, .int i, v, _, h => by rw [show v = .int i from h]; exact .int i
  | _, .str x, v, _, h => by rw [show v = .str x from h]; exact .str x
  | 0, .ty _, _, h, _ => by simp [shD] at h
  | 0, .exc _, _, h, _ => by simp [shD] at h
  | 0, .cl _, _, h, _ => by simp [shD] at h
  | 0, .dct _ _ _, _, h, _ => by simp [shD] at h
  | n + 1, .dct _ _ _, _, h, _ => by simp [shD] at h
  | n + 1, .ty _, _, h, _ => by simp [shD] at h
  | n + 1, .exc _, _, h, _ => by simp [shD] at h
  | n + 1, .cl _, _, h, _ => by simp [shD] at h
  | 0, .cell _, _, h, _ => by simp [shD] at h
  | n + 1, .cell _, _, h, _ => by simp [shD] at h
  | 0, .tup ds, _, h, _ => by simp [shD] at h
  | 0, .lst ds, _, h, _ => by simp [shD] at h
  | 0, .fz ds, _, h, _ => by simp [shD] at h
  | n + 1, .tup ds, v, hs, h => by
    obtain ⟨a, vs, rfl, h1, h2⟩ := h
    exact .tup (.inl h1) (rep_dpL (rep_dp n) ds vs hs h2)
  | n + 1, .lst ds, v, hs, h => by
    obtain ⟨a, vs, rfl, h1, h2⟩ := h
    exact .lst h1.sq (rep_dpL (rep_dp n) ds vs hs h2)
  | n + 1, .fz ds, v, hs, h => by
    obtain ⟨a, vs, rfl, h1, h2⟩ := h
    exact .lst h1.sq (rep_dpL (rep_dp n) ds vs hs h2)
end
def val (S : Store) : D → D
  | .cell n => match S[n]? with
    | some (.lst ds) => .lst ds
    | _ => .cell n
  | d => d
theorem rep_val {K : PySem.W.Frag} {G : Addr → Prop} {ρ : List Addr} {H : Hp} {S : Store} {d : D} {v : V} (r : RelS K G ρ S H) (h : Rep K G ρ H d v) (hs : shD dpt (val S d) = true) : Dp K H v (py (val S d)) := by
  cases d with
  | cell n =>
    unfold val at hs ⊢
    dsimp only at hs ⊢
    cases e : S[n]? with
    | none => rw [e] at hs; simp [shD, dpt] at hs
    | some o =>
      rw [e] at hs
      cases o with
      | dK kvs => simp [shD, dpt] at hs
      | dI kvs => simp [shD, dpt] at hs
      | ins _ _ => simp [shD, dpt] at hs
      | dS _ => simp [shD, dpt] at hs
      | gone => simp [shD, dpt] at hs
      | lst ds =>
        obtain ⟨a, rfl, ha⟩ := h
        obtain ⟨vs, h1, h2⟩ := r.ob n _ a e ha
        exact .lst (.of h1) (rep_dpL (rep_dp 11) ds vs hs h2)
  | _ => exact rep_dp dpt _ v hs h
def dEq (d e : D) (S : Store) : Res D := match d, e with
  | .int i, .int j => .ok (.bl (decide (i = j))) S
  | .bl i, .bl j => .ok (.bl (decide (i = j))) S
  | d, e => if shD dpt (val S d) = true ∧ shD dpt (val S e) = true then .ok (.bl (PyData.eqv (py (val S d)) (py (val S e)))) S else .bad
def dNe (d e : D) (S : Store) : Res D := match d, e with
  | .int i, .int j => .ok (.bl (!decide (i = j))) S
  | .bl i, .bl j => .ok (.bl (!decide (i = j))) S
  | d, e => if shD dpt (val S d) = true ∧ shD dpt (val S e) = true then .ok (.bl (!PyData.eqv (py (val S d)) (py (val S e)))) S else .bad
theorem eqv_int (i j : Int) : PyData.eqv (.int i) (.int j) = decide (i = j) := by
  unfold PyData.eqv
  by_cases h : i = j
  · rw [decide_eq_true h, h]; simp
  · rw [decide_eq_false h]; simpa using h
theorem eqv_bl (i j : Bool) : PyData.eqv (.bool i) (.bool j) = decide (i = j) := by
  unfold PyData.eqv
  cases i <;> cases j <;> rfl
theorem od_eq {K : PySem.W.Frag} : OpD K (rEqD K) dEq := by
  intro G ρ H S d1 d2 v1 v2 E Q r x1 x2 h
  have gen : (if shD dpt (val S d1) = true ∧ shD dpt (val S d2) = true then Res.ok (D.bl (PyData.eqv (py (val S d1)) (py (val S d2)))) S else Res.bad) = dEq d1 d2 S → rEqD K v1 v2 H Q := fun e => by
    rw [← e] at h
    by_cases hs : shD dpt (val S d1) = true ∧ shD dpt (val S d2) = true
    · rw [if_pos hs] at h
      exact ⟨_, _, rep_val r x1 hs.1, rep_val r x2 hs.2, shaped_of hs.1, shaped_of hs.2, h.now r rfl⟩
    · rw [if_neg hs] at h
      exact h.elim
  refine gen ?_
  cases d1 <;> cases d2 <;> first
    | rfl
    | (rename_i i j; rw [if_pos ⟨rfl, rfl⟩]; show Res.ok (D.bl (PyData.eqv (.int i) (.int j))) S = Res.ok (D.bl (decide (i = j))) S; rw [eqv_int])
    | (rename_i i j; rw [if_pos ⟨rfl, rfl⟩]; show Res.ok (D.bl (PyData.eqv (.bool i) (.bool j))) S = Res.ok (D.bl (decide (i = j))) S; rw [eqv_bl])
theorem od_ne {K : PySem.W.Frag} : OpD K (rNeD K) dNe := by
  intro G ρ H S d1 d2 v1 v2 E Q r x1 x2 h
  have gen : (if shD dpt (val S d1) = true ∧ shD dpt (val S d2) = true then Res.ok (D.bl (!PyData.eqv (py (val S d1)) (py (val S d2)))) S else Res.bad) = dNe d1 d2 S → rNeD K v1 v2 H Q := fun e => by
    rw [← e] at h
    by_cases hs : shD dpt (val S d1) = true ∧ shD dpt (val S d2) = true
    · rw [if_pos hs] at h
      exact ⟨_, _, rep_val r x1 hs.1, rep_val r x2 hs.2, shaped_of hs.1, shaped_of hs.2, h.now r rfl⟩
    · rw [if_neg hs] at h
      exact h.elim
  refine gen ?_
  cases d1 <;> cases d2 <;> first
    | rfl
    | (rename_i i j; rw [if_pos ⟨rfl, rfl⟩]; show Res.ok (D.bl (!PyData.eqv (.int i) (.int j))) S = Res.ok (D.bl (!decide (i = j))) S; rw [eqv_int])
    | (rename_i i j; rw [if_pos ⟨rfl, rfl⟩]; show Res.ok (D.bl (!PyData.eqv (.bool i) (.bool j))) S = Res.ok (D.bl (!decide (i = j))) S; rw [eqv_bl])
def rInU (K : PySem.W.Frag) (neg : Bool) : R2 := fun x y H Q => ∃ d ds b, Dp K H x d ∧ Dp K H y (if b = true then .list ds else .tuple ds) ∧ SeqAt.shaped d = true ∧ SeqAt.shaped (if b = true then PyData.list ds else .tuple ds) = true ∧ Q (.bl (if neg then !(ds.any fun z => PyData.eqv z d) else ds.any fun z => PyData.eqv z d)) H
section
variable {X : Cx}
theorem op_inU (hu : X.A.units + 65 < cLine) : OpR X (compareOp .In) (rInU X.K false) := by
  intro pins s σ H x y v u Q I rx ry h
  obtain ⟨d, ds, b, hd, he, sd, se, q⟩ := h
  obtain ⟨as, r1⟩ := Dp.reads I d x v hd rx
  obtain ⟨bs, r2⟩ := Dp.reads I _ y u he ry
  cases b with
  | true => exact SeqAt.in_list_reads r2 r1 (SeqAt.canLay_of_shaped se) (SeqAt.canLay_of_shaped sd) (room_in_shaped sd hu) ⟨.bl _, H, I, rfl, q⟩
  | false => exact SeqAt.in_tuple_reads r2 r1 (SeqAt.canLay_of_shaped se) (SeqAt.canLay_of_shaped sd) (room_in_shaped sd hu) ⟨.bl _, H, I, rfl, q⟩
theorem op_notInU (hu : X.A.units + 65 < cLine) : OpR X (compareOp .NotIn) (rInU X.K true) := by
  intro pins s σ H x y v u Q I rx ry h
  obtain ⟨d, ds, b, hd, he, sd, se, q⟩ := h
  obtain ⟨as, r1⟩ := Dp.reads I d x v hd rx
  obtain ⟨bs, r2⟩ := Dp.reads I _ y u he ry
  cases b with
  | true => exact SeqAt.notIn_list_reads r2 r1 (SeqAt.canLay_of_shaped se) (SeqAt.canLay_of_shaped sd) (room_in_shaped sd hu) ⟨.bl _, H, I, rfl, q⟩
  | false => exact SeqAt.notIn_tuple_reads r2 r1 (SeqAt.canLay_of_shaped se) (SeqAt.canLay_of_shaped sd) (room_in_shaped sd hu) ⟨.bl _, H, I, rfl, q⟩
end
def isIn (d : D) (ds : List D) : Bool := ds.any fun z => PyData.eqv (py z) (py d)
def dInG (neg : Bool) (d e : D) (S : Store) : Res D := match val S e with
  | .tup ds => if shD dpt (val S d) = true ∧ ds.all (shD 11) = true then .ok (.bl (if neg then !isIn (val S d) ds else isIn (val S d) ds)) S else .bad
  | .lst ds => if shD dpt (val S d) = true ∧ ds.all (shD 11) = true then .ok (.bl (if neg then !isIn (val S d) ds else isIn (val S d) ds)) S else .bad
  | .fz ds => if shD dpt (val S d) = true ∧ ds.all (shD 11) = true then .ok (.bl (if neg then !isIn (val S d) ds else isIn (val S d) ds)) S else .bad
  | _ => .bad
theorem any_pyL (d : PyData) : ∀ ds : List D, ((pyL ds).any fun z => PyData.eqv z d) = ds.any fun z => PyData.eqv (py z) d
  | [] => rfl
  | x :: ds => by unfold pyL; rw [List.any_cons, List.any_cons, any_pyL d ds]
theorem od_in {K : PySem.W.Frag} {neg : Bool} : OpD K (rInU K neg) (dInG neg) := by
  intro G ρ H S d1 d2 v1 v2 E Q r x1 x2 h
  have key : ∀ ds (b : Bool), py (val S d2) = (if b = true then PyData.list (pyL ds) else .tuple (pyL ds)) → shD dpt (val S d2) = ds.all (shD 11) →
      (Ok K G (Rep K G) ρ H (if shD dpt (val S d1) = true ∧ ds.all (shD 11) = true then .ok (.bl (if neg then !isIn (val S d1) ds else isIn (val S d1) ds)) S else .bad) E Q) → rInU K neg v1 v2 H Q := fun ds b e1 e2 h => by
    by_cases hs : shD dpt (val S d1) = true ∧ ds.all (shD 11) = true
    · rw [if_pos hs] at h
      have hs2 : shD dpt (val S d2) = true := by rw [e2]; exact hs.2
      refine ⟨_, pyL ds, b, rep_val r x1 hs.1, by rw [← e1]; exact rep_val r x2 hs2, shaped_of hs.1, by rw [← e1]; exact shaped_of hs2, ?_⟩
      rw [any_pyL]
      exact h.now r rfl
    · rw [if_neg hs] at h
      exact h.elim
  unfold dInG at h
  revert h
  cases e : val S d2 with
  | tup ds => exact key ds false (by rw [e]; rfl) (by rw [e]; rfl)
  | lst ds => exact key ds true (by rw [e]; rfl) (by rw [e]; rfl)
  | fz ds => exact key ds true (by rw [e]; rfl) (by rw [e]; rfl)
  | _ => exact fun h => h.elim
def i2 (f : Int → Int → D) (C : Int → Int → Bool) (d e : D) (S : Store) : Res D := match d, e with
  | .int i, .int j => if C i j = true then .ok (f i j) S else .bad
  | _, _ => .bad
def cT : Int → Int → Bool := fun _ _ => true
theorem od_i0 {K : PySem.W.Frag} {g : Int → Int → V} {f : Int → Int → D} (hf : ∀ G ρ H i j, Rep K G ρ H (f i j) (g i j)) : OpD K (rI0 g) (i2 f cT) := by
  intro G ρ H S d1 d2 v1 v2 E Q r x1 x2 h
  cases d1 with
  | int i =>
    cases d2 with
    | int j => exact ⟨i, j, x1, x2, Ok.now (a := f i j) h r (hf _ _ _ _ _)⟩
    | _ => exact h.elim
  | _ => exact h.elim
theorem od_i {K : PySem.W.Frag} {P : Int → Int → Prop} {C : Int → Int → Bool} {g : Int → Int → V} {f : Int → Int → D} (hC : ∀ i j, C i j = true → P i j) (hf : ∀ G ρ H i j, Rep K G ρ H (f i j) (g i j)) : OpD K (rI P g) (i2 f C) := by
  intro G ρ H S d1 d2 v1 v2 E Q r x1 x2 h
  cases d1 with
  | int i =>
    cases d2 with
    | int j =>
      have h : Ok K G (Rep K G) ρ H (if C i j = true then .ok (f i j) S else .bad) E Q := h
      by_cases hc : C i j = true
      · rw [if_pos hc] at h
        exact ⟨i, j, x1, x2, hC i j hc, h.now r (hf _ _ _ _ _)⟩
      · rw [if_neg hc] at h; exact h.elim
    | _ => exact h.elim
  | _ => exact h.elim
def dSub := i2 (fun i j => .int (i - j)) cT
instance (i j : Int) : Decidable (CMul i j) := by unfold CMul; infer_instance
instance (i j : Int) : Decidable (CDiv i j) := by unfold CDiv; infer_instance
def WMul (i j : Int) : Prop := CMul i j ∨ CMulW i j
def WDiv (i j : Int) : Prop := 0 < j ∧ (j < 1073741824 ∨ j.natAbs.log2 < 9000)
instance (i j : Int) : Decidable (CMulW i j) := by unfold CMulW; infer_instance
instance (i j : Int) : Decidable (WMul i j) := by unfold WMul; infer_instance
instance (i j : Int) : Decidable (WDiv i j) := by unfold WDiv; infer_instance
theorem op_fdivY {X : Cx} : OpR X (binaryOp .FloorDiv) (rI WDiv fun i j => .int (i / j)) := by
  intro pins s σ H x y v u Q I rx ry h
  obtain ⟨i, j, e1, e2, ⟨h0, hc⟩, q⟩ := h
  rcases hc with hc | hc
  · exact op_fdiv pins s σ H x y v u Q I rx ry ⟨i, j, e1, e2, ⟨h0, hc⟩, q⟩
  · exact op_fdivW pins s σ H x y v u Q I rx ry ⟨i, j, e1, e2, ⟨h0, hc⟩, q⟩
instance (i j : Int) : Decidable (CPow i j) := by unfold CPow; infer_instance
def dFdiv := i2 (fun i j => .int (i / j)) fun i j => decide (WDiv i j)
def dMod := i2 (fun i j => .int (i % j)) fun i j => decide (0 < j)
def dLe := i2 (fun i j => .bl (decide (i ≤ j))) cT
def dGt := i2 (fun i j => .bl (decide (j < i))) cT
def dNeg (d : D) (S : Store) : Res D := match d with
  | .int i => .ok (.int (-i)) S
  | _ => .bad
section
variable {K : PySem.W.Frag}
theorem od_sub : OpD K (rI0 fun i j => .int (i - j)) dSub := od_i0 fun _ _ _ _ _ => rfl
theorem od_fdiv : OpD K (rI WDiv fun i j => .int (i / j)) dFdiv := od_i (fun _ _ h => of_decide_eq_true h) fun _ _ _ _ _ => rfl
theorem od_mod : OpD K (rI (fun _ j => 0 < j) fun i j => .int (i % j)) dMod := od_i (fun _ _ h => of_decide_eq_true h) fun _ _ _ _ _ => rfl
theorem od_le : OpD K (rI0 fun i j => .bl (decide (i ≤ j))) dLe := od_i0 fun _ _ _ _ _ => rfl
theorem od_gt : OpD K (rI0 fun i j => .bl (decide (j < i))) dGt := od_i0 fun _ _ _ _ _ => rfl
theorem ud_neg : UnD K (rU fun i => .int (-i)) dNeg := by
  intro G ρ H S d v E Q r x h
  cases d with
  | int i => exact ⟨i, x, h.now r rfl⟩
  | _ => exact h.elim
end
theorem OpD.or {K : PySem.W.Frag} {r r' : R2} {f f' : D → D → Store → Res D} (h : OpD K r f) (h' : OpD K r' f') (g : D → D → Store → Res D) (hg : ∀ d e S, g d e S = f d e S ∨ g d e S = f' d e S) : OpD K (fun x y H Q => r x y H Q ∨ r' x y H Q) g := by
  intro G ρ H S d1 d2 v1 v2 E Q hr x1 x2 q
  rcases hg d1 d2 S with e | e
  · rw [e] at q; exact .inl (h G ρ H S d1 d2 v1 v2 E Q hr x1 x2 q)
  · rw [e] at q; exact .inr (h' G ρ H S d1 d2 v1 v2 E Q hr x1 x2 q)
def lstOf (S : Store) : D → Option (List D)
  | .lst ds => some ds
  | .cell n => match S[n]? with
    | some (.lst ds) => some ds
    | _ => none
  | _ => none
def dAddI := i2 (fun i j => .int (i + j)) cT
def dCatT (d e : D) (S : Store) : Res D := match d, e with
  | .tup xs, .tup ys => if xs.length + ys.length ≤ big then .ok (.tup (xs ++ ys)) S else .bad
  | _, _ => .bad
def dCatL (d e : D) (S : Store) : Res D := match lstOf S d, lstOf S e with
  | some xs, some ys => if xs.length + ys.length ≤ big then .ok (.lst (xs ++ ys)) S else .bad
  | _, _ => .bad
def dAdd (d e : D) (S : Store) : Res D := match d, e with
  | .int i, .int j => .ok (.int (i + j)) S
  | .tup xs, .tup ys => if xs.length + ys.length ≤ big then .ok (.tup (xs ++ ys)) S else .bad
  | d, e => dCatL d e S
section
variable {K : PySem.W.Frag} {G : Addr → Prop} {ρ : List Addr} {H : Hp} {S : Store}
theorem rep_lst (r : RelS K G ρ S H) {d : D} {v : V} {ds : List D} (h : Rep K G ρ H d v) (e : lstOf S d = some ds) : ∃ a vs, v = .ref a ∧ H a = some (.lst vs) ∧ RepL K G ρ H ds vs := by
  cases d with
  | lst ds' =>
    cases e
    obtain ⟨a, vs, rfl, h1, h2⟩ := h
    exact ⟨a, vs, rfl, h1.2.2, h2⟩
  | cell n =>
    unfold lstOf at e
    dsimp only at e
    cases eo : S[n]? with
    | none => rw [eo] at e; cases e
    | some o =>
      rw [eo] at e
      cases o with
      | dK kvs => cases e
      | dI kvs => cases e
      | ins _ _ => cases e
      | dS _ => cases e
      | gone => cases e
      | lst ds' =>
        cases e
        obtain ⟨a, rfl, ha⟩ := h
        obtain ⟨vs, h1, h2⟩ := r.ob n _ a eo ha
        exact ⟨a, vs, rfl, h1, h2⟩
  | _ => cases e
end
theorem od_catL {K : PySem.W.Frag} : OpD K rCat dCatL := by
  intro G ρ H S d1 d2 v1 v2 E Q r x1 x2 h
  unfold dCatL at h
  revert h
  cases e1 : lstOf S d1 with
  | none => exact fun h => h.elim
  | some xs =>
    cases e2 : lstOf S d2 with
    | none => exact fun h => h.elim
    | some ys =>
      intro h
      dsimp only at h
      obtain ⟨a, vs, rfl, h1, h2⟩ := rep_lst r x1 e1
      obtain ⟨b, ws, rfl, h3, h4⟩ := rep_lst r x2 e2
      by_cases hl : xs.length + ys.length ≤ big
      · rw [if_pos hl] at h
        refine ⟨a, b, vs, ws, rfl, rfl, h1, h3, by rw [h2.length, h4.length]; exact big_line hl, fun p hp => ?_⟩
        have k2 : Keep G ρ H ρ (upd H p (.lst (vs ++ ws))) := Keep.new hp r.gt
        exact h _ ρ _ (r.new hp) ⟨p, vs ++ ws, rfl, ⟨r.fresh hp, r.ngn hp, upd_same⟩, RepL.keep k2 _ _ (h2.app h4)⟩ k2
      · rw [if_neg hl] at h; exact h.elim
def rCatZ (K : PySem.W.Frag) : R2 := fun x y H Q => ∃ a b xs ys, x = .ref a ∧ y = .ref b ∧ SqT K H a xs ∧ SqT K H b ys ∧ xs.length + ys.length ≤ sizeLine ∧
  (xs = [] → Q (.ref b) H) ∧ (xs ≠ [] → ys = [] → Q (.ref a) H) ∧ (xs ≠ [] → ys ≠ [] → ∀ p (o : Obj), H p = none → o.dict = none → Q (.ref p) (upd H p (.frz o (.tup (xs ++ ys)))))
theorem op_catZ {X : Cx} : OpR X (binaryOp .Add) (rCatZ X.K) := by
  intro pins s σ H x y v u Q I rx ry h
  obtain ⟨a, b, xs, ys, rfl, rfl, ha, hb, hz, q0, q1, q2⟩ := h
  cases rx
  cases ry
  obtain ⟨its, r1, p1, _⟩ := I.tuple ha
  obtain ⟨its2, r2, p2, _⟩ := I.tuple hb
  by_cases hx : xs = []
  · subst hx
    cases r1
    exact cat_tup0 p1 p2 ⟨.ref b, H, I, rfl, q0 rfl⟩
  · refine HT.cat_tup p1 p2 (fun z => hx (r1.nil_iff.mp z)) (fun z => ⟨.ref a, H, I, rfl, q1 hx (r2.nil_iff.mp z)⟩) (fun z => ?_) (by rw [← r1.length, ← r2.length]; exact hz)
    refine ⟨.ref s.heap.objs.size, _, I.laid (t' := s.toks) (o := .frz { cls := .type "tuple", data := .seq (its ++ its2).toArray } (.tup (xs ++ ys))) (fun b ob q => Heap.get?_push_of_some _ q) (Nat.le_refl _) ?_, rfl, q2 hx (fun w => z (r2.nil_iff.mpr w)) _ _ (I.hok.fresh (Nat.le_refl _)) rfl⟩
    exact ⟨Heap.get?_push_size _ rfl, by rw [List.length_append]; exact hz, _, r1.append r2, IsTup.new _ _⟩
theorem od_catT {K : PySem.W.Frag} : OpD K (rCatZ K) dCatT := by
  intro G ρ H S d1 d2 v1 v2 E Q r x1 x2 h
  cases d1 with
  | tup xs =>
    cases d2 with
    | tup ys =>
      obtain ⟨a, vs, rfl, h1, h2⟩ := x1
      obtain ⟨b, ws, rfl, h3, h4⟩ := x2
      have h : Ok K G (Rep K G) ρ H (if xs.length + ys.length ≤ big then .ok (.tup (xs ++ ys)) S else .bad) E Q := h
      by_cases hl : xs.length + ys.length ≤ big
      · rw [if_pos hl] at h
        refine ⟨a, b, vs, ws, rfl, rfl, .inl h1, .inl h3, by rw [h2.length, h4.length]; exact big_line hl, ?_⟩
        refine ⟨fun e => ?_, fun _ e => ?_, fun _ _ p o hp ho => ?_⟩
        · subst e
          have e0 : xs = [] := List.eq_nil_of_length_eq_zero (by rw [← h2.length]; rfl)
          subst e0
          exact h.now r ⟨b, ws, rfl, h3, h4⟩
        · subst e
          have e0 : ys = [] := List.eq_nil_of_length_eq_zero (by rw [← h4.length]; rfl)
          subst e0
          exact h.now r ⟨a, vs, rfl, h1, by rw [List.append_nil]; exact h2⟩
        · have k2 : Keep G ρ H ρ (upd H p (.frz o (.tup (vs ++ ws)))) := Keep.new hp r.gt
          exact h _ ρ _ (r.new hp ho) ⟨p, vs ++ ws, rfl, .inr ⟨o, upd_same⟩, RepL.keep k2 _ _ (h2.app h4)⟩ k2
      · rw [if_neg hl] at h; exact h.elim
    | _ => exact h.elim
  | _ => exact h.elim
theorem od_add {K : PySem.W.Frag} : OpD K (fun x y H Q => (rI0 fun i j => .int (i + j)) x y H Q ∨ (rCatZ K x y H Q ∨ rCat x y H Q)) dAdd :=
  OpD.or (f := dAddI) (f' := fun d e S => match d, e with | .tup xs, .tup ys => dCatT d e S | d, e => dCatL d e S) (od_i0 (f := fun i j => .int (i + j)) (g := fun i j => .int (i + j)) fun _ _ _ _ _ => rfl) (OpD.or od_catT od_catL _ fun d e S => by
    cases d <;> cases e <;> first | exact .inl rfl | exact .inr rfl) _ fun d e S => by
    cases d <;> cases e <;> first | exact .inr rfl | exact .inl rfl
theorem op_add3 {X : Cx} : OpR X (binaryOp .Add) (fun x y H Q => (rI0 fun i j => .int (i + j)) x y H Q ∨ (rCatZ X.K x y H Q ∨ rCat x y H Q)) := op_add.or (op_catZ.or op_cat)
end Rf

namespace PySem
open Sem (wp)
open AutoSeq1 (wpAny_loadPart')
theorem meets_enumerate_newT' (l : Addr) (items : Array Value) (n : Nat) (dct : Option Addr) (sl : Array (Option Value)) :
    Meets (Builtin.«enumerate.__new__» ⟨[.type "enumerate", .ref l], []⟩) (fun _ R s => s.heap.get? l = some { cls := .type "tuple", dict := dct, data := .seq items n, slots := sl } ∧
      R (.ok (.ret (.ref (s.heap.push { cls := .type "tuple_iterator", data := .fields #[.ref l, .int 0 0] }).objs.size)))
        { s with heap := (s.heap.push { cls := .type "tuple_iterator", data := .fields #[.ref l, .int 0 0] }).push { cls := .type "enumerate", data := .fields #[.none, .bool false, .ref s.heap.objs.size, rawInt 0, .none, .none] } }) :=
  .of_wp fun prog w A R s h => by
    obtain ⟨hp, g, d, tk, os⟩ := s; obtain ⟨hl, h⟩ := h
    have hsub := sub_enumerate
    have hL : Heap.IsTuple (Shared.heap ⟨hp, g, d, tk, os⟩) l items := ⟨_, hl, rfl, n, rfl⟩
    wp_walk using wpAny_loadPart' hl
    refine wpAny_stack_any fun st => wpAny_pure ?_
    split
    · rename_i c _ _ _ _ _
      cases (c == Value.type "enumerate")
      · wp_walk using wpAny_loadPart' hl, wpAny_pyIter_tuple hL
        exact ⟨_, rfl, h⟩
      · wp_walk using wpAny_loadPart' hl, wpAny_pyIter_tuple hL
        exact ⟨_, rfl, h⟩
    · wp_walk using wpAny_loadPart' hl, wpAny_pyIter_tuple hL
      exact ⟨_, rfl, h⟩
section
variable {prog : Program} {w : World} {A : Around} {E : Value → Shared → Prop} {s : Shared}
theorem call_enumerate_tuple' {l : Addr} {items : Array Value} {Q : Value → Shared → Prop} (hL : s.heap.IsTuple l items)
    (h : ∀ h', IsEnum h' (s.heap.objs.size + 1) s.heap.objs.size 0 .none → h'.IsTupleIter s.heap.objs.size l 0 → h'.objs.size = s.heap.objs.size + 2 →
      (∀ b o, s.heap.get? b = some o → h'.get? b = some o) → Q (.ref (s.heap.objs.size + 1)) { s with heap := h' }) :
    wpAny (model prog w) A (call (.type "enumerate") [.ref l]) Q E s := by
  obtain ⟨⟨c, dct, dt, sl⟩, hl, hc, n, hd⟩ := hL
  replace hc : c = .type "tuple" := hc
  replace hd : dt = .seq items n := hd
  subst hc hd
  refine callType_new F.called_enumerate (by decide) (F.typeCall_enumerate_1 _) (F.newCall_enumerate_1 _) (fun obj => F.args_object_init_2 obj _) F.entry_enumerate_new
    (meets_enumerate_newT' l items n dct sl) ⟨hl, ?_⟩
  have hz : (s.heap.push { cls := .type "tuple_iterator", data := .fields #[.ref l, .int 0 0] }).objs.size = s.heap.objs.size + 1 := Heap.size_push ..
  show _ ∧ _
  rw [hz]
  have he : IsEnum ((s.heap.push { cls := .type "tuple_iterator", data := .fields #[.ref l, .int 0 0] }).push
      { cls := .type "enumerate", data := .fields #[.none, .bool false, .ref s.heap.objs.size, rawInt 0, .none, .none] }) (s.heap.objs.size + 1) s.heap.objs.size 0 .none := by
    have := Heap.get?_push_size (s.heap.push { cls := .type "tuple_iterator", data := .fields #[.ref l, .int 0 0] })
      (o := { cls := .type "enumerate", data := .fields #[.none, .bool false, .ref s.heap.objs.size, rawInt 0, .none, .none] }) rfl
    rw [hz] at this; exact this
  refine ⟨⟨_, he, rfl⟩, h _ he ⟨_, Heap.get?_push_of_some _ (Heap.get?_push_size _ rfl), rfl, rfl⟩ (by rw [Heap.size_push, hz]) fun b o x => Heap.get?_push_of_some _ (Heap.get?_push_of_some _ x)⟩
end
end PySem
namespace Rf
open PySem PySem.Spec PyProof.Rows L2
def IteT (K : PySem.W.Frag) (a : Addr) : It :=
  ⟨fun i H => ∃ (xs : List V) (x : V), SqT K H a xs ∧ xs[i]? = some x, fun i H v H' => ∃ (T : Addr) (x : V) (o : Obj), v = .ref T ∧ H T = none ∧ H' = upd H T (.frz o (.tup [.int (i : Nat), x])) ∧ o.dict = none ∧ ∀ xs, SqT K H a xs → xs[i]? = some x, fun i H => ∃ xs : List V, SqT K H a xs ∧ xs.length ≤ i⟩
theorem turn_enumT {P : Program} {w : World} {K : PySem.W.Frag} {elts : List Expr} {kk : Nat} {tpos : Pos} (a e it : Addr) :
    Turn P w K (.Tuple elts kk tpos) (IteT K a) [e, it] e (fun i h => (∃ old, IsEnum h e it ((i : Nat) : Int) old) ∧ h.IsTupleIter it a i ∧ e ≠ it ∧ a ≠ it ∧ a ≠ e) where
  mem := by simp
  obj := fun i h st b hb => by
    obtain ⟨⟨old, he⟩, ⟨o, ho, hc, hd⟩, _⟩ := st
    have e' : b = e ∨ b = it := by simpa using hb
    rcases e' with z | z
    · rw [z]; exact ⟨_, he, fun v q => nomatch q⟩
    · rw [z]; exact ⟨o, ho, fun v q => by rw [hd] at q; cases q⟩
  keep := fun i h h' st k => let ⟨⟨old, he⟩, hi, hne⟩ := st; ⟨⟨old, k e (by simp) _ he⟩, hi.at fun o q => k it (by simp) o q, hne⟩
  item := by
    intro X hP hw hK hc i pins s σ H E I hf st hg
    subst hP hw hK
    obtain ⟨⟨old, he⟩, hit, hne, hat, hae⟩ := st
    obtain ⟨xs, x, hq, hx⟩ := hg
    obtain ⟨its, rv, p, hz⟩ := I.tuple hq
    obtain ⟨u, hu, ru⟩ := rv.get hx
    have hel : e < s.heap.objs.size := Heap.lt_size he
    have hil : it < s.heap.objs.size := by obtain ⟨_, q, _⟩ := hit; exact Heap.lt_size q
    have hlt : i < its.toArray.size := by rw [List.size_toArray]; exact (List.getElem?_eq_some_iff.mp hu).1
    refine wpAny_pyNext_enum_itemD (Draws.tuple (prog := X.prog) (w := X.w) (A := X.A.in1) (I.ok.hd hc) it a hat its.toArray) he ⟨hit, p⟩ hlt hne (by simp [hne, Ne.symm hae]) fun y h' tk hy ho hit' hT hsz hk => ?_
    have eu : y = u := by
      have hy : its[i]? = some y := by simpa using hy
      rw [hu] at hy
      exact (Option.some.inj hy).symm
    subst eu
    refine ⟨_, rfl, wpAny_letOwnedTupleGo_enum (s := { s with heap := h', toks := tk + 1 }) ho fun h'' he' sb => ?_⟩
    have hT2 : h''.get? s.heap.objs.size = some { cls := .type "tuple", data := .seq #[.int i tk, y] } := (sb.2 _ (Nat.ne_of_gt hel)).trans hT
    have new : ObjOk X.prog X.w (upd H s.heap.objs.size (.frz { cls := .type "tuple", data := .seq #[.int i tk, y] } (.tup [.int (i : Nat), x]))) h'' s.heap.objs.size (.frz { cls := .type "tuple", data := .seq #[.int i tk, y] } (.tup [.int (i : Nat), x])) :=
      ⟨hT2, by show 2 ≤ sizeLine; decide, [.int i tk, y], .cons ⟨_, rfl⟩ (.cons ru .nil), ⟨_, hT2, rfl, _, rfl⟩⟩
    have I1 : Inv X pins σ (upd H s.heap.objs.size (.frz { cls := .type "tuple", data := .seq #[.int i tk, y] } (.tup [.int (i : Nat), x]))) { s with heap := h'', toks := tk + 1 } :=
      I.turnedNew (ch := [e, it]) (fun b ob hb q => (sb.2 b (fun z => hb (by simp [z]))).trans (hk b ob (fun z => hb (by simp [z])) (fun z => hb (by simp [z])) q)) hf (Nat.le_refl _) new
    refine ⟨.ref s.heap.objs.size, _, I1, rfl, ⟨_, x, _, rfl, I.hok.fresh (Nat.le_refl _), rfl, rfl, fun ys hy => by rw [I.tuple_inj hy hq]; exact hx⟩, ⟨⟨y, ?_⟩, hit'.1.at fun o q => (sb.2 it (Ne.symm hne)).trans q, hne, hat, hae⟩, fun b hb => ?_⟩
    · have e1 : ((i + 1 : Nat) : Int) = (i : Int) + 1 := by omega
      rw [e1]; exact he'
    · have hb' : b < s.heap.objs.size := by
        have e' : b = e ∨ b = it := by simpa using hb
        rcases e' with z | z
        · rw [z]; exact hel
        · rw [z]; exact hil
      rw [upd_ne (Nat.ne_of_lt hb')]
      exact (hf b hb).1
  done := by
    intro X hP hw hK hc i pins s σ H E I hf st hg
    subst hP hw hK
    obtain ⟨⟨old, he⟩, hit, hne, hat, hae⟩ := st
    obtain ⟨xs, hq, hx⟩ := hg
    obtain ⟨its, rv, p, hz⟩ := I.tuple hq
    obtain ⟨f0, f1, f2, f3, f4, f5⟩ := hf it (by simp)
    have hl := rv.length
    have hT : s.TypeIs (.ref e) "enumerate" := ⟨_, he, rfl⟩
    unfold pyNext
    refine wpAny_bind (wpAny_attempt (wpAny_callSpecial?_slot (name := Str.ofString "__next__") hT F.slot_enumerate_next
      (wpAny_call_entry F.slot_enumerate_next hT F.entry_enumerate_next ?_ (F.args_enumerate_next_1 _))))
    show wpAny _ _ (field (.ref e) 2 >>= _) _ _ _
    refine wpAny_bind (wpAny_field he rfl (x := .ref it) rfl ?_)
    refine wpAny_bind (wpAny_nextOf_tuple_end (I.ok.hd hc) hit p (by simp; omega) fun h' x he' hx' => ?_)
    obtain ⟨o, ho, hc'⟩ := hx'
    refine wpAny_bind (wpAny_isInstance (T := "StopIteration") (b := true) ⟨o, ho, hc'⟩ isSubtype_stop ?_)
    exact wpAny_pure ⟨rfl, I.turned (t' := s.toks) (fun b o hb q => he' b o hb q) f0 f1 f3 f4 f5⟩
  self := fun A i s Q E st h => let ⟨⟨_, he⟩, _⟩ := st; wpAny_pyIter_enum he h
def iEnumT (K : PySem.W.Frag) (ta : TA) : TI := fun σ H R => ta σ H fun vs H1 => ∃ a xs, vs = [.ref a] ∧ SqT K H1 a xs ∧ R (IteT K a) H1
def IteL (K : PySem.W.Frag) (a : Addr) : It :=
  ⟨fun i H => ∃ (xs : List V) (x : V), SqL K H a xs ∧ xs[i]? = some x, fun i H v H' => ∃ (T : Addr) (x : V) (o : Obj), v = .ref T ∧ H T = none ∧ H' = upd H T (.frz o (.tup [.int (i : Nat), x])) ∧ o.dict = none ∧ ∀ xs, SqL K H a xs → xs[i]? = some x, fun i H => ∃ xs : List V, SqL K H a xs ∧ xs.length ≤ i⟩
theorem turn_enumL {P : Program} {w : World} {K : PySem.W.Frag} {elts : List Expr} {kk : Nat} {tpos : Pos} (a e it : Addr) :
    Turn P w K (.Tuple elts kk tpos) (IteL K a) [e, it] e (fun i h => (∃ old, IsEnum h e it ((i : Nat) : Int) old) ∧ h.IsListIter it a i ∧ e ≠ it) where
  mem := by simp
  obj := fun i h st b hb => by
    obtain ⟨⟨old, he⟩, ⟨o, ho, hc, hd⟩, _⟩ := st
    have e' : b = e ∨ b = it := by simpa using hb
    rcases e' with z | z
    · rw [z]; exact ⟨_, he, fun v q => nomatch q⟩
    · rw [z]; exact ⟨o, ho, fun v q => by rw [hd] at q; cases q⟩
  keep := fun i h h' st k => let ⟨⟨old, he⟩, hi, hne⟩ := st; ⟨⟨old, k e (by simp) _ he⟩, hi.at fun o q => k it (by simp) o q, hne⟩
  item := by
    intro X hP hw hK hc i pins s σ H E I hf st hg
    subst hP hw hK
    obtain ⟨⟨old, he⟩, hit, hne⟩ := st
    obtain ⟨xs, x, hq, hx⟩ := hg
    obtain ⟨its, rv, p, hz⟩ := I.list hq
    obtain ⟨u, hu, ru⟩ := rv.get hx
    have hel : e < s.heap.objs.size := Heap.lt_size he
    have hil : it < s.heap.objs.size := by obtain ⟨_, q, _⟩ := hit; exact Heap.lt_size q
    refine wpAny_pyNext_enum_item he hit p.isList (x := u) (by simpa using hu) hne fun h' ho hit' hT hsz hk => ?_
    refine ⟨_, rfl, wpAny_letOwnedTupleGo_enum (s := { s with heap := h', toks := s.toks + 1 }) ho fun h'' he' sb => ?_⟩
    have hT2 : h''.get? s.heap.objs.size = some { cls := .type "tuple", data := .seq #[.int i s.toks, u] } := (sb.2 _ (Nat.ne_of_gt hel)).trans hT
    have new : ObjOk X.prog X.w (upd H s.heap.objs.size (.frz { cls := .type "tuple", data := .seq #[.int i s.toks, u] } (.tup [.int (i : Nat), x]))) h'' s.heap.objs.size (.frz { cls := .type "tuple", data := .seq #[.int i s.toks, u] } (.tup [.int (i : Nat), x])) :=
      ⟨hT2, by show 2 ≤ sizeLine; decide, [.int i s.toks, u], .cons ⟨_, rfl⟩ (.cons ru .nil), ⟨_, hT2, rfl, _, rfl⟩⟩
    have I1 : Inv X pins σ (upd H s.heap.objs.size (.frz { cls := .type "tuple", data := .seq #[.int i s.toks, u] } (.tup [.int (i : Nat), x]))) { s with heap := h'', toks := s.toks + 1 } :=
      I.turnedNew (ch := [e, it]) (fun b ob hb q => (sb.2 b (fun z => hb (by simp [z]))).trans (hk b ob (fun z => hb (by simp [z])) (fun z => hb (by simp [z])) q)) hf (Nat.le_refl _) new
    refine ⟨.ref s.heap.objs.size, _, I1, rfl, ⟨_, x, _, rfl, I.hok.fresh (Nat.le_refl _), rfl, rfl, fun ys hy => by rw [I.list_inj hy hq]; exact hx⟩, ⟨⟨u, ?_⟩, hit'.at fun o q => (sb.2 it (Ne.symm hne)).trans q, hne⟩, fun b hb => ?_⟩
    · have e1 : ((i + 1 : Nat) : Int) = (i : Int) + 1 := by omega
      rw [e1]; exact he'
    · have hb' : b < s.heap.objs.size := by
        have e' : b = e ∨ b = it := by simpa using hb
        rcases e' with z | z
        · rw [z]; exact hel
        · rw [z]; exact hil
      rw [upd_ne (Nat.ne_of_lt hb')]
      exact (hf b hb).1
  done := by
    intro X hP hw hK hc i pins s σ H E I hf st hg
    subst hP hw hK
    obtain ⟨⟨old, he⟩, hit, hne⟩ := st
    obtain ⟨xs, hq, hx⟩ := hg
    obtain ⟨its, rv, p, hz⟩ := I.list hq
    obtain ⟨f0, f1, f2, f3, f4, f5⟩ := hf it (by simp)
    have hl := rv.length
    exact wpAny_pyNext_enum_end (I.ok.hd hc) he hit p.isList (by simp; omega) fun h' eb => ⟨rfl, I.turned (t' := s.toks) (fun b o hb q => eb b o hb q) f0 f1 f3 f4 f5⟩
  self := fun A i s Q E st h => let ⟨⟨_, he⟩, _⟩ := st; wpAny_pyIter_enum he h
def iEnumL (K : PySem.W.Frag) (ta : TA) : TI := fun σ H R => ta σ H fun vs H1 => ∃ a xs, vs = [.ref a] ∧ SqL K H1 a xs ∧ R (IteL K a) H1
theorem pi_enumL {X : Cx} {e : Expr} {ta : TA} {p pos tpos : Pos} {elts : List Expr} {kk : Nat} (hg : Gl X "enumerate") (hm : X.mg "enumerate" = none) (ha : PA X [e] ta) (hs : starEach [e] X.env = [(false, eval e X.env)] := by rfl) :
    PI X (.Tuple elts kk tpos) (.Call (.Name "enumerate" p) [e] [] pos) (iEnumL X.K ta) := by
  refine ⟨fun pins s σ H R I h => ?_⟩
  refine Call_ (ld_blt I hg hm boot_enumerate (PyProof.Rows.callWith_type1 (thn (ha.run pos pins s σ H _ I h) fun us s1 ⟨vs, H1, I1, r1, q1⟩ => ?_) hs rfl))
  obtain ⟨a, xs, ex, hq, q⟩ := q1
  subst ex
  cases r1 with
  | cons r rr =>
    cases rr
    cases r
    obtain ⟨its, rv, p', hz⟩ := I1.list hq
    refine call_enumerate_list p'.isList fun h' he hit hsz hk => wpAny_pyIter_enum he ?_
    have I2 : Inv X pins σ H1 { s1 with heap := h' } := I1.kept (t' := s1.toks) hk
    refine ⟨s1.heap.objs.size + 1, [s1.heap.objs.size + 1, s1.heap.objs.size], _, _, H1, rfl, I2, turn_enumL a (s1.heap.objs.size + 1) s1.heap.objs.size, ⟨⟨.none, he⟩, hit, Nat.succ_ne_self _⟩, fun b hb => ?_, q⟩
    have e' : b = s1.heap.objs.size + 1 ∨ b = s1.heap.objs.size := by simpa using hb
    have hle : s1.heap.objs.size ≤ b := by
      rcases e' with z | z
      · rw [z]; exact Nat.le_add_right _ _
      · rw [z]; exact Nat.le_refl _
    exact I1.fpOk hle (I1.hok.fresh hle)
theorem pi_enumT {X : Cx} {e : Expr} {ta : TA} {p pos tpos : Pos} {elts : List Expr} {kk : Nat} (hg : Gl X "enumerate") (hm : X.mg "enumerate" = none) (ha : PA X [e] ta) (hs : starEach [e] X.env = [(false, eval e X.env)] := by rfl) :
    PI X (.Tuple elts kk tpos) (.Call (.Name "enumerate" p) [e] [] pos) (iEnumT X.K ta) := by
  refine ⟨fun pins s σ H R I h => ?_⟩
  refine Call_ (ld_blt I hg hm boot_enumerate (PyProof.Rows.callWith_type1 (thn (ha.run pos pins s σ H _ I h) fun us s1 ⟨vs, H1, I1, r1, q1⟩ => ?_) hs rfl))
  obtain ⟨a, xs, ex, hq, q⟩ := q1
  subst ex
  cases r1 with
  | cons r rr =>
    cases rr
    cases r
    obtain ⟨its, rv, p', hz⟩ := I1.tuple hq
    have hal : a < s1.heap.objs.size := by obtain ⟨o, ho, _⟩ := p'; exact Heap.lt_size ho
    refine call_enumerate_tuple' p' fun h' he hit hsz hk => wpAny_pyIter_enum he ?_
    have I2 : Inv X pins σ H1 { s1 with heap := h' } := I1.kept (t' := s1.toks) hk
    refine ⟨s1.heap.objs.size + 1, [s1.heap.objs.size + 1, s1.heap.objs.size], _, _, H1, rfl, I2, turn_enumT a (s1.heap.objs.size + 1) s1.heap.objs.size, ⟨⟨.none, he⟩, hit, Nat.succ_ne_self _, Nat.ne_of_lt hal, Nat.ne_of_lt (Nat.lt_succ_of_lt hal)⟩, fun b hb => ?_, q⟩
    have e' : b = s1.heap.objs.size + 1 ∨ b = s1.heap.objs.size := by simpa using hb
    have hle : s1.heap.objs.size ≤ b := by
      rcases e' with z | z
      · rw [z]; exact Nat.le_add_right _ _
      · rw [z]; exact Nat.le_refl _
    exact I1.fpOk hle (I1.hok.fresh hle)
end Rf

namespace Rf
open PySem PySem.Spec PyProof.Rows L2
def seqOf (S : Store) : D → Option (List D)
  | .tup ds => some ds
  | .lst ds => some ds
  | .fz ds => some ds
  | .cell n => match S[n]? with
    | some (.lst ds) => some ds
    | _ => none
  | _ => none
def isTup : D → Bool
  | .tup _ => true
  | _ => false
section
variable {K : PySem.W.Frag} {G : Addr → Prop} {ρ : List Addr} {H : Hp} {S : Store}
theorem rep_seq (r : RelS K G ρ S H) {d : D} {v : V} {ds : List D} (h : Rep K G ρ H d v) (e : seqOf S d = some ds) : ∃ a vs, v = .ref a ∧ (if isTup d = true then SqT K H a vs else SqL K H a vs) ∧ RepL K G ρ H ds vs := by
  cases d with
  | tup ds' =>
    cases e
    obtain ⟨a, vs, rfl, h1, h2⟩ := h
    exact ⟨a, vs, rfl, .inl h1, h2⟩
  | lst ds' =>
    cases e
    obtain ⟨a, vs, rfl, h1, h2⟩ := h
    exact ⟨a, vs, rfl, h1.sq, h2⟩
  | fz ds' =>
    cases e
    obtain ⟨a, vs, rfl, h1, h2⟩ := h
    exact ⟨a, vs, rfl, h1.sq, h2⟩
  | cell n =>
    unfold seqOf at e
    dsimp only at e
    cases eo : S[n]? with
    | none => rw [eo] at e; cases e
    | some o =>
      rw [eo] at e
      cases o with
      | dK kvs => cases e
      | dI kvs => cases e
      | ins _ _ => cases e
      | dS _ => cases e
      | gone => cases e
      | lst ds' =>
        cases e
        obtain ⟨a, rfl, ha⟩ := h
        obtain ⟨vs, h1, h2⟩ := r.ob n _ a eo ha
        exact ⟨a, vs, rfl, .of h1, h2⟩
  | _ => cases e
end
def dIx (d i : D) (S : Store) : Res D := match seqOf S d, i with
  | some ds, .int k => (match atI ds k with
    | some x => .ok x S
    | none => .bad)
  | _, _ => .bad
theorem atI_rep {K : PySem.W.Frag} {G : Addr → Prop} {ρ : List Addr} {H : Hp} {ds : List D} {vs : List V} {k : Int} {x : D} (h : RepL K G ρ H ds vs) (e : atI ds k = some x) : ∃ v, atI vs k = some v ∧ Rep K G ρ H x v := by
  unfold atI at e ⊢
  rw [h.length]
  cases ej : ixN ds.length k with
  | none => rw [ej] at e; cases e
  | some j =>
    rw [ej] at e
    have e : ds[j]? = some x := e
    obtain ⟨v, h1, h2⟩ := h.get e
    exact ⟨v, h1, h2⟩
theorem od_ix {K : PySem.W.Frag} : OpD K (rIx K) dIx := by
  intro G ρ H S d1 d2 v1 v2 E Q r x1 x2 h
  unfold dIx at h
  revert h
  cases e1 : seqOf S d1 with
  | none => exact fun h => h.elim
  | some ds =>
    cases d2 with
    | int k =>
      dsimp only
      cases e2 : atI ds k with
      | none => exact fun h => h.elim
      | some x =>
        intro h
        obtain ⟨a, vs, rfl, h1, h2⟩ := rep_seq r x1 e1
        obtain ⟨v, h3, h4⟩ := atI_rep h2 e2
        by_cases ht : isTup d1 = true
        · rw [if_pos ht] at h1
          exact .inr (.inl ⟨a, vs, k, v, rfl, x2, h1, h3, h.now r h4⟩)
        · rw [if_neg ht] at h1
          exact .inl ⟨a, vs, k, v, rfl, x2, h1, h3, h.now r h4⟩
    | _ => exact fun h => h.elim
def cutD (ds : List D) (lo hi : Option Int) : List D := (ds.drop (HT.sIx ds.length 0 lo)).take (HT.sIx ds.length ds.length hi - HT.sIx ds.length 0 lo)
def dSl (d : D) (lo hi : Option Int) (S : Store) : Res D := match d with
  | .tup ds => .ok (.tup (cutD ds lo hi)) S
  | d => match seqOf S d with
    | some ds => .ok (.lst (cutD ds lo hi)) S
    | none => .bad
def SlD (K : PySem.W.Frag) (r : V → Option Int → Option Int → Hp → VK → Prop) (f : D → Option Int → Option Int → Store → Res D) : Prop :=
  ∀ G ρ H S d v lo hi E Q, RelS K G ρ S H → Rep K G ρ H d v → Ok K G (Rep K G) ρ H (f d lo hi S) E Q → r v lo hi H Q
theorem cut_rep {K : PySem.W.Frag} {G : Addr → Prop} {ρ : List Addr} {H : Hp} {ds : List D} {vs : List V} {lo hi : Option Int} (h : RepL K G ρ H ds vs) : RepL K G ρ H (cutD ds lo hi) (cutV vs lo hi) := by
  unfold cutD cutV
  rw [h.length]
  exact (h.drop _).take _
def rSlZ (K : PySem.W.Frag) : V → Option Int → Option Int → Hp → VK → Prop := fun x lo hi H Q => ∃ a xs, x = .ref a ∧ SqT K H a xs ∧
  (HT.sIx xs.length 0 lo = 0 ∧ HT.sIx xs.length xs.length hi = xs.length → Q (.ref a) H) ∧ (¬ (HT.sIx xs.length 0 lo = 0 ∧ HT.sIx xs.length xs.length hi = xs.length) → ∀ p (o : Obj), H p = none → o.dict = none → Q (.ref p) (upd H p (.frz o (.tup (cutV xs lo hi)))))
theorem sl_tupZ {X : Cx} : SlR X (rSlZ X.K) := by
  intro pins s σ H x v vl vu lo hi sl Q I rx hs pl pu h
  obtain ⟨a, xs, rfl, hx, q1, q2⟩ := h
  cases rx
  obtain ⟨its, r, ht, hz⟩ := I.tuple hx
  have hlen : its.toArray.size = xs.length := by rw [List.size_toArray]; exact r.length.symm
  refine ⟨"tuple", _, PyProof.Rows.slot_tuple_getitem.lookup, ht.typeIs, ?_⟩
  by_cases hw : HT.sIx xs.length 0 lo = 0 ∧ HT.sIx xs.length xs.length hi = xs.length
  · exact getItem_tuple_whole ht hs pl pu (by rw [hlen]; exact hw) ⟨.ref a, H, I, rfl, q1 hw⟩
  · refine HT.getItem_tuple_cut ht hs pl pu (by rw [hlen]; exact hw) ?_ (by rw [hlen]; exact hz)
    rw [hlen]
    refine ⟨.ref s.heap.objs.size, _, I.laid (t' := s.toks) (o := .frz { cls := .type "tuple", data := .seq ((its.toArray.toList.drop (HT.sIx xs.length 0 lo)).take (HT.sIx xs.length xs.length hi - HT.sIx xs.length 0 lo)).toArray } (.tup (cutV xs lo hi))) (fun b ob q => Heap.get?_push_of_some _ q) (Nat.le_refl _) ?_, rfl, q2 hw _ _ (I.hok.fresh (Nat.le_refl _)) rfl⟩
    exact ⟨Heap.get?_push_size _ rfl, Nat.le_trans (cutV_length xs lo hi) hz, _, (r.drop (HT.sIx xs.length 0 lo)).take (HT.sIx xs.length xs.length hi - HT.sIx xs.length 0 lo), IsTup.new _ _⟩
theorem sld_any {K : PySem.W.Frag} : SlD K (fun x lo hi H Q => rSlZ K x lo hi H Q ∨ rSlL K x lo hi H Q) dSl := by
  intro G ρ H S d v lo hi E Q r x h
  have lst : isTup d = false → ∀ ds, seqOf S d = some ds → Ok K G (Rep K G) ρ H (.ok (.lst (cutD ds lo hi)) S) E Q → rSlL K v lo hi H Q := fun ht ds e h => by
    obtain ⟨a, vs, rfl, h1, h2⟩ := rep_seq r x e
    rw [if_neg (by rw [ht]; decide)] at h1
    refine ⟨a, vs, rfl, h1, fun p hp => ?_⟩
    have k2 : Keep G ρ H ρ (upd H p (.lst (cutV vs lo hi))) := Keep.new hp r.gt
    exact h _ ρ _ (r.new hp) ⟨p, _, rfl, ⟨r.fresh hp, r.ngn hp, upd_same⟩, RepL.keep k2 _ _ (cut_rep h2)⟩ k2
  cases d with
  | tup ds =>
    obtain ⟨a, vs, rfl, h1, h2⟩ := x
    refine .inl ⟨a, vs, rfl, .inl h1, fun hw => ?_, fun hw p o hp ho => ?_⟩
    · refine Ok.now (a := D.tup (cutD ds lo hi)) h r ⟨a, vs, rfl, h1, ?_⟩
      have e : cutV vs lo hi = vs := by
        unfold cutV
        rw [hw.1, hw.2]
        simp
      have := cut_rep (lo := lo) (hi := hi) h2
      rw [e] at this
      exact this
    · have k2 : Keep G ρ H ρ (upd H p (.frz o (.tup (cutV vs lo hi)))) := Keep.new hp r.gt
      exact h (.ref p) ρ _ (r.new hp ho) ⟨p, _, rfl, .inr ⟨o, upd_same⟩, RepL.keep k2 _ _ (cut_rep h2)⟩ k2
  | lst ds => exact .inr (lst rfl ds rfl h)
  | fz ds => exact .inr (lst rfl ds rfl h)
  | cell n =>
    have h : Ok K G (Rep K G) ρ H (match seqOf S (.cell n) with | some ds => .ok (.lst (cutD ds lo hi)) S | none => .bad) E Q := h
    cases e : seqOf S (.cell n) with
    | none => rw [e] at h; exact h.elim
    | some ds => rw [e] at h; exact .inr (lst rfl ds e h)
  | _ => exact h.elim
section
variable {X : Cx} {e a b : Expr} {lo hi : Option Expr} {pos p2 : Pos} {cA : Nat → Addr} {W : WX}
theorem je_ix {ma mb : M D} (ha : PE X a (tE X.K cA W ma)) (hb : PE X b (tE X.K cA W mb)) (hs : PlainIx b := by exact fun _ _ => rfl) : PE X (.Subscript a b pos) (tE X.K cA W (e2 dIx ma mb)) :=
  pe_imp (pe_ix ix_seq ha hb hs) (op_read od_ix)
theorem po_imp {o : Option Expr} {t t' : TO} (h : PO X o t) (i : ∀ σ H Q, t' σ H Q → t σ H Q) : PO X o t' := ⟨fun pins s σ H Q I hw => h.run pins s σ H Q I (i σ H Q hw)⟩
def tOo (K : PySem.W.Frag) (cA : Nat → Addr) (W : WX) (m : M (Option Int)) : TO := fun σ H Q => ∃ G ρ env S, RelE K G ρ H env σ ∧ RelS K G ρ S H ∧ Ok K G (fun _ _ (a b : Option Int) => b = a) ρ H (m env S) (WE' cA W σ) Q
def oNone : M (Option Int) := fun _ S => .ok none S
def oSome (m : M D) : M (Option Int) := fun env S => (m env S).bind fun d S1 => match d with
  | .int i => .ok (some i) S1
  | _ => .bad
theorem jo_none : PO X none (tOo X.K cA W oNone) := po_imp po_none fun _ _ _ ⟨_, _, _, _, _, hS, h⟩ => h.now hS rfl
theorem jo_some {m : M D} (h : PE X e (tE X.K cA W m)) : PO X (some e) (tOo X.K cA W (oSome m)) := by
  refine po_imp (po_some h) ?_
  rintro σ H Q ⟨G, ρ, env, S, hE, hS, h⟩
  refine ⟨G, ρ, env, S, hE, hS, Ok.bind h fun x S1 v ρ1 H1 r1 x1 k1 h1 => ?_⟩
  cases x with
  | int i => exact ⟨i, x1, h1.now r1 rfl⟩
  | _ => exact h1.elim
def eSl (f : D → Option Int → Option Int → Store → Res D) (ma : M D) (ml mh : M (Option Int)) : M D := fun env S => (ma env S).bind fun x S1 => (ml env S1).bind fun l S2 => (mh env S2).bind fun u S3 => f x l u S3
theorem je_sl {ma : M D} {ml mh : M (Option Int)} (ha : PE X a (tE X.K cA W ma)) (hl : PO X lo (tOo X.K cA W ml)) (hh : PO X hi (tOo X.K cA W mh)) : PE X (.Subscript a (.Slice lo hi none p2) pos) (tE X.K cA W (eSl dSl ma ml mh)) := by
  refine pe_imp (pe_slice (sl_tupZ.or sl_list) ha hl hh) ?_
  rintro σ H Q ⟨G, ρ, env, S, hE, hS, h⟩
  refine ⟨G, ρ, env, S, hE, hS, Ok.bind h fun x S1 v ρ1 H1 r1 x1 k1 h1 => ?_⟩
  refine ⟨G, ρ1, env, S1, hE.keep k1, r1, Ok.bind h1 fun l S2 l' ρ2 H2 r2 x2 k2 h2 => ?_⟩
  refine ⟨G, ρ2, env, S2, (hE.keep k1).keep k2, r2, Ok.bind h2 fun u S3 u' ρ3 H3 r3 x3 k3 h3 => ?_⟩
  cases (show l' = l from x2)
  cases (show u' = u from x3)
  exact sld_any G ρ3 H3 S3 x v l u _ Q r3 (Rep.keep (k2.trans k3) _ _ x1) h3
end
def fIt (S : Store) : D → Option IT
  | .tup ds => some ⟨ds, []⟩
  | .lst ds => some ⟨ds, []⟩
  | .fz ds => some ⟨ds, []⟩
  | .cell n => match S[n]? with
    | some (.lst ds) => some ⟨ds, [(n, ds)]⟩
    | _ => none
  | _ => none
def iSeq (m : M D) : M IT := fun env S => (m env S).bind fun d S1 => match fIt S1 d with
  | some t => .ok t S1
  | none => .bad
section
variable {K : PySem.W.Frag} {G : Addr → Prop} {ρ : List Addr} {H : Hp} {S : Store}
structure SeqT (K : PySem.W.Frag) (G : Addr → Prop) (ρ : List Addr) (H : Hp) (t : IT) (a : Addr) (b : Bool) : Prop where
  st : ∀ G1 ρ1 S1 H1, Keep2 G ρ H G1 ρ1 H1 → RelS K G1 ρ1 S1 H1 → t.chk S1 → ∃ vs, (if b = true then SqT K H1 a vs else SqL K H1 a vs) ∧ RepL K G1 ρ1 H1 t.ds vs
theorem seq_at (r : RelS K G ρ S H) {d : D} {v : V} {t : IT} (h : Rep K G ρ H d v) (e : fIt S d = some t) : ∃ a, v = .ref a ∧ SeqT K G ρ H t a (isTup d) ∧ t.chk S := by
  cases d with
  | tup ds =>
    cases e
    obtain ⟨a, vs, rfl, h1, h2⟩ := h
    exact ⟨a, rfl, ⟨fun G1 ρ1 S1 H1 k r1 c => ⟨vs, .inl (k.tup a vs h1), RepL.keep2 k ds vs h2⟩⟩, fun p hp => nomatch hp⟩
  | lst ds =>
    cases e
    obtain ⟨a, vs, rfl, h1, h2⟩ := h
    exact ⟨a, rfl, ⟨fun G1 ρ1 S1 H1 k r1 c => ⟨vs, (k.frL h1).sq, RepL.keep2 k ds vs h2⟩⟩, fun p hp => nomatch hp⟩
  | fz ds =>
    cases e
    obtain ⟨a, vs, rfl, h1, h2⟩ := h
    exact ⟨a, rfl, ⟨fun G1 ρ1 S1 H1 k r1 c => ⟨vs, (k.fzL h1).sq, RepL.keep2 k ds vs h2⟩⟩, fun p hp => nomatch hp⟩
  | cell n =>
    unfold fIt at e
    dsimp only at e
    cases eo : S[n]? with
    | none => rw [eo] at e; cases e
    | some o =>
      rw [eo] at e
      cases o with
      | dK kvs => cases e
      | dI kvs => cases e
      | ins _ _ => cases e
      | dS _ => cases e
      | gone => cases e
      | lst ds =>
        cases e
        obtain ⟨a, rfl, ha⟩ := h
        refine ⟨a, rfl, ⟨fun G1 ρ1 S1 H1 k r1 c => ?_⟩, fun p hp => ?_⟩
        · have c1 : S1[n]? = some (.lst ds) := c (n, ds) List.mem_cons_self
          obtain ⟨vs, h1, h2⟩ := r1.ob n _ a c1 (k.get ha)
          exact ⟨vs, .of h1, h2⟩
        · have : p = (n, ds) := by simpa using hp
          subst this
          exact eo
  | _ => cases e
end
section
variable {X : Cx} {tg e e2 : Expr} {pos p : Pos} {cA : Nat → Addr} {W : WX}
theorem wd_tup {K : PySem.W.Frag} {G : Addr → Prop} {ρ : List Addr} {H : Hp} {t : IT} {a : Addr} (q : SeqT K G ρ H t a true) : WD K G ρ H t (Itt K a) where
  go := fun G1 ρ1 S1 H1 i k r c hi => by
    obtain ⟨vs, h1, h2⟩ := q.st G1 ρ1 S1 H1 k r c
    have hv : i < vs.length := by rw [h2.length]; exact hi
    exact ⟨vs, vs[i], h1, List.getElem?_eq_getElem hv⟩
  stop := fun G1 ρ1 S1 H1 k r c => by
    obtain ⟨vs, h1, h2⟩ := q.st G1 ρ1 S1 H1 k r c
    exact ⟨vs, h1, Nat.le_of_eq h2.length⟩
  yld := fun G1 ρ1 S1 H1 i d x H2 k r c hd y => by
    obtain ⟨vs, h1, h2⟩ := q.st G1 ρ1 S1 H1 k r c
    obtain ⟨rfl, y2⟩ := y
    obtain ⟨v, h3, h4⟩ := h2.get hd
    have : some x = some v := (y2 vs h1).symm.trans h3
    cases this
    exact ⟨h4, Keep.refl, r⟩
theorem wd_lst {K : PySem.W.Frag} {G : Addr → Prop} {ρ : List Addr} {H : Hp} {t : IT} {a : Addr} (q : SeqT K G ρ H t a false) : WD K G ρ H t (Itl K a) where
  go := fun G1 ρ1 S1 H1 i k r c hi => by
    obtain ⟨vs, h1, h2⟩ := q.st G1 ρ1 S1 H1 k r c
    have hv : i < vs.length := by rw [h2.length]; exact hi
    exact ⟨vs, vs[i], h1, List.getElem?_eq_getElem hv⟩
  stop := fun G1 ρ1 S1 H1 k r c => by
    obtain ⟨vs, h1, h2⟩ := q.st G1 ρ1 S1 H1 k r c
    exact ⟨vs, h1, Nat.le_of_eq h2.length⟩
  yld := fun G1 ρ1 S1 H1 i d x H2 k r c hd y => by
    obtain ⟨vs, h1, h2⟩ := q.st G1 ρ1 S1 H1 k r c
    obtain ⟨rfl, y2⟩ := y
    obtain ⟨v, h3, h4⟩ := h2.get hd
    have : some x = some v := (y2 vs h1).symm.trans h3
    cases this
    exact ⟨h4, Keep.refl, r⟩
theorem pi_or {t u : TI} (h : PI X tg e t) (h' : PI X tg e u) : PI X tg e (fun σ H R => t σ H R ∨ u σ H R) := ⟨fun pins s σ H R I q => q.elim (h.run pins s σ H R I) (h'.run pins s σ H R I)⟩
theorem Keep2.refl {G : Addr → Prop} {ρ : List Addr} {H : Hp} : Keep2 G ρ H G ρ H := Keep.refl.two
theorem ji_seq {m : M D} (h : PE X e (tE X.K cA W m)) : PI X tg e (tI X.K cA W (iSeq m)) := by
  refine pi_imp (pi_or (pi_tup h) (pi_list h)) ?_
  rintro σ H R ⟨G, ρ, env, S, hE, hS, h⟩
  unfold iSeq at h
  cases hm : m env S with
  | bad => rw [hm] at h; exact h.elim
  | err c S1 =>
    rw [hm] at h
    refine .inl ⟨G, ρ, env, S, hE, hS, ?_⟩
    rw [hm]
    exact h
  | ok d S1 =>
    rw [hm] at h
    dsimp only [bind_ok] at h
    cases ei : fIt S1 d with
    | none => rw [ei] at h; exact h.elim
    | some t =>
      rw [ei] at h
      dsimp only at h
      cases ht : isTup d with
      | true =>
        refine .inl ⟨G, ρ, env, S, hE, hS, ?_⟩
        rw [hm]
        intro v ρ1 H1 r1 x1 k1
        obtain ⟨a, rfl, q, c⟩ := seq_at r1 x1 ei
        rw [ht] at q
        obtain ⟨vs, q1, q2⟩ := q.st G ρ1 S1 H1 Keep2.refl r1 c
        exact ⟨a, rfl, ⟨vs, q1⟩, h _ ρ1 H1 r1 (wd_tup q) k1⟩
      | false =>
        refine .inr ⟨G, ρ, env, S, hE, hS, ?_⟩
        rw [hm]
        intro v ρ1 H1 r1 x1 k1
        obtain ⟨a, rfl, q, c⟩ := seq_at r1 x1 ei
        rw [ht] at q
        obtain ⟨vs, q1, q2⟩ := q.st G ρ1 S1 H1 Keep2.refl r1 c
        exact ⟨a, rfl, ⟨vs, q1⟩, h _ ρ1 H1 r1 (wd_lst q) k1⟩
def rangeD (lo : Int) (n : Nat) : List D := (List.range n).map fun i => .int (lo + (i : Nat))
def iR1 (ma : M (List D)) : M IT := fun env S => (ma env S).bind fun ds S1 => match ds with
  | [.int j] => if -(2 ^ 62) ≤ j ∧ j < 2 ^ 62 then .ok ⟨(List.range j.toNat).map fun i => .int (i : Nat), []⟩ S1 else .bad
  | _ => .bad
theorem wd_range {K : PySem.W.Frag} {G : Addr → Prop} {ρ : List Addr} {H : Hp} (lo : Int) (n : Nat) : WD K G ρ H ⟨rangeD lo n, []⟩ (Itr lo n) where
  go := fun G1 ρ1 S1 H1 i k r c hi => by
    have hi : i < (rangeD lo n).length := hi
    unfold rangeD at hi
    simp at hi
    exact hi
  stop := fun G1 ρ1 S1 H1 k r c => by
    show n ≤ (rangeD lo n).length
    unfold rangeD
    simp
  yld := fun G1 ρ1 S1 H1 i d x H2 k r c hd y => by
    obtain ⟨rfl, rfl⟩ := y
    have hd1 : (rangeD lo n)[i]? = some d := hd
    unfold rangeD at hd1
    rw [List.getElem?_map] at hd1
    cases hr : (List.range n)[i]? with
    | none => rw [hr] at hd1; cases hd1
    | some j =>
      rw [hr] at hd1
      have ej : j = i := by
        have := List.getElem?_eq_some_iff.mp hr
        obtain ⟨h1, h2⟩ := this
        simp at h2
        exact h2.symm
      rw [ej] at hd1
      have hd2 : some (D.int (lo + (i : Nat))) = some d := hd1
      rw [← Option.some.inj hd2]
      exact ⟨rfl, Keep.refl, r⟩
theorem ji_range1 {ma : M (List D)} (hg : Gl X "range") (hm : X.mg "range" = none) (ha : PA X [e] (tAr X.K cA W ma)) (hs : starEach [e] X.env = [(false, eval e X.env)] := by rfl) : PI X tg (.Call (.Name "range" p) [e] [] pos) (tI X.K cA W (iR1 ma)) := by
  refine pi_imp (pi_range1 hg hm ha hs) ?_
  rintro σ H R ⟨G, ρ, env, S, hE, hS, h⟩
  refine ⟨G, ρ, env, S, hE, hS, Ok.bind h fun ds S1 vs ρ1 H1 r1 x1 k1 h1 => ?_⟩
  match ds, h1, x1 with
  | [.int j], h1, x1 =>
    obtain ⟨v, _, rfl, q1, rfl⟩ := x1
    cases (show v = .int j from q1)
    dsimp only at h1
    by_cases hj : -(2 ^ 62) ≤ j ∧ j < 2 ^ 62
    · rw [if_pos hj] at h1
      refine ⟨j, rfl, hj.1, hj.2, h1 _ ρ1 H1 r1 ?_ Keep.refl⟩
      have e : (List.range j.toNat).map (fun i => D.int (i : Nat)) = rangeD 0 j.toNat := by
        unfold rangeD
        congr
        funext i
        rw [Int.zero_add]
      rw [e]
      exact wd_range 0 j.toNat
    · rw [if_neg hj] at h1; exact h1.elim
def enumD : Nat → List D → List D
  | _, [] => []
  | n, d :: ds => .tup [.int (n : Nat), d] :: enumD (n + 1) ds
theorem enumD_get : ∀ (n : Nat) (ds : List D) (i : Nat) (x : D), (enumD n ds)[i]? = some x → ∃ d, ds[i]? = some d ∧ x = .tup [.int ((n + i : Nat) : Int), d]
  | _, [], i, x, h => by simp [enumD] at h
  | n, d :: ds, 0, x, h => by
    have h : some (D.tup [.int (n : Nat), d]) = some x := h
    cases h
    exact ⟨d, rfl, rfl⟩
  | n, d :: ds, i + 1, x, h => by
    obtain ⟨d', h1, h2⟩ := enumD_get (n + 1) ds i x h
    exact ⟨d', h1, by rw [h2]; congr 4; omega⟩
theorem enumD_len : ∀ (n : Nat) (ds : List D), (enumD n ds).length = ds.length
  | _, [] => rfl
  | n, d :: ds => by show (enumD (n + 1) ds).length + 1 = ds.length + 1; rw [enumD_len]
def iEnumM (ma : M (List D)) : M IT := fun env S => (ma env S).bind fun ds S1 => match ds with
  | [d] => (match fIt S1 d with
    | some t => .ok ⟨enumD 0 t.ds, t.cells⟩ S1
    | none => .bad)
  | _ => .bad
theorem wd_enum {K : PySem.W.Frag} {G : Addr → Prop} {ρ : List Addr} {H : Hp} {t : IT} {a : Addr} {b : Bool} (q : SeqT K G ρ H t a b) : WD K G ρ H ⟨enumD 0 t.ds, t.cells⟩ (if b = true then IteT K a else IteL K a) := by
  cases b with
  | true =>
    refine ⟨fun G1 ρ1 S1 H1 i k r c hi => ?_, fun G1 ρ1 S1 H1 k r c => ?_, fun G1 ρ1 S1 H1 i d x H2 k r c hd y => ?_⟩
    · obtain ⟨vs, h1, h2⟩ := q.st G1 ρ1 S1 H1 k r c
      have hi : i < (enumD 0 t.ds).length := hi
      rw [enumD_len] at hi
      have hv : i < vs.length := by rw [h2.length]; exact hi
      exact ⟨vs, vs[i], h1, List.getElem?_eq_getElem hv⟩
    · obtain ⟨vs, h1, h2⟩ := q.st G1 ρ1 S1 H1 k r c
      exact ⟨vs, h1, by show vs.length ≤ (enumD 0 t.ds).length; rw [enumD_len, h2.length]; exact Nat.le_refl _⟩
    · obtain ⟨vs, h1, h2⟩ := q.st G1 ρ1 S1 H1 k r c
      obtain ⟨d', e1, e2⟩ := enumD_get 0 t.ds i d hd
      obtain ⟨T, y', o, rfl, hT, rfl, ho, hy⟩ := y
      obtain ⟨v, h3, h4⟩ := h2.get e1
      have : some y' = some v := (hy vs h1).symm.trans h3
      cases this
      have k2 : Keep G1 ρ1 H1 ρ1 (upd H1 T (.frz o (.tup [.int (i : Nat), y']))) := Keep.new hT r.gt
      refine ⟨?_, k2, r.new hT ho⟩
      rw [e2]
      exact ⟨T, _, rfl, .inr ⟨o, upd_same⟩, .int (i : Nat), [y'], rfl, by rw [Nat.zero_add]; rfl, y', [], rfl, Rep.keep k2 _ _ h4, rfl⟩
  | false =>
    refine ⟨fun G1 ρ1 S1 H1 i k r c hi => ?_, fun G1 ρ1 S1 H1 k r c => ?_, fun G1 ρ1 S1 H1 i d x H2 k r c hd y => ?_⟩
    · obtain ⟨vs, h1, h2⟩ := q.st G1 ρ1 S1 H1 k r c
      have hi : i < (enumD 0 t.ds).length := hi
      rw [enumD_len] at hi
      have hv : i < vs.length := by rw [h2.length]; exact hi
      exact ⟨vs, vs[i], h1, List.getElem?_eq_getElem hv⟩
    · obtain ⟨vs, h1, h2⟩ := q.st G1 ρ1 S1 H1 k r c
      exact ⟨vs, h1, by show vs.length ≤ (enumD 0 t.ds).length; rw [enumD_len, h2.length]; exact Nat.le_refl _⟩
    · obtain ⟨vs, h1, h2⟩ := q.st G1 ρ1 S1 H1 k r c
      obtain ⟨d', e1, e2⟩ := enumD_get 0 t.ds i d hd
      obtain ⟨T, y', o, rfl, hT, rfl, ho, hy⟩ := y
      obtain ⟨v, h3, h4⟩ := h2.get e1
      have : some y' = some v := (hy vs h1).symm.trans h3
      cases this
      have k2 : Keep G1 ρ1 H1 ρ1 (upd H1 T (.frz o (.tup [.int (i : Nat), y']))) := Keep.new hT r.gt
      refine ⟨?_, k2, r.new hT ho⟩
      rw [e2]
      exact ⟨T, _, rfl, .inr ⟨o, upd_same⟩, .int (i : Nat), [y'], rfl, by rw [Nat.zero_add]; rfl, y', [], rfl, Rep.keep k2 _ _ h4, rfl⟩
theorem ji_enum {ma : M (List D)} {elts : List Expr} {kk : Nat} {tpos : Pos} (hg : Gl X "enumerate") (hm : X.mg "enumerate" = none) (ha : PA X [e] (tAr X.K cA W ma)) (hs : starEach [e] X.env = [(false, eval e X.env)] := by rfl) : PI X (.Tuple elts kk tpos) (.Call (.Name "enumerate" p) [e] [] pos) (tI X.K cA W (iEnumM ma)) := by
  refine pi_imp (pi_or (pi_enumT hg hm ha hs) (pi_enumL hg hm ha hs)) ?_
  rintro σ H R ⟨G, ρ, env, S, hE, hS, h⟩
  unfold iEnumM at h
  cases hm : ma env S with
  | bad => rw [hm] at h; exact h.elim
  | err c S1 =>
    rw [hm] at h
    refine .inl ⟨G, ρ, env, S, hE, hS, ?_⟩
    rw [hm]
    exact h
  | ok ds S1 =>
    rw [hm] at h
    dsimp only [bind_ok] at h
    match ds, hm, h with
    | [d], hm, h =>
      dsimp only at h
      cases ei : fIt S1 d with
      | none => rw [ei] at h; exact h.elim
      | some t =>
        rw [ei] at h
        dsimp only at h
        cases ht : isTup d with
        | true =>
          refine .inl ⟨G, ρ, env, S, hE, hS, ?_⟩
          rw [hm]
          intro vs ρ1 H1 r1 x1 k1
          obtain ⟨v, _, rfl, q1, rfl⟩ := x1
          obtain ⟨a, rfl, q, c⟩ := seq_at r1 q1 ei
          rw [ht] at q
          obtain ⟨vs, q1, q2⟩ := q.st G ρ1 S1 H1 Keep2.refl r1 c
          exact ⟨a, vs, rfl, q1, h _ ρ1 H1 r1 (wd_enum q) k1⟩
        | false =>
          refine .inr ⟨G, ρ, env, S, hE, hS, ?_⟩
          rw [hm]
          intro vs ρ1 H1 r1 x1 k1
          obtain ⟨v, _, rfl, q1, rfl⟩ := x1
          obtain ⟨a, rfl, q, c⟩ := seq_at r1 q1 ei
          rw [ht] at q
          obtain ⟨vs, q1, q2⟩ := q.st G ρ1 S1 H1 Keep2.refl r1 c
          exact ⟨a, vs, rfl, q1, h _ ρ1 H1 r1 (wd_enum q) k1⟩
end
end Rf

namespace Rf
open PySem PySem.Spec PyProof.Rows L2
def dLen (ds : List D) (S : Store) : Res D := match ds with
  | [d] => (match seqOf S d with
    | some xs => .ok (.int (xs.length : Nat)) S
    | none => .bad)
  | _ => .bad
theorem cd_len {K : PySem.W.Frag} : CallD K (fun xs H Q => ∃ p ys, xs = [.ref p] ∧ (SqL K H p ys ∨ SqT K H p ys) ∧ Q (.int ys.length) H) dLen := by
  intro G ρ H S ds vs E Q r x h
  match ds, h, x with
  | [d], h, x =>
    obtain ⟨v, _, rfl, q1, rfl⟩ := x
    unfold dLen at h
    dsimp only at h
    cases e : seqOf S d with
    | none => rw [e] at h; exact h.elim
    | some xs =>
      rw [e] at h
      obtain ⟨a, ws, rfl, h1, h2⟩ := rep_seq r q1 e
      refine ⟨a, ws, rfl, ?_, h.now r (by rw [h2.length]; rfl)⟩
      by_cases ht : isTup d = true
      · rw [if_pos ht] at h1; exact .inr h1
      · rw [if_neg ht] at h1; exact .inl h1
def tyN : D → Option String
  | .non => some "NoneType"
  | .bl _ => some "bool"
  | .int _ => some "int"
  | .str _ => some "str"
  | .tup _ => some "tuple"
  | .lst _ => some "list"
  | .fz _ => some "list"
  | .cell _ => none
  | .ty _ => none
  | .exc _ => none
  | .cl _ => none
  | .dct _ _ _ => none
def isiT : String → String → Option Bool
  | "NoneType", "int" => some false | "NoneType", "bool" => some false | "NoneType", "tuple" => some false | "NoneType", "str" => some false
  | "bool", "int" => some true | "bool", "bool" => some true | "bool", "tuple" => some false | "bool", "str" => some false
  | "int", "int" => some true | "int", "bool" => some false | "int", "tuple" => some false | "int", "str" => some false
  | "str", "int" => some false | "str", "bool" => some false | "str", "tuple" => some false | "str", "str" => some true
  | "tuple", "int" => some false | "tuple", "bool" => some false | "tuple", "tuple" => some true | "tuple", "str" => some false
  | "list", "int" => some false | "list", "bool" => some false | "list", "tuple" => some false | "list", "str" => some false
  | _, _ => none
theorem isiT_ok {a b : String} {r : Bool} (h : isiT a b = some r) : kitB a b = some r := by
  unfold isiT at h
  split at h <;> first | (cases h; decide +kernel) | cases h
def dIsi (ds : List D) (S : Store) : Res D := match ds with
  | [d, .ty T] => (match tyN d with
    | some a => (match isiT a T with
      | some b => .ok (.bl b) S
      | none => .bad)
    | none => .bad)
  | _ => .bad
theorem sqT_ty {K : PySem.W.Frag} {H : Hp} {a : Addr} {vs : List V} (h : SqT K H a vs) : TyX K H (.ref a) (.type "tuple") := by
  rcases h with (h | ⟨o, h⟩) | ⟨o, its, n, h1, h2, _⟩
  · exact .base (.tup h)
  · exact .fTuple h
  · exact .kTuple h1 h2
theorem tyN_ok {K : PySem.W.Frag} {G : Addr → Prop} {ρ : List Addr} {H : Hp} {d : D} {v : V} {a : String} (x : Rep K G ρ H d v) (e : tyN d = some a) : TyX K H v (.type a) := by
  cases d with
  | non => cases e; cases (show v = .non from x); exact .base .non
  | bl b => cases e; cases (show v = .bl b from x); exact .base (.bl b)
  | int b => cases e; cases (show v = .int b from x); exact .base (.int b)
  | str b => cases e; cases (show v = .str b from x); exact .base (.str b)
  | tup ds => cases e; obtain ⟨a, vs, rfl, h1, _⟩ := x; exact sqT_ty (.inl h1)
  | lst ds => cases e; obtain ⟨a, vs, rfl, h1, _⟩ := x; exact .base (.lst h1.2.2)
  | fz ds =>
    cases e
    obtain ⟨a, vs, rfl, h1, _⟩ := x
    rcases h1 with ⟨o, h⟩ | ⟨o, its, n, h1, h2, _⟩
    · exact .base (.frz h)
    · exact .kList h1 h2
  | cell n => cases e
  | ty n => cases e
  | exc n => cases e
  | cl n => cases e
  | dct _ _ _ => cases e
theorem cd_isi {K : PySem.W.Frag} : CallD K (rIsi K) dIsi := by
  intro G ρ H S ds vs E Q r x h
  unfold dIsi at h
  split at h
  · rename_i d T
    obtain ⟨v, _, rfl, q1, w, _, rfl, q2, rfl⟩ := x
    cases (show w = .ty T from q2)
    split at h
    · rename_i a ea
      split at h
      · rename_i b eb
        exact ⟨v, .ty T, .type a, .type T, b, rfl, .ty T, tyN_ok q1 ea, kit_ty (isiT_ok eb), h.now r rfl⟩
      · exact h.elim
    · exact h.elim
  · exact h.elim
def dTuple (ds : List D) (S : Store) : Res D := match ds with
  | [d] => (match seqOf S d with
    | some xs => .ok (.tup xs) S
    | none => .bad)
  | _ => .bad
theorem call_tupleZ {X : Cx} : CallR X (.type "tuple") (fun xs H Q => ∃ p ys, xs = [.ref p] ∧ ((SqL X.K H p ys ∧ ∀ l (o : Obj), H l = none → o.dict = none → Q (.ref l) (upd H l (.frz o (.tup ys)))) ∨ (SqT X.K H p ys ∧ Q (.ref p) H))) := by
  intro pins s σ H xs us Q I r h
  obtain ⟨p, ys, rfl, h⟩ := h
  obtain ⟨u, rfl, rx⟩ := vals1 r
  cases rx
  rcases h with ⟨hq, q⟩ | ⟨hq, q⟩
  · obtain ⟨its, r', pl, hz⟩ := I.list hq
    have hlen := r'.length
    refine call_tuple_list pl.isList (fun h' kp => ?_) (by simp only [List.size_toArray] <;> omega)
    have I1 : Inv X pins σ H { s with heap := h' } := I.kept (t' := s.toks) kp
    have I2 : Inv X pins σ (upd H h'.objs.size (.frz { cls := .type "tuple", data := .seq its.toArray } (.tup ys))) { s with heap := h'.push { cls := .type "tuple", data := .seq its.toArray } } :=
      I1.laid (t' := s.toks) (fun b o e => Heap.get?_push_of_some _ e) (Nat.le_refl _) (show ObjOk X.prog X.w _ _ _ (.frz _ (.tup ys)) from ⟨Heap.get?_push_size _ rfl, hz, its, r', IsTup.new _ _⟩)
    exact ⟨.ref h'.objs.size, _, I2, rfl, q _ _ (I1.hok.fresh (Nat.le_refl _)) rfl⟩
  · obtain ⟨its, r', pl, hz⟩ := I.tuple hq
    exact call_tuple_same pl ⟨.ref p, H, I, rfl, q⟩
theorem cd_tuple {K : PySem.W.Frag} : CallD K (fun xs H Q => ∃ p ys, xs = [.ref p] ∧ ((SqL K H p ys ∧ ∀ l (o : Obj), H l = none → o.dict = none → Q (.ref l) (upd H l (.frz o (.tup ys)))) ∨ (SqT K H p ys ∧ Q (.ref p) H))) dTuple := by
  intro G ρ H S ds vs E Q r x h
  match ds, h, x with
  | [d], h, x =>
    obtain ⟨v, _, rfl, q1, rfl⟩ := x
    unfold dTuple at h
    dsimp only at h
    cases e : seqOf S d with
    | none => rw [e] at h; exact h.elim
    | some xs =>
      rw [e] at h
      obtain ⟨a, ws, rfl, h1, h2⟩ := rep_seq r q1 e
      refine ⟨a, ws, rfl, ?_⟩
      by_cases ht : isTup d = true
      · rw [if_pos ht] at h1
        refine .inr ⟨h1, h.now r ?_⟩
        cases d with
        | tup ds => cases e; exact q1
        | _ => cases ht
      · rw [if_neg ht] at h1
        refine .inl ⟨h1, fun p o hp ho => ?_⟩
        have k2 : Keep G ρ H ρ (upd H p (.frz o (.tup ws))) := Keep.new hp r.gt
        exact h _ ρ _ (r.new hp ho) ⟨p, ws, rfl, .inr ⟨o, upd_same⟩, RepL.keep k2 _ _ h2⟩ k2
def nums : List D → Option (List Int)
  | [] => some []
  | .int i :: r => (nums r).map (i :: ·)
  | _ :: _ => none
theorem ints_map : ∀ {ds : List D} {ns : List Int}, nums ds = some ns → ds = ns.map .int
  | [], ns, h => by cases h; rfl
  | .int i :: r, ns, h => by
    unfold nums at h
    cases e : nums r with
    | none => rw [e] at h; cases h
    | some ms =>
      rw [e] at h
      have h : some (i :: ms) = some ns := h
      cases h
      rw [ints_map e]; rfl
  | .non :: _, _, h => by cases h
  | .bl _ :: _, _, h => by cases h
  | .str _ :: _, _, h => by cases h
  | .ty _ :: _, _, h => by cases h
  | .exc _ :: _, _, h => by cases h
  | .tup _ :: _, _, h => by cases h
  | .lst _ :: _, _, h => by cases h
  | .fz _ :: _, _, h => by cases h
  | .cell _ :: _, _, h => by cases h
@[simp] theorem ints_of : ∀ ns : List Int, nums (ns.map .int) = some ns
  | [] => rfl
  | n :: ns => by show (nums (ns.map .int)).map (n :: ·) = _; rw [ints_of]; rfl
theorem rep_ints {K : PySem.W.Frag} {G : Addr → Prop} {ρ : List Addr} {H : Hp} : ∀ {ns : List Int} {vs : List V}, RepL K G ρ H (ns.map .int) vs → vs = ns.map V.int
  | [], vs, h => h
  | n :: ns, vs, h => by
    obtain ⟨v, vs', rfl, h1, h2⟩ := h
    cases (show v = .int n from h1)
    rw [rep_ints h2]; rfl
def dLt (d e : D) (S : Store) : Res D := match d, e with
  | .int i, .int j => .ok (.bl (decide (i < j))) S
  | .tup xs, .tup ys => (match nums xs, nums ys with
    | some ns, some ms => .ok (.bl (HT.lexLt ns ms)) S
    | _, _ => .bad)
  | _, _ => .bad
theorem od_lt {K : PySem.W.Frag} : OpD K (fun x y H Q => (rI0 fun i j => .bl (decide (i < j))) x y H Q ∨ rLtT K x y H Q) dLt := by
  intro G ρ H S d1 d2 v1 v2 E Q r x1 x2 h
  unfold dLt at h
  split at h
  · rename_i i j
    exact .inl ⟨i, j, x1, x2, h.now r rfl⟩
  · rename_i xs ys
    split at h
    · rename_i ns ms e1 e2
      obtain ⟨a, vs, rfl, h1, h2⟩ := x1
      obtain ⟨b, ws, rfl, h3, h4⟩ := x2
      rw [ints_map e1] at h2
      rw [ints_map e2] at h4
      rw [rep_ints h2] at h1
      rw [rep_ints h4] at h3
      exact .inr ⟨a, b, ns, ms, rfl, rfl, .inl h1, .inl h3, h.now r rfl⟩
    · exact h.elim
  · exact h.elim
theorem op_lt2 {X : Cx} (hu : X.A.units < cLine) : OpR X (compareOp .Lt) (fun x y H Q => (rI0 fun i j => .bl (decide (i < j))) x y H Q ∨ rLtT X.K x y H Q) := op_lt.or (op_ltT hu)
def dMin2 (mx : Bool) (ds : List D) (S : Store) : Res D := match ds with
  | [.int i, .int j] => .ok (.int (if mx = true then (if j > i then j else i) else (if j < i then j else i))) S
  | [d] => (match seqOf S d with
    | some (.int x :: xs) => (match nums xs with
      | some ns => .ok (.int (if mx = true then ns.foldl max x else ns.foldl min x)) S
      | none => .bad)
    | _ => .bad)
  | _ => .bad
def rMm (K : PySem.W.Frag) (mx : Bool) : List V → Hp → VK → Prop := fun xs H Q => (∃ i j, xs = [.int i, .int j] ∧ Q (.int (if mx = true then (if j > i then j else i) else (if j < i then j else i))) H) ∨
  ∃ (a : Addr) (x : Int) (ns : List Int), xs = [.ref a] ∧ (SqL K H a ((x :: ns).map V.int) ∨ SqT K H a ((x :: ns).map V.int)) ∧ Q (.int (if mx = true then ns.foldl max x else ns.foldl min x)) H
theorem cd_mm {K : PySem.W.Frag} {mx : Bool} : CallD K (rMm K mx) (dMin2 mx) := by
  intro G ρ H S ds vs E Q r x h
  unfold dMin2 at h
  split at h
  · rename_i i j
    obtain ⟨v, _, rfl, q1, w, _, rfl, q2, rfl⟩ := x
    cases (show v = .int i from q1)
    cases (show w = .int j from q2)
    exact .inl ⟨i, j, rfl, h.now r rfl⟩
  · rename_i d
    obtain ⟨v, _, rfl, q1, rfl⟩ := x
    split at h
    · rename_i y ys es
      split at h
      · rename_i ns en
        obtain ⟨a, ws, rfl, h1, h2⟩ := rep_seq r q1 es
        have e0 : D.int y :: ys = (y :: ns).map .int := by rw [ints_map en]; rfl
        rw [e0] at h2
        rw [rep_ints h2] at h1
        refine .inr ⟨a, y, ns, rfl, ?_, h.now r rfl⟩
        by_cases ht : isTup d = true
        · rw [if_pos ht] at h1; exact .inr h1
        · rw [if_neg ht] at h1; exact .inl h1
      · exact h.elim
    · exact h.elim
  · exact h.elim
theorem reads_ints {h : Heap} : ∀ {us : List Value} {ns : List Int}, IntsAre us ns → ∃ as, ReadsAll h us (ns.map .int) as
  | us, ns, hi => by
    induction ns generalizing us with
    | nil =>
      have := hi.length
      have e : us = [] := List.eq_nil_of_length_eq_zero this
      subst e
      exact ⟨_, .nil⟩
    | cons n ns ih =>
      match us, hi with
      | u :: us, hi =>
        obtain ⟨⟨t, e⟩, hr⟩ : (∃ t, u = Value.int n t) ∧ IntsAre us ns := by
          cases hi with
          | cons h1 h2 => exact ⟨⟨_, rfl⟩, by assumption⟩
        subst e
        obtain ⟨as, q⟩ := ih us hr
        exact ⟨_, .cons (Reads.int n t) q⟩
end Rf

namespace PyProof.Rows
open PySem PySem.Calls
section
variable {prog : Program} {w : World} {A : Around} {E : Value → Shared → Prop} {s : Shared}
theorem collect_tup' {l : Addr} {vs : List Value} {Q : List Value → Shared → Prop} (hl : s.heap.IsTuple l vs.toArray)
    (h : Q vs { s with heap := (s.heap.push (seqObj "list" #[] 0)).update s.heap.objs.size (Obj.mapSeq (· ++ vs.toArray)) }) (hsz : vs.length ≤ sizeLine) :
    wpAny (model prog w) A (collect (.ref l)) Q E s := by
  obtain ⟨o, ho, hc, n, hd⟩ := id hl
  unfold collect
  refine wpAny_bind (wpAny_runValue (codeAny_builtin entry_proto_collect' ?_))
  show wpAny _ _ (do again (.builtin "list.__iadd__" ⟨[← newList [], .ref l], []⟩)) _ _ s
  refine wpAny_bind (wpAny_newList (wpAny_pure ⟨Code.quiet_builtin _ (by decide +kernel), codeAny_builtin entry_list_iadd' ?_⟩))
  show wpAny _ _ (Builtin.List.listExtendWith (.ref s.heap.objs.size) (.ref l) (.ref s.heap.objs.size)) _ _ { s with heap := s.heap.push (seqObj "list" #[] 0) }
  unfold Builtin.List.listExtendWith
  have ho' : (s.heap.push (seqObj "list" #[] 0)).get? l = some o := Heap.get?_push_of_some _ ho
  refine wpAny_bind (wpAny_typeOf (T := "tuple") ⟨o, ho', hc⟩ ?_)
  have ht : (Value.type "tuple" == Value.type "tuple") = true := by rfl
  rw [if_pos (by rw [ht]; simp)]
  refine wpAny_bind (listItems_at ho' hd ?_)
  refine wpAny_bind (listItems_at (xs := #[]) (n := 0) (Heap.get?_push_size _ rfl) rfl ?_)
  rw [if_neg (by simp)]
  refine wpAny_bind (listUpdate_at (xs := #[]) (n := 0) (Heap.get?_push_size _ rfl) rfl ?_ (Nat.zero_le _) (by show (#[] ++ vs.toArray).size ≤ sizeLine + 1; simp only [Array.size_append, List.size_toArray, List.length_nil]; omega))
  refine wpAny_pure ?_
  show wpAny (model prog w) A (do
      let o ← load s.heap.objs.size
      match o.data with
      | .seq xs _ => pure xs.toList
      | _ => unsupported "internal:collect") Q E { s with heap := (s.heap.push (seqObj "list" #[] 0)).update s.heap.objs.size (Obj.mapSeq (· ++ vs.toArray)) }
  refine wpAny_bind (wpAny_load (get?_update_seq (Heap.get?_push_size _ rfl) _) ?_)
  show wpAny _ _ (pure ((#[] : Array Value) ++ vs.toArray).toList) Q E _
  rw [show ((#[] : Array Value) ++ vs.toArray).toList = vs by simp]
  exact wpAny_pure h
end
end PyProof.Rows
namespace PySem.W
open PySem PySem.Calls PyProof.Rows
section
variable {prog : Program} {w : World} {A : Around} {E : Value → Shared → Prop} {s : Shared}
theorem sorted_of_sortT' {l : Addr} {vs : List Value} {kw : List (Str × Value)} {Q : Value → Shared → Prop} (hl : s.heap.IsTuple l vs.toArray) (hL : vs.length ≤ sizeLine) (ha1 : argsOk "sorted" ⟨[.ref l], kw⟩) (ha2 : ∀ x, argsOk "list.sort" ⟨[.ref x], kw⟩)
    (body : ∀ E' : Value → Shared → Prop, wpAny (model prog w) A.in1.in1 (Builtin.«list.sort» ⟨[.ref (s.heap.objs.size + 1)], kw⟩) (fun f s' => f = .done (.ret .none) ∧ Q (.ref (s.heap.objs.size + 1)) s') E' { s with heap := copyHeap s.heap vs }) :
    wpAny (model prog w) A (call (.builtin "sorted") [.ref l] kw) Q E s := by
  refine call_function_entry_kw kind_sorted plain_sorted entry_sorted ha1 ?_
  unfold Builtin.«sorted»
  refine wpAny_bind (m := checkCount "sorted" 1 1 _) (wpAny_pure ?_)
  refine wpAny_bind (collect_tup' hl ?_ hL)
  refine wpAny_bind (wpAny_newList ?_ hL)
  have hsz : ((s.heap.push (seqObj "list" #[] 0)).update s.heap.objs.size (Obj.mapSeq (· ++ vs.toArray))).objs.size = s.heap.objs.size + 1 := by
    rw [Heap.size_update, size_push']
  show wpAny _ _ _ _ _ { s with heap := copyHeap s.heap vs }
  rw [hsz]
  refine wpAny_bind (wpAny_holding (wpAny_call_entry_kw slot_list_sort ⟨_, copyHeap_at s.heap vs, rfl⟩ entry_list_sort ?body (ha2 _)))
  case body =>
    show wpAny (model prog w) A.in1.in1 (Builtin.«list.sort» ⟨[.ref (s.heap.objs.size + 1)], kw⟩) _ _ _
    refine wpAny_mono (body _) (fun f s' hf => ?_) fun _ _ e => e
    obtain ⟨rfl, hq⟩ := hf
    exact ⟨_, rfl, wpAny_pure ⟨_, rfl, hq⟩⟩
variable {β : Type} {R : Value → β → Prop} {enc : β → PyData} {vs : List Value} {bs : List β}
theorem sorted_dataT' {l : Addr} {Q : Value → Shared → Prop} (hl : s.heap.IsTuple l vs.toArray) (e : EachIs R vs bs) (er : EachIs (fun v b => ∃ as, Reads s.heap v (enc b) as) vs bs) (hal : AllAlike (bs.map enc)) (hk : Sortable (bs.map enc)) (hL : bs.length ≤ sizeLine)
    (hu : ∀ b, b ∈ bs → A.units + 2 + (enc b).depth < cLine) (h : ∀ out, out.length = bs.length → EachIs R out (bs.mergeSort (dataLe false enc)) → Q (.ref (s.heap.objs.size + 1)) { s with heap := sortedAll s.heap vs (List.toArray out) }) :
    wpAny (model prog w) A (call (.builtin "sorted") [.ref l]) Q E s := by
  have er' : EachIs (fun v b => ∃ as, Reads (sortingHeap (copyHeap s.heap vs) (s.heap.objs.size + 1) vs) v (enc b) as) vs bs := er.mono fun _ _ ⟨as, r⟩ => ⟨as, PyProof.Rows.Reads.keeps (fun _ _ => sorting_copy_old) r⟩
  exact sorted_of_sortT' hl (by rw [e.length]; exact hL) (args_sorted1 _) (fun _ => args_list_sort _) fun _ => list_sort_vals (s := { s with heap := copyHeap s.heap vs }) (copyHeap_at s.heap vs) (SortsAt.data (s := { s with heap := sortingHeap (copyHeap s.heap vs) (s.heap.objs.size + 1) vs }) (each_map (R := fun v d => ∃ as, Reads (sortingHeap (copyHeap s.heap vs) (s.heap.objs.size + 1) vs) v d as) enc er') hal hk (bound_map hu)) (by rw [e.length]; exact hL)
    ⟨rfl, h _ (by rw [sortVals_length false rfl]; exact e.length) (sortVals_data false e er' hal)⟩
end
end PySem.W
namespace Rf
open PySem PySem.Spec PyProof.Rows L2
open PySem.W (EachIs AllAlike alike dataLe)
section
variable {X : Cx}
theorem cr_mm {mx : Bool} (hc : X.calm = true) (hu : X.A.units + 64 < cLine) : CallR X (.builtin (if mx = true then "max" else "min")) (rMm X.K mx) := by
  intro pins s σ H xs us Q I r h
  rcases h with ⟨i, j, rfl, q⟩ | ⟨a, x, ns, rfl, hq, q⟩
  · cases mx with
    | true => exact call_max2 hc pins s σ H _ us Q I r ⟨i, j, rfl, q⟩
    | false => exact call_min2 hc pins s σ H _ us Q I r ⟨i, j, rfl, q⟩
  · have dep : PyData.depthAll ((x :: ns).map PyData.int) = 0 := PySem.W.depth_ints _
    have alk : PySem.W.AlikeAll ((x :: ns).map PyData.int) := by
      refine ⟨fun d hd d' hd' => ?_, fun d hd => ?_⟩
      · obtain ⟨i, _, rfl⟩ := List.mem_map.mp hd
        obtain ⟨j, _, rfl⟩ := List.mem_map.mp hd'
        rfl
      · obtain ⟨i, _, rfl⟩ := List.mem_map.mp hd
        exact fun z => nomatch z
    have hu' : X.A.units + 1 + PyData.depthAll ((x :: ns).map PyData.int) < cLine := by rw [dep]; omega
    have fin : ∀ (its : List Value), Vals ((x :: ns).map V.int) its → ∀ (i : Nat) v h' tk bs (m : Int), its.toArray[i]? = some v → Reads h' v (.int m) bs → (∀ b o, s.heap.get? b = some o → h'.get? b = some o) → m = (if mx = true then ns.foldl max x else ns.foldl min x) → EP X pins σ Q v { s with heap := h', toks := tk } := fun its rv i v h' tk bs m hv rd hk em => by
      have hi : IntsAre its (x :: ns) := rv.ints
      have hv' : its[i]? = some v := by simpa using hv
      have : ∃ j t, v = Value.int j t := by
        obtain ⟨hlt, ev⟩ := List.getElem?_eq_some_iff.mp hv'
        have hlt2 : i < (x :: ns).length := by rw [← hi.length]; exact hlt
        obtain ⟨u, e1, e2⟩ := rv.get (i := i) (x := V.int (x :: ns)[i]) (by rw [List.getElem?_map, List.getElem?_eq_getElem hlt2]; rfl)
        rw [hv'] at e1
        cases e1
        obtain ⟨t, e⟩ := e2
        exact ⟨_, t, e⟩
      obtain ⟨j, t, rfl⟩ := this
      have ej : j = m := by cases rd; rfl
      subst ej
      exact ⟨.int j, H, I.kept (t' := tk) hk, ⟨t, rfl⟩, by rw [em]; exact q⟩
    rw [Vals.ref1 r]
    rcases hq with hq | hq
    · obtain ⟨its, rv, pl, hz⟩ := I.list hq
      obtain ⟨as, ra⟩ := reads_ints (h := s.heap) rv.ints
      cases mx with
      | true => exact PySem.W.max_list_data (I.ok.hd hc) pl.isList (by simpa using ra) alk hu' fun i v h' tk bs hv rd hk => fin its rv i v h' tk bs (ns.foldl max x) hv (by rw [← PySem.W.maxD_ints]; exact rd) hk rfl
      | false => exact PySem.W.min_list_data (I.ok.hd hc) pl.isList (by simpa using ra) alk hu' fun i v h' tk bs hv rd hk => fin its rv i v h' tk bs (ns.foldl min x) hv (by rw [← PySem.W.minD_ints]; exact rd) hk rfl
    · obtain ⟨its, rv, pl, hz⟩ := I.tuple hq
      obtain ⟨as, ra⟩ := reads_ints (h := s.heap) rv.ints
      cases mx with
      | true => exact PySem.W.max_tuple_data (I.ok.hd hc) pl (by simpa using ra) alk hu' fun i v h' tk bs hv rd hk => fin its rv i v h' tk bs (ns.foldl max x) hv (by rw [← PySem.W.maxD_ints]; exact rd) hk rfl
      | false => exact PySem.W.min_tuple_data (I.ok.hd hc) pl (by simpa using ra) alk hu' fun i v h' tk bs hv rd hk => fin its rv i v h' tk bs (ns.foldl min x) hv (by rw [← PySem.W.minD_ints]; exact rd) hk rfl
def rSortD (K : PySem.W.Frag) : List V → Hp → VK → Prop := fun xs H Q => ∃ (a : Addr) (bs : List (PyData × V)), xs = [.ref a] ∧ (SqL K H a (bs.map (·.2)) ∨ SqT K H a (bs.map (·.2))) ∧ (∀ b ∈ bs, Dp K H b.2 b.1) ∧ AllAlike (bs.map (·.1)) ∧ PySem.W.Sortable (bs.map (·.1)) ∧ (∀ b ∈ bs, b.1.depth ≤ 12) ∧ bs.length ≤ sizeLine ∧
  ∀ p, H p = none → Q (.ref p) (upd H p (.lst ((bs.mergeSort (dataLe false (·.1))).map (·.2))))
theorem each_zip {P : PyData × V → Prop} : ∀ {bs : List (PyData × V)} {us : List Value}, Vals (bs.map (·.2)) us → EachIs (fun u b => RelV b.2 u) us bs
  | [], _, .nil => .nil
  | b :: bs, _, .cons r t => .cons r (each_zip (P := P) t)
theorem each_reads {pins : List (Addr × Obj)} {σ : L2.St} {H : Hp} {s : Shared} (I : L2.Inv X pins σ H s) : ∀ {bs : List (PyData × V)} {us : List Value}, (∀ b ∈ bs, Dp X.K H b.2 b.1) → Vals (bs.map (·.2)) us → EachIs (fun u b => ∃ as, Reads s.heap u b.1 as) us bs
  | [], _, _, .nil => .nil
  | b :: bs, _, h, .cons r t => .cons (Dp.reads I b.1 b.2 _ (h b List.mem_cons_self) r) (each_reads I (fun c hc => h c (List.mem_cons_of_mem _ hc)) t)
theorem vals_each : ∀ {bs : List (PyData × V)} {us : List Value}, EachIs (fun u (b : PyData × V) => RelV b.2 u) us bs → Vals (bs.map (·.2)) us
  | [], _, .nil => .nil
  | b :: bs, _, .cons r t => .cons r (vals_each t)
theorem cr_sortD (hu : X.A.units + 64 < cLine) : CallR X (.builtin "sorted") (rSortD X.K) := by
  intro pins s σ H xs us Q I r h
  obtain ⟨a, bs, rfl, hq, hd, hal, hk, hdep, hL, q⟩ := h
  have key : ∀ (its : List Value) (out : List Value), out.length = bs.length → EachIs (fun u (b : PyData × V) => RelV b.2 u) out (bs.mergeSort (dataLe false (·.1))) → EP X pins σ Q (.ref (s.heap.objs.size + 1)) { s with heap := sortedAll s.heap its (List.toArray out) } := fun its out ho he => by
    obtain ⟨ep, he'⟩ := PyProof.Rows.sortedAll_at s.heap its (List.toArray out)
    have hv := vals_each he
    have hlen : ((bs.mergeSort (dataLe false (·.1))).map (·.2)).length ≤ sizeLine := by rw [List.length_map, List.length_mergeSort]; exact hL
    exact ⟨.ref _, upd H (s.heap.objs.size + 1) (.lst ((bs.mergeSort (dataLe false (·.1))).map (·.2))), I.laid (t' := s.toks) (fun _ _ => PyProof.Rows.sortedAll_old) (Nat.le_succ _) ⟨hlen, out, ep, hv, by simpa using he'⟩, rfl, q _ (I.hok.fresh (Nat.le_succ _))⟩
  have hu2 : ∀ b, b ∈ bs → X.A.units + 2 + b.1.depth < cLine := fun b hb => by have := hdep b hb; omega
  rw [Vals.ref1 r]
  rcases hq with hq | hq
  · obtain ⟨its, rv, pl, hz⟩ := I.list hq
    exact PySem.W.sorted_data (R := fun u (b : PyData × V) => RelV b.2 u) (enc := (·.1)) pl.isList (each_zip (P := fun _ => True) rv) (each_reads I hd rv) hal hk hL hu2 (key its)
  · obtain ⟨its, rv, pl, hz⟩ := I.tuple hq
    exact PySem.W.sorted_dataT' (R := fun u (b : PyData × V) => RelV b.2 u) (enc := (·.1)) pl (each_zip (P := fun _ => True) rv) (each_reads I hd rv) hal hk hL hu2 (key its)
end
open Classical in
noncomputable def fSorted (ds : List D) (S : Store) : Res (List D) := match ds with
  | [d] => (match seqOf S d with
    | some xs => if xs.length ≤ big ∧ xs.all (shD 11) = true ∧ AllAlike (xs.map py) ∧ PySem.W.Sortable (xs.map py) then .ok (xs.mergeSort (dataLe false py)) S else .bad
    | none => .bad)
  | _ => .bad
theorem rep_dpl {K : PySem.W.Frag} {G : Addr → Prop} {ρ : List Addr} {H : Hp} : ∀ {xs : List D} {vs : List V}, RepL K G ρ H xs vs → xs.all (shD 11) = true → ∃ bs : List (D × V), bs.map (·.1) = xs ∧ bs.map (·.2) = vs ∧ ∀ b ∈ bs, Rep K G ρ H b.1 b.2 ∧ Dp K H b.2 (py b.1) ∧ (py b.1).depth ≤ 12
  | [], vs, h, _ => ⟨[], rfl, by rw [show vs = [] from h]; rfl, fun b hb => nomatch hb⟩
  | d :: xs, vs, h, hs => by
    obtain ⟨v, vs', rfl, h1, h2⟩ := h
    rw [List.all_cons, Bool.and_eq_true] at hs
    obtain ⟨bs, e1, e2, hb⟩ := rep_dpl h2 hs.2
    refine ⟨(d, v) :: bs, by rw [List.map_cons, e1], by rw [List.map_cons, e2], fun b hb' => ?_⟩
    rcases List.mem_cons.mp hb' with rfl | hb'
    · exact ⟨h1, rep_dp 11 d v hs.1 h1, Nat.le_succ_of_le (shD_ok 11 d hs.1).2⟩
    · exact hb b hb'
theorem repl_of {K : PySem.W.Frag} {G : Addr → Prop} {ρ : List Addr} {H : Hp} : ∀ (bs : List (D × V)), (∀ b ∈ bs, Rep K G ρ H b.1 b.2) → RepL K G ρ H (bs.map (·.1)) (bs.map (·.2))
  | [], _ => rfl
  | b :: bs, h => ⟨b.2, bs.map (·.2), rfl, h b List.mem_cons_self, repl_of bs fun c hc => h c (List.mem_cons_of_mem _ hc)⟩
theorem cf_sorted {K : PySem.W.Frag} : CallF K (rSortD K) fSorted := by
  intro G ρ H S ds vs E Q r x h
  match ds, h, x with
  | [d], h, x =>
    obtain ⟨v, _, rfl, q1, rfl⟩ := x
    unfold fSorted at h
    dsimp only at h
    cases e : seqOf S d with
    | none => rw [e] at h; exact h.elim
    | some xs =>
      rw [e] at h
      dsimp only at h
      by_cases hc : xs.length ≤ big ∧ xs.all (shD 11) = true ∧ AllAlike (xs.map py) ∧ PySem.W.Sortable (xs.map py)
      · rw [if_pos hc] at h
        obtain ⟨c1, c2, c3, c4⟩ := hc
        obtain ⟨a, ws, rfl, h1, h2⟩ := rep_seq r q1 e
        obtain ⟨bs, e1, e2, hb⟩ := rep_dpl h2 c2
        have em : (bs.map fun b => (py b.1, b.2)).map (·.1) = xs.map py := by rw [List.map_map, ← e1, List.map_map]; rfl
        have em2 : (bs.map fun b => (py b.1, b.2)).map (·.2) = ws := by rw [List.map_map, ← e2]; rfl
        have es : (bs.mergeSort fun p q => dataLe false py p.1 q.1).map (fun b => (py b.1, b.2)) = (bs.map fun b => (py b.1, b.2)).mergeSort (dataLe false (·.1)) := PySem.W.sort_maps (fun b : D × V => (py b.1, b.2)) fun _ _ _ _ => rfl
        have es1 : (bs.mergeSort fun p q => dataLe false py p.1 q.1).map (·.1) = xs.mergeSort (dataLe false py) := by rw [PySem.W.sort_maps (s := dataLe false py) (fun b : D × V => b.1) fun _ _ _ _ => rfl, e1]
        refine ⟨a, bs.map fun b => (py b.1, b.2), rfl, ?_, fun b hb' => ?_, by rw [em]; exact c3, by rw [em]; exact c4, fun b hb' => ?_, ?_, fun p hp => ?_⟩
        · rw [em2]
          by_cases ht : isTup d = true
          · rw [if_pos ht] at h1; exact .inr h1
          · rw [if_neg ht] at h1; exact .inl h1
        · obtain ⟨c, hc, rfl⟩ := List.mem_map.mp hb'
          exact (hb c hc).2.1
        · obtain ⟨c, hc, rfl⟩ := List.mem_map.mp hb'
          exact (hb c hc).2.2
        · rw [List.length_map, ← List.length_map (f := (·.1)), e1]; exact big_line c1
        · have em3 : ((bs.map fun b => (py b.1, b.2)).mergeSort (dataLe false (·.1))).map (·.2) = (bs.mergeSort fun p q => dataLe false py p.1 q.1).map (·.2) := by rw [← es, List.map_map]; rfl
          rw [em3]
          refine h p _ ρ H r ?_ Keep.refl hp
          rw [← es1]
          exact repl_of _ fun b hb' => (hb b ((List.mergeSort_perm _ _).mem_iff.mp hb')).1
      · rw [if_neg hc] at h; exact h.elim
end Rf

namespace L2
open PySem PySem.Spec PyProof.Rows
section
variable {w : World} {P : Program} {A : Around} {s : Shared} {E : Value → Shared → Prop}
abbrev set0 (w : World) : Obj := { cls := .type "set", dict := none, data := .set #[] 0 (.fresh 0 0 (!w.params.followText "set-order")) }
theorem setOfTup {l : Addr} {items : Array Value} (ks : List (Addr × List Int)) {Q : Value → Shared → Prop} (hh : A.handled = none) (hl : s.heap.IsTuple l items) (hit : items.toList = ks.map fun p => Value.ref p.1)
    (hfew : ks.length < 64) (hk : ∀ p ∈ ks, IsT P w s.heap p.2 p.1) (hu : A.units + 3 < cLine)
    (fin : ∀ (h' : Heap) (tk : Nat) L es ep t, SetTR P w h' s.heap.objs.size L es ep t → Got ks ks.length L → (∀ b o, s.heap.get? b = some o → h'.get? b = some o) → Q (.ref s.heap.objs.size) { s with heap := h', toks := tk }) :
    wpAny (model P w) A (call (Value.type "set") [Value.ref l]) Q E s := by
  have hlen : items.size = ks.length := by rw [← Array.length_toList, hit, List.length_map]
  obtain ⟨c0, tl0, hmro⟩ := F.called_set.mro
  have m0 := F.called_set.made
  have u0 := F.called_set.sub
  refine wpAny_call (codeAny_of_tree (show wpAny _ _ (callAny (.type "set") _) _ _ s from ?_))
  refine wpAny_pure ⟨Code.quiet_builtin _ (by decide +kernel), codeAny_builtin (F.entry_type_call) ?_⟩
  rw [Around.under_plain (weight_type_call_type "set" [Value.ref l] []) rfl]
  have c1 := F.called_set.notType
  have c2 := F.called_set.canCreate
  have c3 := F.typeCall_set_1 (.ref l)
  repeat (any_goals (first | wp_step | assumption))
  refine codeAny_mono (code_set_led1 (.ref l) (E := E) (Q₁ := fun ob s1 => ob = .ref s.heap.objs.size ∧ s1 = { s with heap := s.heap.push (set0 w) }) ⟨rfl, rfl⟩) fun r1 s1 hr1 => ?_
  cases r1 with
  | error e => exact hr1
  | ok f1 =>
    cases f1 with
    | ret ob =>
      obtain ⟨rfl, rfl⟩ := hr1
      have at0 : (s.heap.push (set0 w)).get? s.heap.objs.size = some (set0 w) := Heap.get?_push_size _ rfl
      have ty0 : Shared.TypeIs { s with heap := s.heap.push (set0 w) } (.ref s.heap.objs.size) "set" := ⟨_, at0, rfl⟩
      have i1 := F.called_set.init.lookup
      have i2 := F.called_set.init.bind (.ref s.heap.objs.size)
      repeat (any_goals (first | wp_step | assumption))
      refine codeAny_mono (codeAny_call_builtin (R := wants (fun r s2 => r = .none ∧ ∃ h' tk L es ep t, s2 = { s with heap := h', toks := tk } ∧ SetTR P w h' s.heap.objs.size L es ep t ∧ Got ks ks.length L ∧ (∀ b o, s.heap.get? b = some o → h'.get? b = some o)) E) F.called_set.init.plain F.entry_set_init (check_set_init_1 ty0 ?_)) fun r2 s2 hr2 => ?_
      · obtain ⟨oT, hol, hcl, nl, hdl⟩ := hl
        obtain ⟨o1, o2, o3, o4⟩ := oT
        simp only at hcl hdl
        subst hcl
        subst hdl
        have hol' : (s.heap.push (set0 w)).get? l = some { cls := .type "tuple", dict := o2, data := .seq items nl, slots := o4 } := Heap.get?_push_of_some _ hol
        have n1 := F.sub_tuple_set
        have n2 := F.sub_tuple_frozenset
        have n3 : (Value.type "tuple" == Value.type "dict") = false := by decide
        have hT : (s.heap.push (set0 w)).IsTuple l items := ⟨_, hol', rfl, nl, rfl⟩
        unfold Builtin.«set.__init__»
        unfold noKeywords Builtin.Frozenset.updateFrom
        generalize hpi : pyIter = pI
        wp_walk
        subst hpi
        refine wpAny_pyIter_tuple hT (wpAny_bind (wpAny_runValue ?_))
        have lS : l < s.heap.objs.size := Heap.lt_size hol
        have h3 : A.in1.in1.in1.handled = none := by simp [hh]
        have neI : l ≠ (s.heap.push (set0 w)).objs.size := by rw [Heap.size_push]; exact Nat.ne_of_lt (Nat.lt_succ_of_lt lS)
        have nS : s.heap.objs.size ∉ [(s.heap.push (set0 w)).objs.size, l] := by
          rw [Heap.size_push]
          intro hm
          rcases List.mem_cons.mp hm with z | z
          · omega
          · exact Nat.ne_of_gt lS (List.mem_singleton.mp z)
        have each : ∀ (i : Nat) (v : Value), items[i]? = some v → ∃ p, ks[i]? = some p ∧ v = .ref p.1 := fun i v hv => by
          rw [← Array.getElem?_toList, hit, List.getElem?_map] at hv
          obtain ⟨p, q1, q2⟩ := Option.map_eq_some_iff.mp hv
          exact ⟨p, q1, q2.symm⟩
        have free : ∀ b, s.heap.objs.size ≤ b → s.heap.get? b = none := fun b hb => by
          cases z : s.heap.get? b with
          | none => rfl
          | some o => exact (Nat.lt_irrefl b (Nat.lt_of_lt_of_le (Heap.lt_size z) hb)).elim
        refine set_update_tups ((Walks.tuple h3 _ l neI items).toS) s.heap.objs.size nS ks hlen hfew each s.heap hk (free _ (Nat.le_refl _)) (fun b hb => free b (by rw [List.mem_singleton.mp hb, Heap.size_push]; omega)) hu (items.size - 0) 0 _ (by omega) (Nat.zero_le _)
          ⟨⟨_, Heap.get?_push_size _ rfl, rfl, rfl⟩, (hT.push _)⟩ (fun b o e => Heap.get?_push_of_some _ (Heap.get?_push_of_some _ e)) ?first ?last
        case first => exact ⟨[], #[], 0, _, setTR_fresh (Heap.get?_push_of_some _ at0), Got.zero ks⟩
        case last =>
          intro s3 L es ep t hm q1 q2 q3
          obtain ⟨h', g2, d', tk', os'⟩ := s3
          cases (show g2 = s.gens from hm.gens)
          cases (show d' = s.drawn from hm.drawn)
          cases (show os' = s.os from hm.os)
          refine wpAny_pure ?_
          show wpAny _ _ (ret .none) _ _ _
          rw [hlen] at q2
          exact wpAny_pure ⟨rfl, h', tk', L, es, ep, t, rfl, q1, q2, q3⟩
      · cases r2 with
        | error e => exact hr2
        | ok f2 =>
          cases f2 with
          | ret r =>
            obtain ⟨rfl, h', tk, L, es, ep, t, rfl, q1, q2, q3⟩ := hr2
            repeat (any_goals (first | wp_step | assumption))
            exact fin _ _ _ _ _ _ q1 q2 q3
          | _ => exact hr2.elim
    | _ => exact hr1.elim
end
section
variable {X : Cx}
def rSetSq (K : PySem.W.Frag) (P : Program) (w : World) : List V → Hp → VK → Prop := fun xs H Q => ∃ (l : Addr) (ks : List (Addr × List Int)), xs = [V.ref l] ∧ (SqL K H l (ks.map fun p => V.ref p.1) ∨ SqT K H l (ks.map fun p => V.ref p.1)) ∧ (∀ p ∈ ks, SqT K H p.1 (p.2.map V.int)) ∧ ks.length < 64 ∧
  ∀ a L, H a = none → (∀ q ∈ L, q ∈ ks) → (∀ q ∈ ks, q.2 ∈ L.map (·.2)) → Q (.ref a) (upd H a (SetTO P w a L))
theorem cr_setSq (hc : X.calm = true) (hu : X.A.units + 64 < cLine) : CallR X (.type "set") (rSetSq X.K X.prog X.w) := by
  intro pins s σ H xs us Q I r ⟨l, ks, e, hl, hk, hf, q⟩
  subst e
  rcases hl with hl | hl
  · exact cr_setOfT hc hu pins s σ H _ us Q I r ⟨l, ks, rfl, hl, hk, hf, q⟩
  rw [Vals.ref1 r]
  obtain ⟨its, rv, pl, hz⟩ := I.tuple hl
  have free : H s.heap.objs.size = none := I.hok.fresh (Nat.le_refl _)
  refine setOfTup (P := X.prog) (w := X.w) ks (I.ok.hd hc) pl (by simpa using refs_of_vals rv) hf (fun p hp => I.isT (hk p hp)) (by omega) fun h' tk L es ep t R g k => ?_
  exact ⟨.ref s.heap.objs.size, upd H s.heap.objs.size (SetTO X.prog X.w s.heap.objs.size L), I.laid (t' := tk) k (Nat.le_refl _) (setTO_new R.t0), rfl, q _ L free (fun p hp => List.mem_of_mem_take (g.sub p hp)) fun p hp => g.all p (by rw [List.take_length]; exact hp)⟩
end
end L2

namespace Rf
open PySem PySem.Spec PyProof.Rows L2
section
variable {X : Cx} {a : Expr} {p p2 q pos : Pos} {cA : Nat → Addr} {W : WX}
end
abbrev PI2 := Int × Int
def pD (x : PI2) : D := .tup [.int x.1, .int x.2]
def prs : List D → Option (List PI2)
  | [] => some []
  | .tup [.int i, .int j] :: r => (prs r).map ((i, j) :: ·)
  | _ :: _ => none
theorem prs_map : ∀ {ds : List D} {xs : List PI2}, prs ds = some xs → ds = xs.map pD := by
  intro ds
  induction ds with
  | nil => intro xs h; cases h; rfl
  | cons d r ih =>
    intro xs h
    unfold prs at h
    split at h
    · cases ‹_ = []›
    · rename_i i j r' e
      cases e
      cases e2 : prs r with
      | none => rw [e2] at h; cases h
      | some ys =>
        rw [e2] at h
        have h : some ((i, j) :: ys) = some xs := h
        cases h
        rw [ih e2]; rfl
    · cases h
@[simp] theorem prs_of : ∀ xs : List PI2, prs (xs.map pD) = some xs
  | [] => rfl
  | x :: xs => by show (prs (xs.map pD)).map ((x.1, x.2) :: ·) = _; rw [prs_of]; rfl
def leP (x y : PI2) : Bool := decide (x.1 < y.1 ∨ (x.1 = y.1 ∧ x.2 ≤ y.2))
def dedP : List PI2 → List PI2
  | [] => []
  | x :: r => if x ∈ r then dedP r else x :: dedP r
theorem mem_dedP {y : PI2} : ∀ {l : List PI2}, y ∈ dedP l ↔ y ∈ l
  | [] => Iff.rfl
  | x :: r => by
    unfold dedP
    by_cases h : x ∈ r
    · rw [if_pos h, mem_dedP (l := r), List.mem_cons]
      exact ⟨.inr, fun q => q.elim (fun e => e ▸ h) id⟩
    · rw [if_neg h, List.mem_cons, List.mem_cons, mem_dedP (l := r)]
theorem dedP_nodup : ∀ l : List PI2, (dedP l).Nodup
  | [] => List.nodup_nil
  | x :: r => by
    unfold dedP
    by_cases h : x ∈ r
    · rw [if_pos h]; exact dedP_nodup r
    · rw [if_neg h]; exact List.nodup_cons.mpr ⟨fun q => h (mem_dedP.mp q), dedP_nodup r⟩
def sortU (l : List PI2) : List PI2 := (dedP l).mergeSort leP
theorem leP_total (a b : PI2) : (leP a b || leP b a) = true := by
  unfold leP
  rw [Bool.or_eq_true, decide_eq_true_iff, decide_eq_true_iff]
  omega
theorem leP_trans (a b c : PI2) (h1 : leP a b = true) (h2 : leP b c = true) : leP a c = true := by
  unfold leP at *
  rw [decide_eq_true_iff] at *
  omega
theorem leP_anti {a b : PI2} (h1 : leP a b = true) (h2 : leP b a = true) : a = b := by
  unfold leP at *
  rw [decide_eq_true_iff] at *
  obtain ⟨a1, a2⟩ := a
  obtain ⟨b1, b2⟩ := b
  simp only at *
  have : a1 = b1 ∧ a2 = b2 := by omega
  rw [this.1, this.2]
theorem sortU_pw (l : List PI2) : (sortU l).Pairwise (fun a b => leP a b = true) := List.pairwise_mergeSort leP_trans leP_total _
theorem sortU_nodup (l : List PI2) : (sortU l).Nodup := (List.mergeSort_perm _ _).nodup_iff.mpr (dedP_nodup l)
theorem mem_sortU {x : PI2} {l : List PI2} : x ∈ sortU l ↔ x ∈ l := by
  unfold sortU
  rw [(List.mergeSort_perm _ _).mem_iff, mem_dedP]
theorem sorted_one : ∀ {l m : List PI2}, l.Nodup → m.Nodup → (∀ x, x ∈ l ↔ x ∈ m) → l.Pairwise (fun a b => leP a b = true) → m.Pairwise (fun a b => leP a b = true) → l = m
  | [], [], _, _, _, _, _ => rfl
  | [], y :: m, _, _, h, _, _ => absurd ((h y).mpr List.mem_cons_self) (by simp)
  | x :: l, [], _, _, h, _, _ => absurd ((h x).mp List.mem_cons_self) (by simp)
  | x :: l, y :: m, n1, n2, h, p1, p2 => by
    obtain ⟨a1, a2⟩ := List.pairwise_cons.mp p1
    obtain ⟨b1, b2⟩ := List.pairwise_cons.mp p2
    obtain ⟨c1, c2⟩ := List.nodup_cons.mp n1
    obtain ⟨d1, d2⟩ := List.nodup_cons.mp n2
    have e : x = y := by
      rcases List.mem_cons.mp ((h x).mp List.mem_cons_self) with z | z
      · exact z
      · rcases List.mem_cons.mp ((h y).mpr List.mem_cons_self) with w | w
        · exact w.symm
        · exact leP_anti (a1 y w) (b1 x z)
    subst e
    congr 1
    refine sorted_one c2 d2 (fun z => ⟨fun hz => ?_, fun hz => ?_⟩) a2 b2
    · rcases List.mem_cons.mp ((h z).mp (List.mem_cons_of_mem _ hz)) with w | w
      · exact absurd (w ▸ hz) c1
      · exact w
    · rcases List.mem_cons.mp ((h z).mpr (List.mem_cons_of_mem _ hz)) with w | w
      · exact absurd (w ▸ hz) d1
      · exact w
def inB (x : PI2) : Bool := decide (0 ≤ x.1 ∧ x.1 < 64 ∧ 0 ≤ x.2 ∧ x.2 < 64)
def itemsD : D → Option (List D)
  | .lst ds => some ds
  | .tup ds => some ds
  | _ => none
theorem rep_items {K : PySem.W.Frag} {G : Addr → Prop} {ρ : List Addr} {H : Hp} {d : D} {ds : List D} {v : V} (h : Rep K G ρ H d v) (e : itemsD d = some ds) : ∃ b vs, v = .ref b ∧ (SqL K H b vs ∨ SqT K H b vs) ∧ RepL K G ρ H ds vs := by
  cases d with
  | lst ds' => cases e; obtain ⟨b, vs, rfl, q1, q2⟩ := h; exact ⟨b, vs, rfl, .inl q1.sq, q2⟩
  | tup ds' => cases e; obtain ⟨b, vs, rfl, q1, q2⟩ := h; exact ⟨b, vs, rfl, .inr (.inl q1), q2⟩
  | _ => cases e
def fSortSet (d : D) (S : Store) : Res (List D) := match itemsD d with
  | some ds => (match prs ds with
    | some xs => if xs.length < 64 ∧ xs.all inB = true then .ok ((sortU xs).map pD) S else .bad
    | none => .bad)
  | none => .bad
section
variable {X : Cx} {a : Expr} {p p2 q pos : Pos} {cA : Nat → Addr} {W : WX}
theorem rep_pairs {K : PySem.W.Frag} {G : Addr → Prop} {ρ : List Addr} {H : Hp} : ∀ {xs : List PI2} {vs : List V}, RepL K G ρ H (xs.map pD) vs → ∃ ks : List (Addr × List Int), vs = ks.map (fun p => V.ref p.1) ∧ ks.map (·.2) = xs.map (fun x => [x.1, x.2]) ∧ ∀ p ∈ ks, Rd H p.1 (.tup (p.2.map V.int))
  | [], vs, h => ⟨[], h, rfl, fun p hp => nomatch hp⟩
  | x :: xs, vs, h => by
    obtain ⟨v, vs', rfl, h1, h2⟩ := h
    obtain ⟨ks, e1, e2, e3⟩ := rep_pairs h2
    obtain ⟨b, ws, rfl, q1, q2⟩ := h1
    have ew : ws = [V.int x.1, V.int x.2] := by
      obtain ⟨v1, _, rfl, z1, v2, _, rfl, z2, rfl⟩ := q2
      cases (show v1 = .int x.1 from z1)
      cases (show v2 = .int x.2 from z2)
      rfl
    subst ew
    refine ⟨(b, [x.1, x.2]) :: ks, by rw [e1]; rfl, by rw [List.map_cons, e2]; rfl, fun p hp => ?_⟩
    rcases List.mem_cons.mp hp with rfl | hp
    · exact q1
    · exact e3 p hp
theorem pairs_rep {K : PySem.W.Frag} {G : Addr → Prop} {ρ : List Addr} {H : Hp} : ∀ {ks : List (Addr × List Int)} {xs : List PI2}, ks.map (·.2) = xs.map (fun x => [x.1, x.2]) → (∀ p ∈ ks, Rd H p.1 (.tup (p.2.map V.int))) → RepL K G ρ H (xs.map pD) (ks.map fun p => V.ref p.1)
  | [], [], _, _ => rfl
  | [], x :: xs, e, _ => by cases e
  | k :: ks, [], e, _ => by cases e
  | k :: ks, x :: xs, e, h => by
    rw [List.map_cons, List.map_cons] at e
    injection e with ea eb
    refine ⟨.ref k.1, ks.map fun p => V.ref p.1, rfl, ⟨k.1, k.2.map V.int, rfl, h k List.mem_cons_self, ?_⟩, pairs_rep eb fun p hp => h p (List.mem_cons_of_mem _ hp)⟩
    rw [ea]
    exact ⟨_, _, rfl, rfl, _, _, rfl, rfl, rfl⟩
theorem jf_sortSet {m : M D} (hc : X.calm = true) (hu : X.A.units + 64 < cLine) (hg : Gl X "sorted") (hm : X.mg "sorted" = none) (hg2 : Gl X "set") (hm2 : X.mg "set" = none) (ha : PE X a (tE X.K cA W m))
    (hs : starEach [a] X.env = (false, eval a X.env) :: starEach [] X.env := by rfl) (hs1 : starEach [.Call (.Name "set" p2) [a] [] q] X.env = (false, eval (.Call (.Name "set" p2) [a] [] q) X.env) :: starEach [] X.env := by rfl) :
    PE X (.Call (.Name "sorted" p) [.Call (.Name "set" p2) [a] [] q] [] pos) (tFr X.K cA W (fun env S => (m env S).bind fun d S1 => fSortSet d S1)) := by
  refine pe_imp (pe_callB (cr_sortedT hc) hg hm (by decide +kernel) (pa_cons (pe_callTy (cr_setSq hc hu) hg2 hm2 (by decide +kernel) (pa_cons ha pa_nil hs) (he := hs)) pa_nil hs1) (he := hs1)) ?_
  rintro σ H Q ⟨G, ρ, env, S, hE, hS, h⟩
  refine ⟨G, ρ, env, S, hE, hS, OkF.bind h fun x S1 v ρ1 H1 r1 x1 k1 h1 => ?_⟩
  unfold fSortSet at h1
  split at h1
  · rename_i ds eds
    split at h1
    · rename_i xs ex
      by_cases hl : xs.length < 64 ∧ xs.all inB = true
      · rw [if_pos hl] at h1
        obtain ⟨b, vs, rfl, q1, q2⟩ := rep_items x1 eds
        rw [prs_map ex] at q2
        obtain ⟨ks, e1, e2, e3⟩ := rep_pairs q2
        have hkl : ks.length = xs.length := by rw [← List.length_map (f := (·.2)), e2, List.length_map]
        refine ⟨b, ks, rfl, by rw [← e1]; exact q1, fun p hp => .inl (e3 p hp), by rw [hkl]; exact hl.1, fun sA L hn hL1 hL2 => ?_⟩
        have kN : Keep G ρ1 H1 ρ1 (upd H1 sA (SetTO X.prog X.w sA L)) := Keep.new hn r1.gt
        have mem_xs : ∀ p ∈ ks, ∃ x ∈ xs, p.2 = [x.1, x.2] := fun p hp => by
          have : p.2 ∈ ks.map (·.2) := List.mem_map.mpr ⟨p, hp, rfl⟩
          rw [e2] at this
          obtain ⟨x, hx, ex⟩ := List.mem_map.mp this
          exact ⟨x, hx, ex.symm⟩
        have bnd : ∀ x ∈ xs, 0 ≤ x.1 ∧ x.1 < 64 ∧ 0 ≤ x.2 ∧ x.2 < 64 := fun x hx => of_decide_eq_true (List.all_eq_true.mp hl.2 x hx)
        refine ⟨sA, L, 2, 64, rfl, upd_same, fun p hp => kN.sqT (.inl (e3 p (hL1 p hp))), by decide, fun p hp => ?_, fun L' pA hperm hnd h64 hpw hn2 => ?_⟩
        · obtain ⟨x, hx, ep⟩ := mem_xs p (hL1 p hp)
          have hb := bnd x hx
          rw [ep]
          refine ⟨rfl, ?_⟩
          intro y hy
          simp at hy
          rcases hy with rfl | rfl
          · exact ⟨hb.1, hb.2.1⟩
          · exact ⟨hb.2.2.1, hb.2.2.2⟩
        · -- the list is the sorted one
          have hL'k : ∀ p ∈ L', p ∈ ks := fun p hp => hL1 p (hperm.mem_iff.mp hp)
          obtain ⟨ys, ey, hys⟩ : ∃ ys : List PI2, L'.map (·.2) = ys.map (fun x => [x.1, x.2]) ∧ ∀ y ∈ ys, y ∈ xs := by
            clear hpw h64 hnd hperm
            induction L' with
            | nil => exact ⟨[], rfl, fun y hy => nomatch hy⟩
            | cons p L' ih =>
              obtain ⟨ys, ey, hys⟩ := ih fun q hq => hL'k q (List.mem_cons_of_mem _ hq)
              obtain ⟨x, hx, ep⟩ := mem_xs p (hL'k p List.mem_cons_self)
              refine ⟨x :: ys, by rw [List.map_cons, List.map_cons, ey, ep], fun y hy => ?_⟩
              rcases List.mem_cons.mp hy with rfl | hy
              · exact hx
              · exact hys y hy
          have inj : ∀ x y : PI2, ([x.1, x.2] : List Int) = [y.1, y.2] → x = y := fun x y e => by
            injection e with e1 e2
            injection e2 with e2 _
            exact Prod.ext e1 e2
          have ynd : ys.Nodup := by
            rw [ey] at hnd
            exact List.Pairwise.of_map (fun x : PI2 => ([x.1, x.2] : List Int)) (fun a b hne e => hne (by rw [e])) hnd
          have ymem : ∀ x, x ∈ ys ↔ x ∈ xs := fun x => by
            refine ⟨hys x, fun hx => ?_⟩
            have h1 : ([x.1, x.2] : List Int) ∈ ks.map (·.2) := by rw [e2]; exact List.mem_map.mpr ⟨x, hx, rfl⟩
            obtain ⟨p, hp, ep⟩ := List.mem_map.mp h1
            have h2 := hL2 p hp
            rw [ep] at h2
            have h3 : ([x.1, x.2] : List Int) ∈ L'.map (·.2) := (hperm.map (·.2)).mem_iff.mpr h2
            rw [ey] at h3
            obtain ⟨y, hy, e⟩ := List.mem_map.mp h3
            rw [← inj y x e]; exact hy
          have ypw : ys.Pairwise (fun a b => leP a b = true) := by
            have hpw2 : (L'.map (·.2)).Pairwise (fun u v => TS.code 64 u ≤ TS.code 64 v) := List.pairwise_map.mpr hpw
            rw [ey, List.pairwise_map] at hpw2
            refine List.Pairwise.imp_of_mem (fun {a b} ha hb hab => ?_) hpw2
            have ba := bnd a (hys a ha)
            have bb := bnd b (hys b hb)
            rw [code_pair, code_pair] at hab
            unfold leP
            rw [decide_eq_true_iff]
            omega
          have eys : ys = sortU xs := sorted_one ynd (sortU_nodup xs) (fun x => by rw [ymem x, mem_sortU]) ypw (sortU_pw xs)
          refine h1 pA (L'.map fun q => V.ref q.1) ρ1 _ (r1.new hn) ?_ kN hn2
          rw [← eys]
          exact RepL.keep kN _ _ (pairs_rep ey fun p hp => e3 p (hL'k p hp))
      · rw [if_neg hl] at h1; exact h1.elim
    · exact h1.elim
  · exact h1.elim
def cellOf (S : Store) : D → Option (Nat × List D)
  | .cell n => match S[n]? with
    | some (.lst ds) => some (n, ds)
    | _ => none
  | _ => none
theorem cellOf_some {S : Store} {d : D} {n : Nat} {ds : List D} (h : cellOf S d = some (n, ds)) : d = .cell n ∧ S[n]? = some (.lst ds) := by
  cases d with
  | cell k =>
    unfold cellOf at h
    dsimp only at h
    cases e : S[k]? with
    | none => rw [e] at h; cases h
    | some o =>
      rw [e] at h
      cases o with
      | lst xs => cases h; exact ⟨rfl, e⟩
      | dK kvs => cases h
      | dI kvs => cases h
      | ins _ _ => cases h
      | dS _ => cases h
      | gone => cases h
  | _ => cases h
def MtD (K : PySem.W.Frag) (r : V → List V → Hp → VK → Prop) (f : D → List D → Store → Res D) : Prop :=
  ∀ G ρ H S d ds v vs E Q, RelS K G ρ S H → Rep K G ρ H d v → RepL K G ρ H ds vs → Ok K G (Rep K G) ρ H (f d ds S) E Q → r v vs H Q
def eMt (f : D → List D → Store → Res D) (T : D → Store → Bool) (mo : M D) (ma : M (List D)) : M D := fun env S => (mo env S).bind fun o S1 => if T o S1 = true then (ma env S1).bind fun xs S2 => f o xs S2 else .bad
def isLst (d : D) (S : Store) : Bool := (seqOf S d).isSome && !isTup d
def TyD (K : PySem.W.Frag) (T : String) (t : D → Store → Bool) : Prop := ∀ G ρ H S d v, RelS K G ρ S H → Rep K G ρ H d v → t d S = true → tyV K T v H
theorem tyd_list {K : PySem.W.Frag} : TyD K "list" isLst := by
  intro G ρ H S d v r x h
  unfold isLst at h
  rw [Bool.and_eq_true] at h
  cases e : seqOf S d with
  | none => rw [e] at h; cases h.1
  | some xs =>
    obtain ⟨a, vs, rfl, h1, h2⟩ := rep_seq r x e
    have ht : isTup d = false := by simpa using h.2
    rw [if_neg (by rw [ht]; decide)] at h1
    exact .inl ⟨rfl, _, h1⟩
theorem je_mt {o e : Expr} {es : List Expr} {T : String} {name : Str} {apos : Pos} {mo : M D} {ma : M (List D)} {r : V → List V → Hp → VK → Prop} {f : D → List D → Store → Res D} {t : D → Store → Bool} (hty' : TyD X.K T t) (hd : MtD X.K r f)
    (hpe : PE X (.Call (.Attribute o name apos) (e :: es) [] pos) (tBM X.K T r (tE X.K cA W mo) (tAr X.K cA W ma))) : PE X (.Call (.Attribute o name apos) (e :: es) [] pos) (tE X.K cA W (eMt f t mo ma)) := by
  refine pe_imp hpe ?_
  rintro σ H Q ⟨G, ρ, env, S, hE, hS, h⟩
  refine ⟨G, ρ, env, S, hE, hS, Ok.bind h fun x S1 v ρ1 H1 r1 x1 k1 h1 => ?_⟩
  by_cases ht : t x S1 = true
  · rw [if_pos ht] at h1
    refine ⟨hty' G ρ1 H1 S1 x v r1 x1 ht, G, ρ1, env, S1, hE.keep k1, r1, Ok.bind h1 fun xs S2 vs ρ2 H2 r2 x2 k2 h2 => ?_⟩
    exact hd G ρ2 H2 S2 x xs v vs _ Q r2 (Rep.keep k2 _ _ x1) x2 h2
  · rw [if_neg ht] at h1; exact h1.elim
def dSetL (o i v : D) (S : Store) : Option Store := match cellOf S o, i with
  | some (n, ds), .int k => (match ixN ds.length k with
    | some j => some (S.set n (.lst (ds.set j v)))
    | none => none)
  | _, _ => none
theorem sd_setL {K : PySem.W.Frag} : SetD K rSetL dSetL := by
  intro G ρ H S do_ di dv o i v S' r x1 x2 x3 e Q q
  unfold dSetL at e
  split at e
  · rename_i n ds k ec
    obtain ⟨rfl, eS⟩ := cellOf_some ec
    obtain ⟨a, rfl, ha⟩ := x1
    cases (show i = .int k from x2)
    obtain ⟨ws, h1, h2⟩ := r.ob n _ a eS ha
    split at e
    · rename_i j ej
      cases e
      refine ⟨a, ws, k, j, rfl, rfl, h1, by rw [h2.length]; exact ej, ?_⟩
      have kk : Keep G ρ H ρ (upd H a (.lst (ws.set j v))) := Keep.write (List.mem_of_getElem? ha) (r.ng a (List.mem_of_getElem? ha)) (.inl ⟨_, h1⟩)
      obtain ⟨r', k'⟩ := r.write (o := .lst (ds.set j dv)) (u := .lst (ws.set j v)) ha (.inl ⟨_, h1⟩) ⟨_, upd_same, RepL.keep kk _ _ (h2.set j x3)⟩
      exact q _ r' k'
    · cases e
  · cases e
end
end Rf

namespace Rf
open PySem PySem.Spec PyProof.Rows L2
section
variable {X : Cx} {a b c d : Expr} {pos : Pos} {cA : Nat → Addr} {W : WX}
def eChain (f g : D → D → Store → Res D) (ma mb mc : M D) : M D := fun env S => (ma env S).bind fun x S1 => (mb env S1).bind fun y S2 => (f x y S2).bind fun k S3 => match k with
  | .bl true => (mc env S3).bind fun z S4 => g y z S4
  | .bl false => .ok (.bl false) S3
  | _ => .bad
theorem chain_read {r r' : R2} {f g : D → D → Store → Res D} {ma mb mc : M D} (hd : OpD X.K r f) (hd' : OpD X.K r' g) : ∀ σ H Q, tE X.K cA W (eChain f g ma mb mc) σ H Q → tChain r r' (tE X.K cA W ma) (tE X.K cA W mb) (tE X.K cA W mc) σ H Q := by
  rintro σ H Q ⟨G, ρ, env, S, hE, hS, h⟩
  refine ⟨G, ρ, env, S, hE, hS, Ok.bind h fun x S1 v ρ1 H1 r1 x1 k1 h1 => ?_⟩
  refine ⟨G, ρ1, env, S1, hE.keep k1, r1, Ok.bind h1 fun y S2 u ρ2 H2 r2 x2 k2 h2 => ?_⟩
  refine hd G ρ2 H2 S2 x y v u (WE' cA W σ) _ r2 (Rep.keep k2 x v x1) x2 (Ok.bind h2 fun k S3 w ρ3 H3 r3 x3 k3 h3 => ?_)
  cases k with
  | bl k =>
    cases (show w = .bl k from x3)
    cases k with
    | true =>
      refine ⟨true, rfl, iteT ⟨G, ρ3, env, S3, ((hE.keep k1).keep k2).keep k3, r3, Ok.bind h3 fun z S4 t ρ4 H4 r4 x4 k4 h4 => ?_⟩⟩
      exact hd' G ρ4 H4 S4 y z u t _ Q r4 (Rep.keep (k3.trans k4) y u x2) x4 h4
    | false => exact ⟨false, rfl, iteF (h3.now r3 rfl)⟩
  | _ => exact h3.elim
theorem je_chain {op op' : CmpOp} {r r' : R2} {f g : D → D → Store → Res D} {ma mb mc : M D} (ho : OpR X (compareOp op) r) (hd : OpD X.K r f) (ho' : OpR X (compareOp op') r') (hd' : OpD X.K r' g) (ha : PE X a (tE X.K cA W ma)) (hb : PE X b (tE X.K cA W mb)) (hc : PE X c (tE X.K cA W mc))
    (hm : lastMarks [op, op'] [b, c] = false := by with_unfolding_all rfl) : PE X (.Compare a [op, op'] [b, c] pos) (tE X.K cA W (eChain f g ma mb mc)) :=
  pe_imp (pe_chain ho ho' ha hb hc hm) (chain_read hd hd')
def tChain3 (r1 r2 r3 : R2) (ta tb tc td : TE) : TE := fun σ H Q => ta σ H fun x H1 => tb σ H1 fun y H2 => r1 x y H2 fun k1 H3 => ∃ b1, k1 = .bl b1 ∧
  (if b1 = true then tc σ H3 fun z H4 => r2 y z H4 fun k2 H5 => ∃ b2, k2 = .bl b2 ∧ (if b2 = true then td σ H5 fun w' H6 => r3 z w' H6 Q else Q (.bl false) H5) else Q (.bl false) H3)
def eChain3 (f g h : D → D → Store → Res D) (ma mb mc md : M D) : M D := fun env S => (ma env S).bind fun x S1 => (mb env S1).bind fun y S2 => (f x y S2).bind fun k S3 => match k with
  | .bl true => (mc env S3).bind fun z S4 => (g y z S4).bind fun k2 S5 => (match k2 with
    | .bl true => (md env S5).bind fun w S6 => h z w S6
    | .bl false => .ok (.bl false) S5
    | _ => .bad)
  | .bl false => .ok (.bl false) S3
  | _ => .bad
def isNon : D → Bool
  | .non => true
  | _ => false
def dIsN (neg : Bool) (d e : D) (S : Store) : Res D := match e with
  | .non => .ok (.bl (if neg then !isNon d else isNon d)) S
  | _ => .bad
theorem rep_non {K : PySem.W.Frag} {G : Addr → Prop} {ρ : List Addr} {H : Hp} {d : D} {v : V} (h : Rep K G ρ H d v) : decide (v = .non) = isNon d := by
  cases d with
  | non => rw [show v = .non from h]; rfl
  | bl b => rw [show v = .bl b from h]; rfl
  | int b => rw [show v = .int b from h]; rfl
  | str b => rw [show v = .str b from h]; rfl
  | ty b => rw [show v = .ty b from h]; rfl
  | tup ds => obtain ⟨a, vs, rfl, _⟩ := h; rfl
  | lst ds => obtain ⟨a, vs, rfl, _⟩ := h; rfl
  | fz ds => obtain ⟨a, vs, rfl, _⟩ := h; rfl
  | cell n => obtain ⟨a, rfl, _⟩ := h; rfl
  | exc x => obtain ⟨a, C, rfl, _⟩ := ExV.ex h; rfl
  | cl x => obtain ⟨C, rfl, _⟩ := ClV.ex h; rfl
  | dct _ _ _ => obtain ⟨a, _, _, _, _, rfl, _⟩ := h; rfl
theorem od_isN {K : PySem.W.Frag} : OpD K (fun x y H Q => y = .non ∧ Q (.bl (decide (x = .non))) H) (dIsN false) := by
  intro G ρ H S d1 d2 v1 v2 E Q r x1 x2 h
  cases d2 with
  | non => exact ⟨x2, by rw [rep_non x1]; exact h.now r rfl⟩
  | _ => exact h.elim
def bls : List D → Option (List Bool)
  | [] => some []
  | .bl i :: r => (bls r).map (i :: ·)
  | _ :: _ => none
theorem bls_map : ∀ {ds : List D} {ns : List Bool}, bls ds = some ns → ds = ns.map .bl := by
  intro ds
  induction ds with
  | nil => intro ns h; cases h; rfl
  | cons d r ih =>
    intro ns h
    cases d with
    | bl i =>
      unfold bls at h
      cases e : bls r with
      | none => rw [e] at h; cases h
      | some ms =>
        rw [e] at h
        have h : some (i :: ms) = some ns := h
        cases h
        rw [ih e]; rfl
    | _ => cases h
@[simp] theorem bls_of : ∀ ns : List Bool, bls (ns.map .bl) = some ns
  | [] => rfl
  | n :: ns => by show (bls (ns.map .bl)).map (n :: ·) = _; rw [bls_of]; rfl
theorem rep_bls {K : PySem.W.Frag} {G : Addr → Prop} {ρ : List Addr} {H : Hp} : ∀ {ns : List Bool} {vs : List V}, RepL K G ρ H (ns.map .bl) vs → vs = ns.map V.bl
  | [], vs, h => h
  | n :: ns, vs, h => by
    obtain ⟨v, vs', rfl, h1, h2⟩ := h
    cases (show v = .bl n from h1)
    rw [rep_bls h2]; rfl
def dAll (any : Bool) (ds : List D) (S : Store) : Res D := match ds with
  | [d] => (match isTup d, seqOf S d with
    | false, some xs => (match bls xs with
      | some ns => .ok (.bl (if any = true then ns.any id else ns.all id)) S
      | none => .bad)
    | _, _ => .bad)
  | _ => .bad
theorem cd_all {K : PySem.W.Frag} : CallD K (rAll K) (dAll false) := by
  intro G ρ H S ds vs E Q r x h
  unfold dAll at h
  split at h
  · rename_i d
    obtain ⟨v, _, rfl, q1, rfl⟩ := x
    split at h
    · rename_i xs ht es
      split at h
      · rename_i ns en
        obtain ⟨a, ws, rfl, h1, h2⟩ := rep_seq r q1 es
        rw [if_neg (by rw [ht]; decide), ] at h1
        rw [bls_map en] at h2
        rw [rep_bls h2] at h1
        exact ⟨a, ns, rfl, h1, h.now r rfl⟩
      · exact h.elim
    · exact h.elim
  · exact h.elim
end
end Rf

namespace Rf
open PySem PySem.Spec PyProof.Rows L2
theorem hu65 {k : Nat} {A : Around} (hr : RoomG k A) : A.units + 65 < cLine := by have := hr.un; omega
theorem no_cx {P : Program} {w : World} {l : List Env} {H : Hp} {s : Shared} {e : Value} {s' : Shared} (h : L2.CX P w l H s (fun _ _ _ => False) e s') : False := by
  obtain ⟨_, _, _, _, _, _, _, _, _, _, _, _, z⟩ := h
  exact z
theorem rep_script {K : PySem.W.Frag} {G : Addr → Prop} {ρ : List Addr} {H : Hp} : ∀ ns : List Int, RepL K G ρ H (ns.map .int) (ns.map V.int)
  | [] => rfl
  | n :: ns => ⟨.int n, ns.map V.int, rfl, rfl, rep_script ns⟩
theorem law_sp {K : PySem.W.Frag} {cA : Nat → Addr} {m : List D → Store → Res D} {H : Hp} {a : Addr} {ns : List Int} {E : XK} (hm : ∃ S', m [.fz (ns.map .int)] [] = .ok (.bl true) S') (hO : Only H) (hS : SqL K H a (ns.map V.int)) :
    spF K cA 1 m [.ref a] H (fun v _ => v = .bl true) E := by
  obtain ⟨S', e⟩ := hm
  have hz : FzL K H a (ns.map V.int) := by
    rcases hS with (h | h) | h
    · rcases hO a with q | ⟨o, xs, q⟩
      · rw [h] at q; cases q
      · rw [h] at q; cases q
    · exact .inl h
    · exact .inr h
  refine ⟨rfl, fun _ => False, [], [], [.fz (ns.map .int)], ⟨rfl, List.nodup_nil, (fun _ h => nomatch h), (fun _ h => h.elim), (fun b o e => by
    rcases hO b with q | ⟨o', xs, q⟩
    · rw [e] at q; cases q
    · rw [e] at q; cases q; exact True.intro), fun i o b h => by simp at h⟩, ⟨.ref a, [], rfl, ⟨a, _, rfl, hz, rep_script ns⟩, rfl⟩, ?_⟩
  rw [e]
  intro v ρ' H' _ hv _
  exact hv
end Rf

namespace Rf
open PySem PySem.Spec PyProof.Rows L2
theorem fin_val {S S' : Store} {d : D} (h : stOk S S') (hp : pureD d = true) : fin .val S d S' = .ok d (S'.take S.length) := by
  unfold fin
  rw [if_pos h]
  dsimp only
  rw [if_pos hp]
@[simp] theorem pureL_map {α : Type} {f : α → D} (h : ∀ x, pureD (f x) = true) : ∀ l : List α, pureL (l.map f) = true
  | [] => rfl
  | x :: l => by show (pureD (f x) && pureL (l.map f)) = true; rw [h x, pureL_map h l]; rfl
end Rf

namespace HT
open PySem PySem.Spec PyProof.Rows
section
variable {prog : Program} {w : World} {A : Around} {E : Value → Shared → Prop} {s : Shared}
end
end HT
namespace Rf
open PySem PySem.Spec PyProof.Rows L2
section
variable {X : Cx} {e : Expr} {pos : Pos} {cA : Nat → Addr} {W : WX}
theorem pe_or {t u : TE} (h : PE X e t) (h' : PE X e u) : PE X e (fun σ H Q => t σ H Q ∨ u σ H Q) := ⟨fun pins s σ H Q I q => q.elim (h.run pins s σ H Q I) (h'.run pins s σ H Q I)⟩
def tBT (r : V → List V → Hp → VK → Prop) (to : TE) (t : TA) : TE := fun σ H Q => to σ H fun x H1 => (∃ a o xs, x = .ref a ∧ H1 a = some (.frz o (.tup xs)) ∧ o.dict = none) ∧ t σ H1 fun xs H2 => r x xs H2 Q
theorem pe_bmT {o : Expr} {es : List Expr} {to : TE} {t : TA} {name : Str} {apos cpos : Pos} {id : String} {r : V → List V → Hp → VK → Prop} (slot : Slot "tuple" name id) (hty : typeOf (.builtin id) = pure (.type "method_descriptor")) (hm : MtR X id r) (ho : PE X o to) (ha : PA X (e :: es) t)
    (hbase : attributeBase o name X.env (eval o X.env) = eval o X.env := by rfl)
    (hfew : ((backTo cpos (starEach (e :: es) X.env)).all (fun x => !x.1) && (backToKw cpos (keywordEach [] X.env)).all (fun x => x.1.isSome)
      && decide ((e :: es).length + ([] : List Keyword).length + (if ([] : List Keyword).isEmpty then 0 else 1) < 30)) = true := by rfl)
    (hline : (apos.endLine == cpos.line) = true := by rfl) (hs : starEach (e :: es) X.env = (false, eval e X.env) :: starEach es X.env := by rfl) (hplain : (backTo cpos (starEach es X.env)).any (·.1) = false := by rfl) :
    PE X (.Call (.Attribute o name apos) (e :: es) [] cpos) (tBT r to t) := by
  refine ⟨fun pins s σ H Q I h => ?_⟩
  refine wpAny_Call_method_late hbase hfew hline rfl (thn (ho.run pins s σ H _ I h) fun v s1 ⟨x, H1, I1, r1, ty, q1⟩ => ?_)
  obtain ⟨a, ob, xs, rfl, hH, hd⟩ := ty
  cases r1
  obtain ⟨hg, _, its, _, ht⟩ := (show ObjOk X.prog X.w H1 s1.heap a (.frz ob (.tup xs)) from I1.hok a _ hH)
  refine ⟨"tuple", id, PySem.F.plainAttrs_tuple, slot, hty, ht.typeIs, fun b e => by cases e; exact ⟨ob, hg, hd⟩, ?_⟩
  have hA := ha.run cpos pins s1 σ H1 _ I1 q1
  rw [hs] at hA ⊢
  refine Calls.callWith_builtin (by show (false || (backTo cpos (starEach es X.env)).any (·.1)) = false; rw [hplain] <;> rfl) (Calls.evalArgs_plain ?_)
  exact thn hA fun us s2 ⟨vs, H2, I2, r2, q2⟩ => hm pins s2 σ H2 (.ref a) vs (.ref a) us Q I2 rfl r2 q2
theorem tup_known {K : PySem.W.Frag} {G : Addr → Prop} {ρ : List Addr} {S : Store} {H : Hp} {a : Addr} {vs : List V} (r : RelS K G ρ S H) (h : Rd H a (.tup vs)) : ∃ o : Obj, H a = some (.frz o (.tup vs)) ∧ o.dict = none := by
  rcases h with h | ⟨o, h⟩
  · exact (r.tp a _ h).elim
  · exact ⟨o, h, r.tp a _ h⟩
def rIndexT (K : PySem.W.Frag) : V → List V → Hp → VK → Prop := fun x xs H Q => ∃ (a : Addr) (y : V) (d : PyData) (ds : List PyData) (j : Nat) (z : PyData), x = V.ref a ∧ xs = [y] ∧ Dp K H (V.ref a) (.tuple ds) ∧ Dp K H y d ∧
  SeqAt.shaped (.tuple ds) = true ∧ SeqAt.shaped d = true ∧ ds[j]? = some z ∧ PyData.eqv z d = true ∧ (∀ (m : Nat) (z' : PyData), m < j → ds[m]? = some z' → PyData.eqv z' d = false) ∧ Q (.int (j : Nat)) H
theorem mt_indexT (hu : X.A.units + 65 < cLine) : MtR X "tuple.index" (rIndexT X.K) := by
  intro pins s σ H x xs v us Q I rx rxs h
  obtain ⟨a, y, d, ds, j, z, rfl, rfl, hl, hy, sl, sd, hz, hzj, hno, q⟩ := h
  cases rx
  cases rxs with
  | cons ry rt =>
    rename_i uy ut
    cases rt
    obtain ⟨bs, r1⟩ := Dp.reads I d y uy hy ry
    have hxs : PyData.canLayAll0 ds = true := SeqAt.canLay_of_shaped sl
    have hroom : X.A.units + 1 + min (PyData.depthAll ds) d.depth < cLine := room_in_shaped sd hu
    cases hl with
    | tup hs ha =>
      obtain ⟨its, rv, ⟨⟨cls, dd, data, sls⟩, ho, hc, n, hdt⟩, hlen⟩ := I.tuple hs
      simp only at hc hdt
      subst hc hdt
      obtain ⟨as, h4⟩ := Dp.readsAll I ds _ its ha rv
      have hn : its.length = ds.length := SeqAt.ReadsAll.length ds its as h4
      have hmap : its.map (SeqAt.readOf s.heap) = ds := SeqAt.readsAll_map ds its as hxs h4
      have hvl := rv.length
      obtain ⟨hjd, _⟩ := List.getElem?_eq_some_iff.mp hz
      have hjl : j < its.length := by omega
      have hj : j < its.toArray.size := by simpa using hjl
      have at_ : ∀ (m : Nat) (hm : m < its.toArray.size) (z' : PyData), ds[m]? = some z' → SeqAt.readOf s.heap its.toArray[m] = z' := by
        intro m hm z' hz'
        have hml : m < its.length := by simpa using hm
        rw [← hmap, List.getElem?_map, List.getElem?_eq_getElem hml] at hz'
        have e1 : SeqAt.readOf s.heap its[m] = z' := Option.some.inj (show some (SeqAt.readOf s.heap its[m]) = some z' from hz')
        simpa using e1
      refine call_meets PySem.F.slot_tuple_index ⟨_, ho, rfl⟩ PySem.F.entry_tuple_index (PySem.F.args_tuple_index_2 _ _)
        (TI.tuple_indexAt a its.toArray n dd sls uy (fun u => PyData.eqv (SeqAt.readOf s.heap u) d) j hj ?_ ?_) ⟨ho, SeqAt.items_eqAt (vs := its.toArray) (show ReadsAll s.heap its.toArray.toList ds as from h4) r1 hxs (SeqAt.canLay_of_shaped sd) hroom, ?_⟩
      · show PyData.eqv (SeqAt.readOf s.heap its.toArray[j]) d = true
        rw [at_ j hj z hz]
        exact hzj
      · intro m hm hmj
        have hmd : m < ds.length := by omega
        have hz' : ds[m]? = some ds[m] := List.getElem?_eq_getElem hmd
        show PyData.eqv (SeqAt.readOf s.heap its.toArray[m]) d = false
        rw [at_ m hm _ hz']
        exact hno m _ hmj hz'
      · exact ⟨.int (j : Nat), H, I.tok _, ⟨_, rfl⟩, q⟩
def ixOf (y : D) (ds : List D) : Option Nat := ds.findIdx? fun z => PyData.eqv (py z) (py y)
def isSeqB (d : D) (S : Store) : Bool := (seqOf S d).isSome
def dIndex (d : D) (xs : List D) (S : Store) : Res D := match xs with
  | [y] => (match seqOf S d with
    | some ds => if shD dpt (val S y) = true ∧ ds.all (shD 11) = true then (match ixOf (val S y) ds with
      | some j => .ok (.int (j : Nat)) S
      | none => .bad) else .bad
    | none => .bad)
  | _ => .bad
theorem seq_val {S : Store} {d : D} {ds : List D} (h : seqOf S d = some ds) : py (val S d) = (if isTup d = true then .tuple (pyL ds) else .list (pyL ds)) ∧ shD dpt (val S d) = ds.all (shD 11) := by
  cases d with
  | tup xs => cases h; exact ⟨rfl, rfl⟩
  | lst xs => cases h; exact ⟨rfl, rfl⟩
  | fz xs => cases h; exact ⟨rfl, rfl⟩
  | cell n =>
    unfold seqOf at h
    dsimp only at h
    cases eo : S[n]? with
    | none => rw [eo] at h; cases h
    | some o =>
      rw [eo] at h
      cases o with
      | dK kvs => cases h
      | dI kvs => cases h
      | ins _ _ => cases h
      | dS _ => cases h
      | gone => cases h
      | lst xs =>
        cases h
        have e : val S (.cell n) = .lst ds := by unfold val; dsimp only; rw [eo]
        rw [e]
        exact ⟨rfl, rfl⟩
  | _ => cases h
theorem ixOf_some {y : D} {ds : List D} {j : Nat} (h : ixOf y ds = some j) : ∃ z, (pyL ds)[j]? = some z ∧ PyData.eqv z (py y) = true ∧ ∀ (m : Nat) (z' : PyData), m < j → (pyL ds)[m]? = some z' → PyData.eqv z' (py y) = false := by
  unfold ixOf at h
  obtain ⟨hj, h1, h2⟩ := List.findIdx?_eq_some_iff_getElem.mp h
  rw [pyL_map]
  refine ⟨py ds[j], by simp [hj], h1, fun m z' hm e => ?_⟩
  have hm' : m < ds.length := by omega
  have e2 : (ds.map py)[m]? = some (py ds[m]) := by simp [hm']
  rw [e2] at e
  cases e
  simpa using h2 m hm
theorem je_index {o : Expr} {apos : Pos} {mo : M D} {ma : M (List D)} (hu : X.A.units + 65 < cLine) (ho : PE X o (tE X.K cA W mo)) (ha : PA X [e] (tAr X.K cA W ma))
    (hbase : attributeBase o "index" X.env (eval o X.env) = eval o X.env := by rfl)
    (hfew : ((backTo pos (starEach [e] X.env)).all (fun x => !x.1) && (backToKw pos (keywordEach [] X.env)).all (fun x => x.1.isSome)
      && decide (([e] : List Expr).length + ([] : List Keyword).length + (if ([] : List Keyword).isEmpty then 0 else 1) < 30)) = true := by rfl)
    (hline : (apos.endLine == pos.line) = true := by rfl) (hs : starEach [e] X.env = (false, eval e X.env) :: starEach [] X.env := by rfl) (hplain : (backTo pos (starEach [] X.env)).any (·.1) = false := by rfl) :
    PE X (.Call (.Attribute o "index" apos) [e] [] pos) (tE X.K cA W (eMt dIndex isSeqB mo ma)) := by
  refine pe_imp (pe_or (pe_bmT PySem.F.slot_tuple_index PySem.F.type_tuple_index (mt_indexT hu) ho ha hbase hfew hline hs hplain) (pe_bm PySem.F.plainAttrs_list PySem.F.slot_list_index PySem.F.type_list_index (mt_indexD hu) ho ha hbase hfew hline hs hplain)) ?_
  rintro σ H Q ⟨G, ρ, env, S, hE, hS, h⟩
  unfold eMt at h
  cases hm : mo env S with
  | bad => rw [hm] at h; exact h.elim
  | err c S1 => rw [hm] at h; exact .inl ⟨G, ρ, env, S, hE, hS, by rw [hm]; exact h⟩
  | ok d S1 =>
    rw [hm] at h
    dsimp only [bind_ok] at h
    by_cases ht : isSeqB d S1 = true
    · rw [if_pos ht] at h
      cases hb : isTup d with
      | true =>
        refine .inl ⟨G, ρ, env, S, hE, hS, ?_⟩
        rw [hm]
        intro v ρ1 H1 r1 x1 k1
        cases d with
        | tup ds =>
          obtain ⟨a, vs, rfl, h1, h2⟩ := x1
          obtain ⟨ob, h3, h4⟩ := tup_known r1 h1
          refine ⟨⟨a, ob, vs, rfl, h3, h4⟩, G, ρ1, env, S1, hE.keep k1, r1, Ok.bind (h.keep k1) fun xs S2 ws ρ2 H2 r2 x2 k2 hh => ?_⟩
          unfold dIndex at hh
          split at hh
          · rename_i y
            obtain ⟨w, _, rfl, y1, rfl⟩ := x2
            dsimp only [seqOf] at hh
            by_cases hc : shD dpt (val S2 y) = true ∧ ds.all (shD 11) = true
            · rw [if_pos hc] at hh
              split at hh
              · rename_i j ej
                obtain ⟨z, e1, e2, e3⟩ := ixOf_some ej
                have x3 : Rep X.K G ρ2 H2 (.tup ds) (.ref a) := Rep.keep k2 _ _ ⟨a, vs, rfl, h1, h2⟩
                have hsd : shD dpt (.tup ds) = true := hc.2
                exact ⟨a, w, _, pyL ds, j, z, rfl, rfl, rep_dp dpt (.tup ds) _ hsd x3, rep_val r2 y1 hc.1, shaped_of (d := .tup ds) hsd, shaped_of hc.1, e1, e2, e3, hh.now r2 rfl⟩
              · exact hh.elim
            · rw [if_neg hc] at hh; exact hh.elim
          · exact hh.elim
        | _ => cases hb
      | false =>
        refine .inr ⟨G, ρ, env, S, hE, hS, ?_⟩
        rw [hm]
        intro v ρ1 H1 r1 x1 k1
        have hty : isLst d S1 = true := by unfold isLst; rw [Bool.and_eq_true]; exact ⟨ht, by rw [hb]; rfl⟩
        refine ⟨tyd_list G ρ1 H1 S1 d v r1 x1 hty, G, ρ1, env, S1, hE.keep k1, r1, Ok.bind (h.keep k1) fun xs S2 ws ρ2 H2 r2 x2 k2 hh => ?_⟩
        unfold dIndex at hh
        split at hh
        · rename_i y
          obtain ⟨w, _, rfl, y1, rfl⟩ := x2
          split at hh
          · rename_i ds es
            by_cases hc : shD dpt (val S2 y) = true ∧ ds.all (shD 11) = true
            · rw [if_pos hc] at hh
              split at hh
              · rename_i j ej
                obtain ⟨z, e1, e2, e3⟩ := ixOf_some ej
                obtain ⟨f1, f2⟩ := seq_val es
                rw [if_neg (by rw [hb]; decide)] at f1
                have x3 := Rep.keep k2 _ _ x1
                have hsd : shD dpt (val S2 d) = true := by rw [f2]; exact hc.2
                have dp := rep_val r2 x3 hsd
                obtain ⟨a, vs, rfl, _, _⟩ := rep_seq r2 x3 es
                rw [f1] at dp
                have sh := shaped_of hsd
                rw [f1] at sh
                exact ⟨a, w, _, pyL ds, j, z, rfl, rfl, dp, rep_val r2 y1 hc.1, sh, shaped_of hc.1, e1, e2, e3, hh.now r2 rfl⟩
              · exact hh.elim
            · rw [if_neg hc] at hh; exact hh.elim
          · exact hh.elim
        · exact hh.elim
    · rw [if_neg ht] at h; exact h.elim
theorem rep_range {K : PySem.W.Frag} {G : Addr → Prop} {ρ : List Addr} {H : Hp} (a b : Int) : RepL K G ρ H (rangeD a (b - a).toNat) (rgV a b) := by
  have := rep_script (K := K) (G := G) (ρ := ρ) (H := H) ((List.range (b - a).toNat).map fun i => a + (i : Nat))
  rw [List.map_map, List.map_map] at this
  exact this
def fLR1 (m : M D) : M (List D) := fun env S => (m env S).bind fun d S1 => match d with
  | .int n => if n ≤ 1000000 ∧ -1000000 ≤ n then .ok (rangeD 0 (n - 0).toNat) S1 else .bad
  | _ => .bad
theorem jf_lr1 {a : Expr} {m : M D} {p p2 q : Pos} (hc : X.calm = true) (hg : Gl X "list") (hm : X.mg "list" = none) (hg2 : Gl X "range") (hm2 : X.mg "range" = none) (ha : PE X a (tE X.K cA W m))
    (na : starEach [a] X.env = (false, eval a X.env) :: starEach [] X.env := by rfl) (nb : starEach [.Call (.Name "range" p2) [a] [] q] X.env = (false, eval (.Call (.Name "range" p2) [a] [] q) X.env) :: starEach [] X.env := by rfl) : PE X (.Call (.Name "list" p) [.Call (.Name "range" p2) [a] [] q] [] pos) (tFr X.K cA W (fLR1 m)) := by
  refine pe_imp (pe_listRg hc hg hm (prg_1 hg2 hm2 ha na) nb) ?_
  rintro σ H Q ⟨G, ρ, env, S, hE, hS, h⟩
  refine ⟨G, ρ, env, S, hE, hS, OkF.bind h fun d S1 v ρ1 H1 r1 x1 k1 h1 => ?_⟩
  cases d with
  | int n =>
    cases (show v = .int n from x1)
    dsimp only at h1
    by_cases hn : n ≤ 1000000 ∧ -1000000 ≤ n
    · rw [if_pos hn] at h1
      exact ⟨n, rfl, ⟨by omega, by omega, by omega, by omega, by omega⟩, fun p hp => h1 p _ ρ1 H1 r1 (rep_range 0 n) Keep.refl hp⟩
    · rw [if_neg hn] at h1; exact h1.elim
  | _ => exact h1.elim
end
end Rf
namespace Rf
end Rf
namespace Rf
end Rf
namespace Rf
end Rf
namespace Rf
end Rf
namespace Rf
end Rf

namespace Rf
open PySem PySem.Spec PyProof.Rows L2
inductive R (α : Type) where
  | ok (a : α)
  | err (c : Nat)
  | bad
def R.bind {α β : Type} (r : R α) (f : α → R β) : R β := match r with
  | .ok a => f a
  | .err c => .err c
  | .bad => .bad
@[simp] theorem R.ok_bind {α β : Type} (a : α) (f : α → R β) : (R.ok a).bind f = f a := rfl
@[simp] theorem R.err_bind {α β : Type} (c : Nat) (f : α → R β) : (R.err c : R α).bind f = .err c := rfl
@[simp] theorem R.bad_bind {α β : Type} (f : α → R β) : (R.bad : R α).bind f = .bad := rfl
inductive Sl where
  | u
  | v (d : D)
  | c (ds : List D)
  | r (ds : List D)
  | f (q : Option Nat) (o : Ob)
  | n (dss : List (List D))
  | o (k : Nat) (f : Nat → List Ob)
  | q (k : Nat) (f : Nat → List Ob)
  | p (m : Nat) (f : Nat → List Ob)
structure Bs where
  S0 : Store
  Q : List Nat
def cno : D → Option Nat
  | .cell n => some n
  | _ => none
def mc : Option D → Sl → List Nat
  | some (.cell n), .c _ => [n]
  | some (.cell n), .f _ _ => [n]
  | some (.lst ds), .n _ => ds.filterMap cno
  | some (.cell n), .o k _ => List.range' n k
  | some (.cell n), .p m _ => List.range' (n - m) (m + 1)
  | _, _ => []
def rc : Option D → Sl → List Nat
  | some (.cell n), .r _ => [n]
  | some (.cell n), .q k _ => List.range' n k
  | o, s => mc o s
def SlR (S : Store) (o : Option D) : Sl → Prop
  | .u => True
  | .v d => o = some d
  | .c ds => ∃ n, o = some (.cell n) ∧ S[n]? = some (.lst ds)
  | .r ds => ∃ d, o = some d ∧ seqOf S d = some ds ∧ isTup d = false
  | .f q ob => ∃ n, o = some (.cell n) ∧ S[n]? = some ob ∧ ∀ k, q = some k → n = k
  | .n dss => ∃ ns : List Nat, o = some (.lst (ns.map .cell)) ∧ ns.Nodup ∧ ns.length = dss.length ∧ ∀ (i : Nat) (n : Nat), ns[i]? = some n → ∃ ds, dss[i]? = some ds ∧ S[n]? = some (.lst ds)
  | .o k f => ∃ n, o = some (.cell n) ∧ (f n).length = k ∧ ∀ (i : Nat) (ob : Ob), (f n)[i]? = some ob → S[n + i]? = some ob
  | .q k f => ∃ n, o = some (.cell n) ∧ (f n).length = k ∧ ∀ (i : Nat) (ob : Ob), (f n)[i]? = some ob → S[n + i]? = some ob
  | .p m f => ∃ b, o = some (.cell (b + m)) ∧ (f b).length = m + 1 ∧ ∀ (i : Nat) (ob : Ob), (f b)[i]? = some ob → S[b + i]? = some ob
structure Fr (B : Bs) (S : Store) : Prop where
  len : B.S0.length ≤ S.length
  same : ∀ i, i < B.S0.length → i ∉ B.Q → S[i]? = B.S0[i]?
structure SRel (B : Bs) (sl : List Sl) (env : En) (S : Store) : Prop where
  len : env.length = sl.length
  at_ : ∀ (i : Nat) (s : Sl) (o : Option D), sl[i]? = some s → env[i]? = some o → SlR S o s
  dis : ∀ (i j : Nat) (s s' : Sl) (o o' : Option D), i ≠ j → sl[i]? = some s → env[i]? = some o → sl[j]? = some s' → env[j]? = some o' → ∀ x, x ∈ mc o s → x ∉ rc o' s'
  own : ∀ (i : Nat) (s : Sl) (o : Option D), sl[i]? = some s → env[i]? = some o → ∀ x, x ∈ mc o s → B.S0.length ≤ x ∨ (x ∈ B.Q ∧ ∃ q ob, s = .f q ob)
  frm : Fr B S
section
variable {B : Bs} {sl : List Sl} {env : En} {S : Store}
theorem SRel.env_at (r : SRel B sl env S) {i : Nat} {s : Sl} (h : sl[i]? = some s) : ∃ o, env[i]? = some o ∧ SlR S o s := by
  have hi : i < env.length := by rw [r.len]; exact (List.getElem?_eq_some_iff.mp h).1
  exact ⟨env[i], List.getElem?_eq_getElem hi, r.at_ i s _ h (List.getElem?_eq_getElem hi)⟩
theorem SRel.v (r : SRel B sl env S) {i : Nat} {d : D} (h : sl[i]? = some (.v d)) : env[i]? = some (some d) := by
  obtain ⟨o, e, q⟩ := r.env_at h
  rw [e, show o = some d from q]
theorem SRel.c (r : SRel B sl env S) {i : Nat} {ds : List D} (h : sl[i]? = some (.c ds)) : ∃ n, env[i]? = some (some (.cell n)) ∧ S[n]? = some (.lst ds) := by
  obtain ⟨o, e, n, rfl, q⟩ := r.env_at h
  exact ⟨n, e, q⟩
theorem SRel.r (r : SRel B sl env S) {i : Nat} {ds : List D} (h : sl[i]? = some (.r ds)) : ∃ d, env[i]? = some (some d) ∧ seqOf S d = some ds ∧ isTup d = false := by
  obtain ⟨o, e, d, rfl, q⟩ := r.env_at h
  exact ⟨d, e, q⟩
theorem SRel.f (r : SRel B sl env S) {i : Nat} {ob : Ob} {q : Option Nat} (h : sl[i]? = some (.f q ob)) : ∃ n, env[i]? = some (some (.cell n)) ∧ S[n]? = some ob ∧ ∀ k, q = some k → n = k := by
  obtain ⟨o, e, n, rfl, q⟩ := r.env_at h
  exact ⟨n, e, q⟩
theorem rc_lt {o : Option D} {s : Sl} (h : SlR S o s) {x : Nat} (hx : x ∈ rc o s) : x < S.length := by
  have lt : ∀ {n : Nat} {ob : Ob}, S[n]? = some ob → n < S.length := fun h => (List.getElem?_eq_some_iff.mp h).1
  cases s with
  | u => cases o with
    | none => cases hx
    | some d => cases d <;> cases hx
  | v d => cases (show o = some d from h); cases d <;> cases hx
  | c ds => obtain ⟨n, rfl, e⟩ := h; rw [List.mem_singleton.mp hx]; exact lt e
  | f q ds => obtain ⟨n, rfl, e, _⟩ := h; rw [List.mem_singleton.mp hx]; exact lt e
  | r ds =>
    obtain ⟨d, rfl, e, _⟩ := h
    cases d with
    | cell n =>
      rw [List.mem_singleton.mp hx]
      unfold seqOf at e
      dsimp only at e
      cases eo : S[n]? with
      | none => rw [eo] at e; cases e
      | some ob => exact lt eo
    | _ => cases hx
  | n dss =>
    obtain ⟨ns, rfl, _, _, h⟩ := h
    obtain ⟨d, hd, e⟩ := List.mem_filterMap.mp (show x ∈ (ns.map D.cell).filterMap cno from hx)
    obtain ⟨m, hm, rfl⟩ := List.mem_map.mp hd
    cases (show some m = some x from e)
    obtain ⟨i, hi, e⟩ := List.getElem_of_mem hm
    obtain ⟨ds, _, q⟩ := h i x (by rw [List.getElem?_eq_getElem hi, e])
    exact lt q
  | o k f =>
    obtain ⟨n, rfl, hk, h⟩ := h
    obtain ⟨i, hi, rfl⟩ := List.mem_range'.mp (show x ∈ List.range' n k from hx)
    rw [Nat.one_mul]
    exact lt (h i _ (List.getElem?_eq_getElem (by omega)))
  | q k f =>
    obtain ⟨n, rfl, hk, h⟩ := h
    obtain ⟨i, hi, rfl⟩ := List.mem_range'.mp (show x ∈ List.range' n k from hx)
    rw [Nat.one_mul]
    exact lt (h i _ (List.getElem?_eq_getElem (by omega)))
  | p m f =>
    obtain ⟨b, rfl, hk, h⟩ := h
    obtain ⟨i, hi, e⟩ := List.mem_range'.mp (show x ∈ List.range' (b + m - m) (m + 1) from hx)
    have : x = b + i := by omega
    rw [this]
    exact lt (h i _ (List.getElem?_eq_getElem (by omega)))
theorem mc_rc {o : Option D} {s : Sl} {x : Nat} (h : x ∈ mc o s) : x ∈ rc o s := by
  cases s with
  | r ds => cases o with
    | none => cases h
    | some d => cases d <;> cases h
  | q k f => cases o with
    | none => cases h
    | some d => cases d <;> cases h
  | _ => cases o with
    | none => exact h
    | some d => cases d <;> exact h
theorem SlR.same {S' : Store} {o : Option D} {s : Sl} (h : SlR S o s) (k : ∀ x ∈ rc o s, S'[x]? = S[x]?) : SlR S' o s := by
  cases s with
  | u => trivial
  | v d => exact h
  | c ds => obtain ⟨n, rfl, e⟩ := h; exact ⟨n, rfl, by rw [k n (List.mem_singleton.mpr rfl)]; exact e⟩
  | f q ds => obtain ⟨n, rfl, e, e2⟩ := h; exact ⟨n, rfl, by rw [k n (List.mem_singleton.mpr rfl)]; exact e, e2⟩
  | r ds =>
    obtain ⟨d, rfl, e, e2⟩ := h
    refine ⟨d, rfl, ?_, e2⟩
    cases d with
    | cell n =>
      unfold seqOf at e ⊢
      dsimp only at e ⊢
      rw [k n (List.mem_singleton.mpr rfl)]
      exact e
    | _ => exact e
  | n dss =>
    obtain ⟨ns, rfl, e1, e2, h⟩ := h
    refine ⟨ns, rfl, e1, e2, fun i n hn => ?_⟩
    obtain ⟨ds, q1, q2⟩ := h i n hn
    refine ⟨ds, q1, ?_⟩
    rw [k n (List.mem_filterMap.mpr ⟨.cell n, List.mem_map.mpr ⟨n, List.mem_of_getElem? hn, rfl⟩, rfl⟩)]
    exact q2
  | o m f =>
    obtain ⟨n, rfl, hk, h⟩ := h
    refine ⟨n, rfl, hk, fun i ob hi => ?_⟩
    have hl := (List.getElem?_eq_some_iff.mp hi).1
    rw [k (n + i) (List.mem_range'.mpr ⟨i, by omega, by rw [Nat.one_mul]⟩)]
    exact h i ob hi
  | q m f =>
    obtain ⟨n, rfl, hk, h⟩ := h
    refine ⟨n, rfl, hk, fun i ob hi => ?_⟩
    have hl := (List.getElem?_eq_some_iff.mp hi).1
    rw [k (n + i) (List.mem_range'.mpr ⟨i, by omega, by rw [Nat.one_mul]⟩)]
    exact h i ob hi
  | p m f =>
    obtain ⟨b, rfl, hk, h⟩ := h
    refine ⟨b, rfl, hk, fun i ob hi => ?_⟩
    have hl := (List.getElem?_eq_some_iff.mp hi).1
    rw [k (b + i) (List.mem_range'.mpr ⟨i, by omega, by omega⟩)]
    exact h i ob hi
theorem set_some {α : Type} {l : List α} {i j : Nat} {a b : α} (h : (l.set i a)[j]? = some b) : (j = i ∧ b = a) ∨ (j ≠ i ∧ l[j]? = some b) := by
  by_cases e : j = i
  · subst e
    have hl : j < (l.set j a).length := (List.getElem?_eq_some_iff.mp h).1
    rw [List.length_set] at hl
    rw [List.getElem?_set_self hl] at h
    cases h
    exact .inl ⟨rfl, rfl⟩
  · rw [List.getElem?_set_ne (Ne.symm e)] at h
    exact .inr ⟨e, h⟩
theorem SRel.put (r : SRel B sl env S) {S' : Store} {i : Nat} {s : Sl} {o : Option D} (hs : SlR S' o s) (ho : ∀ x ∈ mc o s, B.S0.length ≤ x ∨ (x ∈ B.Q ∧ ∃ q ob, s = .f q ob))
    (hk : ∀ j s' o', j ≠ i → sl[j]? = some s' → env[j]? = some o' → (∀ x ∈ rc o' s', S'[x]? = S[x]?) ∧ (∀ x ∈ mc o s, x ∉ rc o' s') ∧ (∀ x ∈ mc o' s', x ∉ rc o s)) (hf : Fr B S') : SRel B (sl.set i s) (env.set i o) S' := by
  refine ⟨by rw [List.length_set, List.length_set]; exact r.len, fun j s1 o1 h1 h2 => ?_, fun j k s1 s2 o1 o2 hjk h1 h2 h3 h4 x hx => ?_, fun j s1 o1 h1 h2 x hx => ?_, hf⟩
  · rcases set_some h1 with ⟨rfl, rfl⟩ | ⟨e, h1⟩
    · rcases set_some h2 with ⟨_, rfl⟩ | ⟨e, _⟩
      · exact hs
      · exact absurd rfl e
    · rcases set_some h2 with ⟨e2, _⟩ | ⟨_, h2⟩
      · exact absurd e2 e
      · exact (r.at_ j s1 o1 h1 h2).same (hk j s1 o1 e h1 h2).1
  · rcases set_some h1 with ⟨e1, f1⟩ | ⟨e1, g1⟩
    · rcases set_some h2 with ⟨_, f2⟩ | ⟨e, _⟩
      · rcases set_some h3 with ⟨e, _⟩ | ⟨e3, g3⟩
        · exact absurd (e1.trans e.symm) hjk
        · rcases set_some h4 with ⟨e, _⟩ | ⟨_, g4⟩
          · exact absurd e e3
          · rw [f1, f2] at hx; exact (hk k s2 o2 e3 g3 g4).2.1 x hx
      · exact absurd e1 e
    · rcases set_some h2 with ⟨e2, _⟩ | ⟨_, g2⟩
      · exact absurd e2 e1
      · rcases set_some h3 with ⟨e3, f3⟩ | ⟨e3, g3⟩
        · rcases set_some h4 with ⟨_, f4⟩ | ⟨e, _⟩
          · rw [f3, f4]; exact (hk j s1 o1 e1 g1 g2).2.2 x hx
          · exact absurd e3 e
        · rcases set_some h4 with ⟨e, _⟩ | ⟨_, g4⟩
          · exact absurd e e3
          · exact r.dis j k s1 s2 o1 o2 hjk g1 g2 g3 g4 x hx
  · rcases set_some h1 with ⟨rfl, rfl⟩ | ⟨e, h1⟩
    · rcases set_some h2 with ⟨_, rfl⟩ | ⟨e, _⟩
      · exact ho x hx
      · exact absurd rfl e
    · rcases set_some h2 with ⟨e2, _⟩ | ⟨_, h2⟩
      · exact absurd e2 e
      · exact r.own j s1 o1 h1 h2 x hx
theorem rc_u (o : Option D) : rc o .u = [] := by cases o with
  | none => rfl
  | some d => cases d <;> rfl
theorem rc_v (o : Option D) (d : D) : rc o (.v d) = [] := by cases o with
  | none => rfl
  | some d => cases d <;> rfl
theorem mc_v (o : Option D) (d : D) : mc o (.v d) = [] := by cases o with
  | none => rfl
  | some d => cases d <;> rfl
theorem mc_u (o : Option D) : mc o .u = [] := by cases o with
  | none => rfl
  | some d => cases d <;> rfl
theorem mc_r (o : Option D) (ds : List D) : mc o (.r ds) = [] := by cases o with
  | none => rfl
  | some d => cases d <;> rfl
theorem mc_q (o : Option D) (k : Nat) (f : Nat → List Ob) : mc o (.q k f) = [] := by cases o with
  | none => rfl
  | some d => cases d <;> rfl
theorem SRel.set_v (r : SRel B sl env S) (i : Nat) (d : D) : SRel B (sl.set i (.v d)) (env.set i (some d)) S :=
  r.put rfl (fun x hx => (by rw [mc_v] at hx; cases hx)) (fun j s' o' _ h1 h2 => ⟨fun _ _ => rfl, fun x hx => (by rw [mc_v] at hx; cases hx), fun x _ hx => (by rw [rc_v] at hx; cases hx)⟩) r.frm
theorem SRel.set_u (r : SRel B sl env S) (i : Nat) (o : Option D) : SRel B (sl.set i .u) (env.set i o) S :=
  r.put trivial (fun x hx => (by rw [mc_u] at hx; cases hx)) (fun j s' o' _ h1 h2 => ⟨fun _ _ => rfl, fun x hx => (by rw [mc_u] at hx; cases hx), fun x _ hx => (by rw [rc_u] at hx; cases hx)⟩) r.frm
theorem set_self {α : Type} {l : List α} {i : Nat} {a : α} (h : l[i]? = some a) : l.set i a = l := by
  apply List.ext_getElem?
  intro j
  by_cases e : j = i
  · subst e; rw [List.getElem?_set_self (List.getElem?_eq_some_iff.mp h).1, h]
  · rw [List.getElem?_set_ne (Ne.symm e)]
theorem SRel.drop (r : SRel B sl env S) (i : Nat) : SRel B (sl.set i .u) env S := by
  cases h : env[i]? with
  | none =>
    have : sl.set i .u = sl := List.set_eq_of_length_le (by rw [← r.len]; exact List.getElem?_eq_none_iff.mp h)
    rw [this]; exact r
  | some o =>
    have := r.set_u i o
    rw [set_self h] at this
    exact this
def clrS (sl : List Sl) : List Nat → List Sl
  | [] => sl
  | i :: r => (clrS sl r).set i .u
theorem SRel.clr (r : SRel B sl env S) : ∀ l : List Nat, SRel B (clrS sl l) (clr env l) S
  | [] => r
  | i :: l => (SRel.clr r l).set_u i none
theorem Fr.set {n : Nat} {ob : Ob} (h : Fr B S) (hn : B.S0.length ≤ n ∨ n ∈ B.Q) : Fr B (S.set n ob) := by
  refine ⟨by rw [List.length_set]; exact h.len, fun i hi hq => ?_⟩
  have : i ≠ n := by
    rintro rfl
    rcases hn with hn | hn
    · omega
    · exact hq hn
  rw [List.getElem?_set_ne (Ne.symm this)]
  exact h.same i hi hq
theorem SRel.wr (r : SRel B sl env S) {i n : Nat} {ds : List D} (ds' : List D) (h : sl[i]? = some (.c ds)) (he : env[i]? = some (some (.cell n))) (hn : S[n]? = some (.lst ds)) : SRel B (sl.set i (.c ds')) env (S.set n (.lst ds')) := by
  have hl : n < S.length := (List.getElem?_eq_some_iff.mp hn).1
  have ho : B.S0.length ≤ n := (r.own i _ _ h he n (List.mem_singleton.mpr rfl)).elim id fun q => (nomatch q.2)
  have := r.put (S' := S.set n (.lst ds')) (i := i) (s := .c ds') (o := some (.cell n)) ⟨n, rfl, List.getElem?_set_self hl⟩ (fun x hx => by rw [List.mem_singleton.mp hx]; exact .inl ho)
    (fun j s' o' hj h1 h2 => ⟨fun x hx => List.getElem?_set_ne fun (e : n = x) => r.dis i j _ s' _ o' (Ne.symm hj) h he h1 h2 n (List.mem_singleton.mpr rfl) (by rw [e]; exact hx), fun x hx hx2 => r.dis i j _ s' _ o' (Ne.symm hj) h he h1 h2 x hx hx2, fun x hx hx2 => r.dis j i s' _ o' _ hj h1 h2 h he x hx hx2⟩) (r.frm.set (.inl ho))
  rw [set_self he] at this
  exact this
theorem SRel.wrf (r : SRel B sl env S) {i n : Nat} {ob : Ob} {q : Option Nat} (ob' : Ob) (h : sl[i]? = some (.f q ob)) (he : env[i]? = some (some (.cell n))) (hn : S[n]? = some ob) (hq : ∀ k, q = some k → n = k) : SRel B (sl.set i (.f q ob')) env (S.set n ob') := by
  have hl : n < S.length := (List.getElem?_eq_some_iff.mp hn).1
  have ho := r.own i _ _ h he n (List.mem_singleton.mpr rfl)
  have := r.put (S' := S.set n ob') (i := i) (s := .f q ob') (o := some (.cell n)) ⟨n, rfl, List.getElem?_set_self hl, hq⟩ (fun x hx => by rw [List.mem_singleton.mp hx]; exact (ho.imp id fun q => ⟨q.1, _, _, rfl⟩))
    (fun j s' o' hj h1 h2 => ⟨fun x hx => List.getElem?_set_ne fun (e : n = x) => r.dis i j _ s' _ o' (Ne.symm hj) h he h1 h2 n (List.mem_singleton.mpr rfl) (by rw [e]; exact hx), fun x hx hx2 => r.dis i j _ s' _ o' (Ne.symm hj) h he h1 h2 x hx hx2, fun x hx hx2 => r.dis j i s' _ o' _ hj h1 h2 h he x hx hx2⟩) (r.frm.set (ho.imp id fun q => q.1))
  rw [set_self he] at this
  exact this
theorem Fr.app (h : Fr B S) (L : Store) : Fr B (S ++ L) :=
  ⟨by rw [List.length_append]; have := h.len; omega, fun i hi hq => by rw [List.getElem?_append_left (by have := h.len; omega)]; exact h.same i hi hq⟩
theorem get_app {L : Store} {x : Nat} (h : x < S.length) : (S ++ L)[x]? = S[x]? := List.getElem?_append_left h
theorem get_new (S : Store) (ob : Ob) : (S ++ [ob])[S.length]? = some ob := by rw [List.getElem?_append_right (Nat.le_refl _)]; simp
theorem SRel.new (r : SRel B sl env S) (i : Nat) (ds : List D) : SRel B (sl.set i (.c ds)) (env.set i (some (.cell S.length))) (S ++ [.lst ds]) :=
  r.put ⟨_, rfl, get_new S _⟩ (fun x hx => by rw [List.mem_singleton.mp hx]; exact .inl r.frm.len)
    (fun j s' o' hj h1 h2 => ⟨fun x hx => get_app (rc_lt (r.at_ j s' o' h1 h2) hx), fun x hx hx2 => by have := rc_lt (r.at_ j s' o' h1 h2) hx2; rw [List.mem_singleton.mp hx] at this; exact absurd this (Nat.lt_irrefl _),
      fun x hx hx2 => by have := rc_lt (r.at_ j s' o' h1 h2) (mc_rc hx); rw [List.mem_singleton.mp (show x ∈ [S.length] from hx2)] at this; exact absurd this (Nat.lt_irrefl _)⟩) (r.frm.app _)
theorem SRel.newf (r : SRel B sl env S) (i : Nat) (ob : Ob) : SRel B (sl.set i (.f none ob)) (env.set i (some (.cell S.length))) (S ++ [ob]) :=
  r.put ⟨_, rfl, get_new S _, fun _ h => (nomatch h)⟩ (fun x hx => by rw [List.mem_singleton.mp hx]; exact .inl r.frm.len)
    (fun j s' o' hj h1 h2 => ⟨fun x hx => get_app (rc_lt (r.at_ j s' o' h1 h2) hx), fun x hx hx2 => by have := rc_lt (r.at_ j s' o' h1 h2) hx2; rw [List.mem_singleton.mp hx] at this; exact absurd this (Nat.lt_irrefl _),
      fun x hx hx2 => by have := rc_lt (r.at_ j s' o' h1 h2) (mc_rc hx); rw [List.mem_singleton.mp (show x ∈ [S.length] from hx2)] at this; exact absurd this (Nat.lt_irrefl _)⟩) (r.frm.app _)
end
end Rf

namespace Rf
open PySem PySem.Spec PyProof.Rows L2
def Out {α β : Type} (S : Store) (P : α → β → Store → Prop) (f : R α) (r : Res β) : Prop := match f with
  | .ok a => ∃ d, r = .ok d S ∧ P a d S
  | .err c => r = .err c S
  | .bad => True
def XE {α β : Type} (B : Bs) (sl : List Sl) (m : M β) (P : α → β → Store → Prop) (f : R α) : Prop := ∀ env S, SRel B sl env S → Out S P f (m env S)
def vP {α β : Type} (t : α → β) : α → β → Store → Prop := fun a d _ => d = t a
def lP {α : Type} (b : Bool) (t : α → D) : List α → D → Store → Prop := fun l d S => seqOf S d = some (l.map t) ∧ isTup d = b
theorem Out.bind {α β γ δ : Type} {S : Store} {P : α → β → Store → Prop} {P' : γ → δ → Store → Prop} {f : R α} {g : α → R γ} {r : Res β} {k : β → Store → Res δ} (h : Out S P f r) (hk : ∀ a d, P a d S → Out S P' (g a) (k d S)) : Out S P' (f.bind g) (r.bind k) := by
  cases f with
  | ok a => obtain ⟨d, rfl, q⟩ := h; exact hk a d q
  | err c => rw [show r = _ from h]; rfl
  | bad => trivial
def yI : Int → D := D.int
def yB : Bool → D := D.bl
def yS : Str → D := D.str
def yN : Unit → D := fun _ => .non
def yT {α : Type} (t : α → D) : List α → D := fun l => .tup (l.map t)
def yL {α : Type} (t : α → D) : List α → D := fun l => .lst (l.map t)
def yF {α : Type} (t : α → D) : List α → D := fun l => .fz (l.map t)
def yO {α : Type} (t : α → D) : Option α → D
  | none => .non
  | some a => t a
def lM {α : Type} (t : α → D) : List α → List D := fun l => l.map t
def yP0 : Unit → D := fun _ => .tup []
def yP1 {α : Type} (t : α → D) : α → D := fun a => .tup [t a]
def bP : Bool → Bool → Store → Prop := vP fun b => b
class TSh {α : Type} (t : α → D) (n : outParam Nat) : Prop where
  sh : ∀ k a, n ≤ k → shD k (t a) = true
class TPu {α : Type} (t : α → D) : Prop where
  pu : ∀ a, pureD (t a) = true
class TEq {α : Type} (t : α → D) : Prop where
  eqv : ∀ a b, PyData.eqv (py (t a)) (py (t b)) = true ↔ a = b
class TNc {α : Type} (t : α → D) : Prop where
  nc : ∀ a S, val S (t a) = t a

def yP2 {α β : Type} (t : α → D) (u : β → D) : α × β → D := fun p => .tup [t (p.1), u (p.2)]
def yP3 {α β γ : Type} (t : α → D) (u : β → D) (v : γ → D) : α × β × γ → D := fun p => .tup [t (p.1), u (p.2.1), v (p.2.2)]
def yP4 {α β γ δ : Type} (t : α → D) (u : β → D) (v : γ → D) (w : δ → D) : α × β × γ × δ → D := fun p => .tup [t (p.1), u (p.2.1), v (p.2.2.1), w (p.2.2.2)]
def yP5 {α β γ δ ε : Type} (t : α → D) (u : β → D) (v : γ → D) (w : δ → D) (y : ε → D) : α × β × γ × δ × ε → D := fun p => .tup [t (p.1), u (p.2.1), v (p.2.2.1), w (p.2.2.2.1), y (p.2.2.2.2)]
def yP6 {α β γ δ ε ζ : Type} (t : α → D) (u : β → D) (v : γ → D) (w : δ → D) (y : ε → D) (z : ζ → D) : α × β × γ × δ × ε × ζ → D := fun p => .tup [t (p.1), u (p.2.1), v (p.2.2.1), w (p.2.2.2.1), y (p.2.2.2.2.1), z (p.2.2.2.2.2)]
section
variable {α : Type} {t : α → D}
instance : TSh yI 0 := ⟨fun k a _ => by cases k <;> rfl⟩
instance : TSh yB 0 := ⟨fun k a _ => by cases k <;> rfl⟩
instance : TSh yN 0 := ⟨fun k a _ => by cases k <;> rfl⟩
instance : TSh yP0 1 := ⟨fun k a h => by cases k with
  | zero => exact absurd h (by decide)
  | succ k => rfl⟩
theorem all_sh {n k : Nat} [TSh t n] (h : n ≤ k) (l : List α) : (l.map t).all (shD k) = true := List.all_eq_true.mpr fun x hx => by
  obtain ⟨a, _, rfl⟩ := List.mem_map.mp hx
  exact TSh.sh k a h
instance {n : Nat} [TSh t n] : TSh (yT t) (n + 1) := ⟨fun k a h => by cases k with
  | zero => exact absurd h (by omega)
  | succ k => exact all_sh (n := n) (by omega) a⟩
instance {n : Nat} [TSh t n] : TSh (yL t) (n + 1) := ⟨fun k a h => by cases k with
  | zero => exact absurd h (by omega)
  | succ k => exact all_sh (n := n) (by omega) a⟩
instance {n : Nat} [TSh t n] : TSh (yF t) (n + 1) := ⟨fun k a h => by cases k with
  | zero => exact absurd h (by omega)
  | succ k => exact all_sh (n := n) (by omega) a⟩
instance {n : Nat} [TSh t n] : TSh (yO t) n := ⟨fun k a h => by cases a with
  | none => cases k <;> rfl
  | some a => exact TSh.sh (t := t) k a h⟩
instance {n : Nat} [TSh t n] : TSh (yP1 t) (n + 1) := ⟨fun k a h => by cases k with
  | zero => exact absurd h (by omega)
  | succ k => show (shD k (t a) && true) = true; rw [TSh.sh (t := t) k a (by omega)]; rfl⟩
instance : TPu yI := ⟨fun _ => rfl⟩
instance : TPu yB := ⟨fun _ => rfl⟩
instance : TPu yN := ⟨fun _ => rfl⟩
instance : TPu yS := ⟨fun _ => rfl⟩
instance : TPu yP0 := ⟨fun _ => rfl⟩
instance [TPu t] : TPu (yT t) := ⟨fun a => pureL_map (fun x => TPu.pu (t := t) x) a⟩
instance [TPu t] : TPu (yL t) := ⟨fun a => pureL_map (fun x => TPu.pu (t := t) x) a⟩
instance [TPu t] : TPu (yF t) := ⟨fun a => pureL_map (fun x => TPu.pu (t := t) x) a⟩
instance [TPu t] : TPu (yO t) := ⟨fun a => by cases a with
  | none => rfl
  | some a => exact TPu.pu (t := t) a⟩
instance [TPu t] : TPu (yP1 t) := ⟨fun a => by show (pureD (t a) && true) = true; rw [TPu.pu (t := t) a]; rfl⟩
instance : TNc yI := ⟨fun _ _ => rfl⟩
instance : TNc yB := ⟨fun _ _ => rfl⟩
instance : TNc yN := ⟨fun _ _ => rfl⟩
instance : TNc yS := ⟨fun _ _ => rfl⟩
instance : TNc yP0 := ⟨fun _ _ => rfl⟩
instance : TNc (yT t) := ⟨fun _ _ => rfl⟩
instance : TNc (yL t) := ⟨fun _ _ => rfl⟩
instance : TNc (yF t) := ⟨fun _ _ => rfl⟩
instance : TNc (yP1 t) := ⟨fun _ _ => rfl⟩
instance [TNc t] : TNc (yO t) := ⟨fun a S => by cases a with
  | none => rfl
  | some a => exact TNc.nc (t := t) a S⟩
instance : TEq yI := ⟨fun a b => by rw [show PyData.eqv (py (yI a)) (py (yI b)) = _ from eqv_int a b]; exact decide_eq_true_iff⟩
instance : TEq yB := ⟨fun a b => by rw [show PyData.eqv (py (yB a)) (py (yB b)) = _ from eqv_bl a b]; exact decide_eq_true_iff⟩
instance : TEq yP0 := ⟨fun a b => ⟨fun _ => rfl, fun _ => rfl⟩⟩
theorem eqvs_map [TEq t] : ∀ a b : List α, PyData.eqvAll (pyL (a.map t)) (pyL (b.map t)) = true ↔ a = b
  | [], [] => ⟨fun _ => rfl, fun _ => rfl⟩
  | [], y :: b => ⟨fun h => (nomatch h), fun h => (nomatch h)⟩
  | x :: a, [] => ⟨fun h => (nomatch h), fun h => (nomatch h)⟩
  | x :: a, y :: b => by
    show (PyData.eqv (py (t x)) (py (t y)) && PyData.eqvAll (pyL (a.map t)) (pyL (b.map t))) = true ↔ _
    rw [Bool.and_eq_true, TEq.eqv (t := t) x y, eqvs_map a b, List.cons.injEq]
instance [TEq t] : TEq (yT t) := ⟨fun a b => eqvs_map a b⟩
instance [TEq t] : TEq (yL t) := ⟨fun a b => eqvs_map a b⟩
instance [TEq t] : TEq (yP1 t) := ⟨fun a b => by
    show (PyData.eqv (py (t a)) (py (t b)) && true) = true ↔ _
    rw [Bool.and_true, TEq.eqv (t := t) a b]⟩
end
instance {α β : Type} {t : α → D} {u : β → D} {n0 n1 : Nat} [TSh t n0] [TSh u n1] : TSh (yP2 t u) ((Nat.max n0 n1) + 1) := ⟨fun k p h => by cases k with
  | zero => exact absurd h (by omega)
  | succ k => show (shD k (t (p.1)) && (shD k (u (p.2)) && true)) = true; rw [TSh.sh (t := t) k (p.1) (by have h2 : (Nat.max n0 n1) ≤ k := Nat.le_of_succ_le_succ h; simp only [Nat.max_le] at h2; exact h2.1), TSh.sh (t := u) k (p.2) (by have h2 : (Nat.max n0 n1) ≤ k := Nat.le_of_succ_le_succ h; simp only [Nat.max_le] at h2; exact h2.2)]; rfl⟩
instance {α β : Type} {t : α → D} {u : β → D} [TPu t] [TPu u] : TPu (yP2 t u) := ⟨fun p => by show (pureD (t (p.1)) && (pureD (u (p.2)) && true)) = true; rw [TPu.pu (t := t) (p.1), TPu.pu (t := u) (p.2)]; rfl⟩
instance {α β : Type} {t : α → D} {u : β → D} : TNc (yP2 t u) := ⟨fun _ _ => rfl⟩
instance {α β : Type} {t : α → D} {u : β → D} [TEq t] [TEq u] : TEq (yP2 t u) := ⟨fun a b => by
  show (PyData.eqv (py (t (a.1))) (py (t (b.1))) && (PyData.eqv (py (u (a.2))) (py (u (b.2))) && true)) = true ↔ _
  simp only [Bool.and_eq_true, Bool.and_true, TEq.eqv (t := t), TEq.eqv (t := u)]
  constructor
  · rintro ⟨h0, h1⟩; exact Prod.ext h0 (h1)
  · rintro rfl; exact ⟨rfl, rfl⟩⟩
instance {α β γ : Type} {t : α → D} {u : β → D} {v : γ → D} {n0 n1 n2 : Nat} [TSh t n0] [TSh u n1] [TSh v n2] : TSh (yP3 t u v) ((Nat.max n0 (Nat.max n1 n2)) + 1) := ⟨fun k p h => by cases k with
  | zero => exact absurd h (by omega)
  | succ k => show (shD k (t (p.1)) && (shD k (u (p.2.1)) && (shD k (v (p.2.2)) && true))) = true; rw [TSh.sh (t := t) k (p.1) (by have h2 : (Nat.max n0 (Nat.max n1 n2)) ≤ k := Nat.le_of_succ_le_succ h; simp only [Nat.max_le] at h2; exact h2.1), TSh.sh (t := u) k (p.2.1) (by have h2 : (Nat.max n0 (Nat.max n1 n2)) ≤ k := Nat.le_of_succ_le_succ h; simp only [Nat.max_le] at h2; exact h2.2.1), TSh.sh (t := v) k (p.2.2) (by have h2 : (Nat.max n0 (Nat.max n1 n2)) ≤ k := Nat.le_of_succ_le_succ h; simp only [Nat.max_le] at h2; exact h2.2.2)]; rfl⟩
instance {α β γ : Type} {t : α → D} {u : β → D} {v : γ → D} [TPu t] [TPu u] [TPu v] : TPu (yP3 t u v) := ⟨fun p => by show (pureD (t (p.1)) && (pureD (u (p.2.1)) && (pureD (v (p.2.2)) && true))) = true; rw [TPu.pu (t := t) (p.1), TPu.pu (t := u) (p.2.1), TPu.pu (t := v) (p.2.2)]; rfl⟩
instance {α β γ : Type} {t : α → D} {u : β → D} {v : γ → D} : TNc (yP3 t u v) := ⟨fun _ _ => rfl⟩
instance {α β γ : Type} {t : α → D} {u : β → D} {v : γ → D} [TEq t] [TEq u] [TEq v] : TEq (yP3 t u v) := ⟨fun a b => by
  show (PyData.eqv (py (t (a.1))) (py (t (b.1))) && (PyData.eqv (py (u (a.2.1))) (py (u (b.2.1))) && (PyData.eqv (py (v (a.2.2))) (py (v (b.2.2))) && true))) = true ↔ _
  simp only [Bool.and_eq_true, Bool.and_true, TEq.eqv (t := t), TEq.eqv (t := u), TEq.eqv (t := v)]
  constructor
  · rintro ⟨h0, h1, h2⟩; exact Prod.ext h0 (Prod.ext h1 (h2))
  · rintro rfl; exact ⟨rfl, rfl, rfl⟩⟩
instance {α β γ δ : Type} {t : α → D} {u : β → D} {v : γ → D} {w : δ → D} {n0 n1 n2 n3 : Nat} [TSh t n0] [TSh u n1] [TSh v n2] [TSh w n3] : TSh (yP4 t u v w) ((Nat.max n0 (Nat.max n1 (Nat.max n2 n3))) + 1) := ⟨fun k p h => by cases k with
  | zero => exact absurd h (by omega)
  | succ k => show (shD k (t (p.1)) && (shD k (u (p.2.1)) && (shD k (v (p.2.2.1)) && (shD k (w (p.2.2.2)) && true)))) = true; rw [TSh.sh (t := t) k (p.1) (by have h2 : (Nat.max n0 (Nat.max n1 (Nat.max n2 n3))) ≤ k := Nat.le_of_succ_le_succ h; simp only [Nat.max_le] at h2; exact h2.1), TSh.sh (t := u) k (p.2.1) (by have h2 : (Nat.max n0 (Nat.max n1 (Nat.max n2 n3))) ≤ k := Nat.le_of_succ_le_succ h; simp only [Nat.max_le] at h2; exact h2.2.1), TSh.sh (t := v) k (p.2.2.1) (by have h2 : (Nat.max n0 (Nat.max n1 (Nat.max n2 n3))) ≤ k := Nat.le_of_succ_le_succ h; simp only [Nat.max_le] at h2; exact h2.2.2.1), TSh.sh (t := w) k (p.2.2.2) (by have h2 : (Nat.max n0 (Nat.max n1 (Nat.max n2 n3))) ≤ k := Nat.le_of_succ_le_succ h; simp only [Nat.max_le] at h2; exact h2.2.2.2)]; rfl⟩
instance {α β γ δ : Type} {t : α → D} {u : β → D} {v : γ → D} {w : δ → D} [TPu t] [TPu u] [TPu v] [TPu w] : TPu (yP4 t u v w) := ⟨fun p => by show (pureD (t (p.1)) && (pureD (u (p.2.1)) && (pureD (v (p.2.2.1)) && (pureD (w (p.2.2.2)) && true)))) = true; rw [TPu.pu (t := t) (p.1), TPu.pu (t := u) (p.2.1), TPu.pu (t := v) (p.2.2.1), TPu.pu (t := w) (p.2.2.2)]; rfl⟩
instance {α β γ δ : Type} {t : α → D} {u : β → D} {v : γ → D} {w : δ → D} : TNc (yP4 t u v w) := ⟨fun _ _ => rfl⟩
instance {α β γ δ : Type} {t : α → D} {u : β → D} {v : γ → D} {w : δ → D} [TEq t] [TEq u] [TEq v] [TEq w] : TEq (yP4 t u v w) := ⟨fun a b => by
  show (PyData.eqv (py (t (a.1))) (py (t (b.1))) && (PyData.eqv (py (u (a.2.1))) (py (u (b.2.1))) && (PyData.eqv (py (v (a.2.2.1))) (py (v (b.2.2.1))) && (PyData.eqv (py (w (a.2.2.2))) (py (w (b.2.2.2))) && true)))) = true ↔ _
  simp only [Bool.and_eq_true, Bool.and_true, TEq.eqv (t := t), TEq.eqv (t := u), TEq.eqv (t := v), TEq.eqv (t := w)]
  constructor
  · rintro ⟨h0, h1, h2, h3⟩; exact Prod.ext h0 (Prod.ext h1 (Prod.ext h2 (h3)))
  · rintro rfl; exact ⟨rfl, rfl, rfl, rfl⟩⟩
instance {α β γ δ ε : Type} {t : α → D} {u : β → D} {v : γ → D} {w : δ → D} {y : ε → D} {n0 n1 n2 n3 n4 : Nat} [TSh t n0] [TSh u n1] [TSh v n2] [TSh w n3] [TSh y n4] : TSh (yP5 t u v w y) ((Nat.max n0 (Nat.max n1 (Nat.max n2 (Nat.max n3 n4)))) + 1) := ⟨fun k p h => by cases k with
  | zero => exact absurd h (by omega)
  | succ k => show (shD k (t (p.1)) && (shD k (u (p.2.1)) && (shD k (v (p.2.2.1)) && (shD k (w (p.2.2.2.1)) && (shD k (y (p.2.2.2.2)) && true))))) = true; rw [TSh.sh (t := t) k (p.1) (by have h2 : (Nat.max n0 (Nat.max n1 (Nat.max n2 (Nat.max n3 n4)))) ≤ k := Nat.le_of_succ_le_succ h; simp only [Nat.max_le] at h2; exact h2.1), TSh.sh (t := u) k (p.2.1) (by have h2 : (Nat.max n0 (Nat.max n1 (Nat.max n2 (Nat.max n3 n4)))) ≤ k := Nat.le_of_succ_le_succ h; simp only [Nat.max_le] at h2; exact h2.2.1), TSh.sh (t := v) k (p.2.2.1) (by have h2 : (Nat.max n0 (Nat.max n1 (Nat.max n2 (Nat.max n3 n4)))) ≤ k := Nat.le_of_succ_le_succ h; simp only [Nat.max_le] at h2; exact h2.2.2.1), TSh.sh (t := w) k (p.2.2.2.1) (by have h2 : (Nat.max n0 (Nat.max n1 (Nat.max n2 (Nat.max n3 n4)))) ≤ k := Nat.le_of_succ_le_succ h; simp only [Nat.max_le] at h2; exact h2.2.2.2.1), TSh.sh (t := y) k (p.2.2.2.2) (by have h2 : (Nat.max n0 (Nat.max n1 (Nat.max n2 (Nat.max n3 n4)))) ≤ k := Nat.le_of_succ_le_succ h; simp only [Nat.max_le] at h2; exact h2.2.2.2.2)]; rfl⟩
instance {α β γ δ ε : Type} {t : α → D} {u : β → D} {v : γ → D} {w : δ → D} {y : ε → D} [TPu t] [TPu u] [TPu v] [TPu w] [TPu y] : TPu (yP5 t u v w y) := ⟨fun p => by show (pureD (t (p.1)) && (pureD (u (p.2.1)) && (pureD (v (p.2.2.1)) && (pureD (w (p.2.2.2.1)) && (pureD (y (p.2.2.2.2)) && true))))) = true; rw [TPu.pu (t := t) (p.1), TPu.pu (t := u) (p.2.1), TPu.pu (t := v) (p.2.2.1), TPu.pu (t := w) (p.2.2.2.1), TPu.pu (t := y) (p.2.2.2.2)]; rfl⟩
instance {α β γ δ ε : Type} {t : α → D} {u : β → D} {v : γ → D} {w : δ → D} {y : ε → D} : TNc (yP5 t u v w y) := ⟨fun _ _ => rfl⟩
instance {α β γ δ ε : Type} {t : α → D} {u : β → D} {v : γ → D} {w : δ → D} {y : ε → D} [TEq t] [TEq u] [TEq v] [TEq w] [TEq y] : TEq (yP5 t u v w y) := ⟨fun a b => by
  show (PyData.eqv (py (t (a.1))) (py (t (b.1))) && (PyData.eqv (py (u (a.2.1))) (py (u (b.2.1))) && (PyData.eqv (py (v (a.2.2.1))) (py (v (b.2.2.1))) && (PyData.eqv (py (w (a.2.2.2.1))) (py (w (b.2.2.2.1))) && (PyData.eqv (py (y (a.2.2.2.2))) (py (y (b.2.2.2.2))) && true))))) = true ↔ _
  simp only [Bool.and_eq_true, Bool.and_true, TEq.eqv (t := t), TEq.eqv (t := u), TEq.eqv (t := v), TEq.eqv (t := w), TEq.eqv (t := y)]
  constructor
  · rintro ⟨h0, h1, h2, h3, h4⟩; exact Prod.ext h0 (Prod.ext h1 (Prod.ext h2 (Prod.ext h3 (h4))))
  · rintro rfl; exact ⟨rfl, rfl, rfl, rfl, rfl⟩⟩
instance {α β γ δ ε ζ : Type} {t : α → D} {u : β → D} {v : γ → D} {w : δ → D} {y : ε → D} {z : ζ → D} {n0 n1 n2 n3 n4 n5 : Nat} [TSh t n0] [TSh u n1] [TSh v n2] [TSh w n3] [TSh y n4] [TSh z n5] : TSh (yP6 t u v w y z) ((Nat.max n0 (Nat.max n1 (Nat.max n2 (Nat.max n3 (Nat.max n4 n5))))) + 1) := ⟨fun k p h => by cases k with
  | zero => exact absurd h (by omega)
  | succ k => show (shD k (t (p.1)) && (shD k (u (p.2.1)) && (shD k (v (p.2.2.1)) && (shD k (w (p.2.2.2.1)) && (shD k (y (p.2.2.2.2.1)) && (shD k (z (p.2.2.2.2.2)) && true)))))) = true; rw [TSh.sh (t := t) k (p.1) (by have h2 : (Nat.max n0 (Nat.max n1 (Nat.max n2 (Nat.max n3 (Nat.max n4 n5))))) ≤ k := Nat.le_of_succ_le_succ h; simp only [Nat.max_le] at h2; exact h2.1), TSh.sh (t := u) k (p.2.1) (by have h2 : (Nat.max n0 (Nat.max n1 (Nat.max n2 (Nat.max n3 (Nat.max n4 n5))))) ≤ k := Nat.le_of_succ_le_succ h; simp only [Nat.max_le] at h2; exact h2.2.1), TSh.sh (t := v) k (p.2.2.1) (by have h2 : (Nat.max n0 (Nat.max n1 (Nat.max n2 (Nat.max n3 (Nat.max n4 n5))))) ≤ k := Nat.le_of_succ_le_succ h; simp only [Nat.max_le] at h2; exact h2.2.2.1), TSh.sh (t := w) k (p.2.2.2.1) (by have h2 : (Nat.max n0 (Nat.max n1 (Nat.max n2 (Nat.max n3 (Nat.max n4 n5))))) ≤ k := Nat.le_of_succ_le_succ h; simp only [Nat.max_le] at h2; exact h2.2.2.2.1), TSh.sh (t := y) k (p.2.2.2.2.1) (by have h2 : (Nat.max n0 (Nat.max n1 (Nat.max n2 (Nat.max n3 (Nat.max n4 n5))))) ≤ k := Nat.le_of_succ_le_succ h; simp only [Nat.max_le] at h2; exact h2.2.2.2.2.1), TSh.sh (t := z) k (p.2.2.2.2.2) (by have h2 : (Nat.max n0 (Nat.max n1 (Nat.max n2 (Nat.max n3 (Nat.max n4 n5))))) ≤ k := Nat.le_of_succ_le_succ h; simp only [Nat.max_le] at h2; exact h2.2.2.2.2.2)]; rfl⟩
instance {α β γ δ ε ζ : Type} {t : α → D} {u : β → D} {v : γ → D} {w : δ → D} {y : ε → D} {z : ζ → D} [TPu t] [TPu u] [TPu v] [TPu w] [TPu y] [TPu z] : TPu (yP6 t u v w y z) := ⟨fun p => by show (pureD (t (p.1)) && (pureD (u (p.2.1)) && (pureD (v (p.2.2.1)) && (pureD (w (p.2.2.2.1)) && (pureD (y (p.2.2.2.2.1)) && (pureD (z (p.2.2.2.2.2)) && true)))))) = true; rw [TPu.pu (t := t) (p.1), TPu.pu (t := u) (p.2.1), TPu.pu (t := v) (p.2.2.1), TPu.pu (t := w) (p.2.2.2.1), TPu.pu (t := y) (p.2.2.2.2.1), TPu.pu (t := z) (p.2.2.2.2.2)]; rfl⟩
instance {α β γ δ ε ζ : Type} {t : α → D} {u : β → D} {v : γ → D} {w : δ → D} {y : ε → D} {z : ζ → D} : TNc (yP6 t u v w y z) := ⟨fun _ _ => rfl⟩
instance {α β γ δ ε ζ : Type} {t : α → D} {u : β → D} {v : γ → D} {w : δ → D} {y : ε → D} {z : ζ → D} [TEq t] [TEq u] [TEq v] [TEq w] [TEq y] [TEq z] : TEq (yP6 t u v w y z) := ⟨fun a b => by
  show (PyData.eqv (py (t (a.1))) (py (t (b.1))) && (PyData.eqv (py (u (a.2.1))) (py (u (b.2.1))) && (PyData.eqv (py (v (a.2.2.1))) (py (v (b.2.2.1))) && (PyData.eqv (py (w (a.2.2.2.1))) (py (w (b.2.2.2.1))) && (PyData.eqv (py (y (a.2.2.2.2.1))) (py (y (b.2.2.2.2.1))) && (PyData.eqv (py (z (a.2.2.2.2.2))) (py (z (b.2.2.2.2.2))) && true)))))) = true ↔ _
  simp only [Bool.and_eq_true, Bool.and_true, TEq.eqv (t := t), TEq.eqv (t := u), TEq.eqv (t := v), TEq.eqv (t := w), TEq.eqv (t := y), TEq.eqv (t := z)]
  constructor
  · rintro ⟨h0, h1, h2, h3, h4, h5⟩; exact Prod.ext h0 (Prod.ext h1 (Prod.ext h2 (Prod.ext h3 (Prod.ext h4 (h5)))))
  · rintro rfl; exact ⟨rfl, rfl, rfl, rfl, rfl, rfl⟩⟩
section
variable {B : Bs} {sl : List Sl} {α β γ δ ε : Type}
theorem xe_var {t : α → D} {a : α} (i : Nat) (h : sl[i]? = some (.v (t a))) : XE B sl (eVar i) (vP t) (.ok a) := fun env S r => by
  refine ⟨t a, ?_, rfl⟩
  unfold eVar
  rw [r.v h]
theorem xe_vc {t : α → D} {l : List α} (i : Nat) (h : sl[i]? = some (.c (l.map t))) : XE B sl (eVar i) (lP false t) (.ok l) := fun env S r => by
  obtain ⟨n, e, q⟩ := r.c h
  refine ⟨.cell n, ?_, ?_, rfl⟩
  · unfold eVar; rw [e]
  · unfold seqOf; dsimp only; rw [q]
theorem xe_c {t : α → D} {d : D} (a : α) (h : d = t a) : XE B sl (eC d) (vP t) (.ok a) := fun env S r => ⟨d, rfl, h⟩
theorem XE.conv {m : M β} {P : α → β → Store → Prop} {P' : γ → β → Store → Prop} {f : R α} {f' : R γ} (h : XE B sl m P f) (c : α → γ) (hc : ∀ a d S, P a d S → P' (c a) d S) (e : (f.bind fun a => .ok (c a)) = f' := by rfl) : XE B sl m P' f' := fun env S r => by
  have := h env S r
  rw [← e]
  cases f with
  | ok a => obtain ⟨d, q1, q2⟩ := this; exact ⟨d, q1, hc a d S q2⟩
  | err c => exact this
  | bad => trivial
theorem XE.asT {t : α → D} {m : M D} {f : R (List α)} (h : XE B sl m (vP (yT t)) f) : XE B sl m (lP true t) f := fun env S r => by
  have := h env S r
  cases f with
  | ok a => obtain ⟨d, q1, q2⟩ := this; cases q2; exact ⟨_, q1, rfl, rfl⟩
  | err c => exact this
  | bad => trivial
theorem XE.asL {t : α → D} {m : M D} {f : R (List α)} (h : XE B sl m (vP (yL t)) f) : XE B sl m (lP false t) f := fun env S r => by
  have := h env S r
  cases f with
  | ok a => obtain ⟨d, q1, q2⟩ := this; cases q2; exact ⟨_, q1, rfl, rfl⟩
  | err c => exact this
  | bad => trivial
theorem XE.asF {t : α → D} {m : M D} {f : R (List α)} (h : XE B sl m (vP (yF t)) f) : XE B sl m (lP false t) f := fun env S r => by
  have := h env S r
  cases f with
  | ok a => obtain ⟨d, q1, q2⟩ := this; cases q2; exact ⟨_, q1, rfl, rfl⟩
  | err c => exact this
  | bad => trivial
abbrev Op2 (f : D → D → Store → Res D) (P : α → D → Store → Prop) (P' : β → D → Store → Prop) (P'' : γ → D → Store → Prop) (g : α → β → R γ) : Prop := ∀ a b d e S, P a d S → P' b e S → Out S P'' (g a b) (f d e S)
abbrev Op1 (f : D → Store → Res D) (P : α → D → Store → Prop) (P'' : γ → D → Store → Prop) (g : α → R γ) : Prop := ∀ a d S, P a d S → Out S P'' (g a) (f d S)
theorem xe_e2 {f : D → D → Store → Res D} {P : α → D → Store → Prop} {P' : β → D → Store → Prop} {P'' : γ → D → Store → Prop} {g : α → β → R γ} {ma mb : M D} {fa : R α} {fb : R β} {f' : R γ} (op : Op2 f P P' P'' g) (ha : XE B sl ma P fa) (hb : XE B sl mb P' fb) (e : (fa.bind fun a => fb.bind fun b => g a b) = f' := by rfl) : XE B sl (e2 f ma mb) P'' f' := fun env S r => by
  rw [← e]
  exact Out.bind (ha env S r) fun a d pa => Out.bind (hb env S r) fun b d' pb => op a b d d' S pa pb
theorem xe_e2t {f : D → D → Store → Res D} {P : α → D → Store → Prop} {P' : β → D → Store → Prop} {P'' : γ → D → Store → Prop} {g : α → β → R γ} {ma mb : M D} {a : α} {b : β} {f' : R γ} (op : Op2 f P P' P'' g) (ha : XE B sl ma P (.ok a)) (hb : XE B sl mb P' (.ok b)) (e : g a b = f' := by rfl) : XE B sl (e2 f ma mb) P'' f' := xe_e2 op ha hb e
theorem xe_e1 {f : D → Store → Res D} {P : α → D → Store → Prop} {P'' : γ → D → Store → Prop} {g : α → R γ} {ma : M D} {fa : R α} {f' : R γ} (op : Op1 f P P'' g) (ha : XE B sl ma P fa) (e : (fa.bind fun a => g a) = f' := by rfl) : XE B sl (e1 f ma) P'' f' := fun env S r => by
  rw [← e]
  exact Out.bind (ha env S r) fun a d pa => op a d S pa
theorem xe_e1t {f : D → Store → Res D} {P : α → D → Store → Prop} {P'' : γ → D → Store → Prop} {g : α → R γ} {ma : M D} {a : α} {f' : R γ} (op : Op1 f P P'' g) (ha : XE B sl ma P (.ok a)) (e : g a = f' := by rfl) : XE B sl (e1 f ma) P'' f' := xe_e1 op ha e
theorem xe_ixc {P : α → D → Store → Prop} {P'' : γ → D → Store → Prop} {g : α → R γ} {ma : M D} {k : Int} {fa : R α} {f' : R γ} (op : Op1 (fun d S => dIx d (.int k) S) P P'' g) (ha : XE B sl ma P fa) (e : (fa.bind fun a => g a) = f' := by rfl) : XE B sl (e2 dIx ma (eC (.int k))) P'' f' := fun env S r => by
  rw [← e]
  exact Out.bind (ha env S r) fun a d pa => op a d S pa
theorem xe_ixct {P : α → D → Store → Prop} {P'' : γ → D → Store → Prop} {g : α → R γ} {ma : M D} {k : Int} {a : α} {f' : R γ} (op : Op1 (fun d S => dIx d (.int k) S) P P'' g) (ha : XE B sl ma P (.ok a)) (e : g a = f' := by rfl) : XE B sl (e2 dIx ma (eC (.int k))) P'' f' := xe_ixc op ha e
theorem xt_tst {m : M D} {f : R Bool} (h : XE B sl m (vP yB) f) : XE B sl (tst m) bP f := fun env S r => by
  have := h env S r
  unfold tst
  cases f with
  | ok a => obtain ⟨d, q1, q2⟩ := this; cases q2; rw [q1]; exact ⟨a, rfl, rfl⟩
  | err c => rw [show m env S = _ from this]; rfl
  | bad => trivial
theorem xt_or {ma mb : M Bool} {fa fb f' : R Bool} (ha : XE B sl ma bP fa) (hb : XE B sl mb bP fb) (e : (fa.bind fun a => if a = true then .ok true else fb) = f' := by rfl) : XE B sl (tOr' ma mb) bP f' := fun env S r => by
  rw [← e]
  refine Out.bind (ha env S r) fun a d pa => ?_
  cases pa
  cases a with
  | true => exact ⟨true, rfl, rfl⟩
  | false => exact hb env S r
theorem xt_ort {ma mb : M Bool} {a b : Bool} (ha : XE B sl ma bP (.ok a)) (hb : XE B sl mb bP (.ok b)) : XE B sl (tOr' ma mb) bP (.ok (a || b)) := fun env S r => by
  have := xt_or ha hb rfl env S r
  cases a <;> exact this
theorem xt_not {ma : M Bool} {fa f' : R Bool} (ha : XE B sl ma bP fa) (e : (fa.bind fun a => .ok (!a)) = f' := by rfl) : XE B sl (tNot' ma) bP f' := fun env S r => by
  rw [← e]
  refine Out.bind (ha env S r) fun a d pa => ?_
  cases pa
  exact ⟨!a, rfl, rfl⟩
theorem xe_and {ma mb : M D} {fa fb f' : R Bool} (ha : XE B sl ma (vP yB) fa) (hb : XE B sl mb (vP yB) fb) (e : (fa.bind fun a => if a = true then fb else .ok false) = f' := by rfl) : XE B sl (eAnd ma mb) (vP yB) f' := fun env S r => by
  rw [← e]
  refine Out.bind (ha env S r) fun a d pa => ?_
  cases pa
  cases a with
  | true => exact hb env S r
  | false => exact ⟨_, rfl, rfl⟩
theorem xe_andt {ma mb : M D} {a b : Bool} (ha : XE B sl ma (vP yB) (.ok a)) (hb : XE B sl mb (vP yB) (.ok b)) : XE B sl (eAnd ma mb) (vP yB) (.ok (a && b)) := fun env S r => by
  have := xe_and ha hb rfl env S r
  cases a <;> exact this
theorem xe_not {ma : M D} {fa f' : R Bool} (ha : XE B sl ma (vP yB) fa) (e : (fa.bind fun a => .ok (!a)) = f' := by rfl) : XE B sl (eNot ma) (vP yB) f' := fun env S r => by
  rw [← e]
  refine Out.bind (ha env S r) fun a d pa => ?_
  cases pa
  exact ⟨_, rfl, rfl⟩
theorem xo_none : XE B sl oNone (vP fun o : Option Int => o) (.ok none) := fun env S r => ⟨none, rfl, rfl⟩
theorem xo_some {m : M D} {f : R Int} {f' : R (Option Int)} (h : XE B sl m (vP yI) f) (e : (f.bind fun a => .ok (some a)) = f' := by rfl) : XE B sl (oSome m) (vP fun o : Option Int => o) f' := fun env S r => by
  rw [← e]
  refine Out.bind (h env S r) fun a d pa => ?_
  cases pa
  exact ⟨some a, rfl, rfl⟩
def cutL {α : Type} (ds : List α) (lo hi : Option Int) : List α := (ds.drop (HT.sIx ds.length 0 lo)).take (HT.sIx ds.length ds.length hi - HT.sIx ds.length 0 lo)
theorem cutL_map (t : α → D) (l : List α) (lo hi : Option Int) : cutD (l.map t) lo hi = (cutL l lo hi).map t := by
  unfold cutD cutL
  rw [List.map_take, List.map_drop, List.length_map]
theorem xe_slT {t : α → D} {ma : M D} {ml mh : M (Option Int)} {fa : R (List α)} {fl fh : R (Option Int)} {f' : R (List α)} (ha : XE B sl ma (vP (yT t)) fa) (hl : XE B sl ml (vP fun o : Option Int => o) fl) (hh : XE B sl mh (vP fun o : Option Int => o) fh) (e : (fa.bind fun a => fl.bind fun lo => fh.bind fun hi => .ok (cutL a lo hi)) = f' := by rfl) : XE B sl (eSl dSl ma ml mh) (vP (yT t)) f' := fun env S r => by
  rw [← e]
  refine Out.bind (ha env S r) fun a d pa => Out.bind (hl env S r) fun lo d1 p1 => Out.bind (hh env S r) fun hi d2 p2 => ?_
  cases pa; cases p1; cases p2
  exact ⟨_, rfl, by show D.tup (cutD (a.map t) lo hi) = D.tup ((cutL a lo hi).map t); rw [cutL_map]⟩
theorem xe_slL {t : α → D} {ma : M D} {ml mh : M (Option Int)} {fa : R (List α)} {fl fh : R (Option Int)} {f' : R (List α)} (ha : XE B sl ma (lP false t) fa) (hl : XE B sl ml (vP fun o : Option Int => o) fl) (hh : XE B sl mh (vP fun o : Option Int => o) fh) (e : (fa.bind fun a => fl.bind fun lo => fh.bind fun hi => .ok (cutL a lo hi)) = f' := by rfl) : XE B sl (eSl dSl ma ml mh) (vP (yL t)) f' := fun env S r => by
  rw [← e]
  refine Out.bind (ha env S r) fun a d pa => Out.bind (hl env S r) fun lo d1 p1 => Out.bind (hh env S r) fun hi d2 p2 => ?_
  cases p1; cases p2
  obtain ⟨q1, q2⟩ := pa
  refine ⟨.lst (cutD (a.map t) lo hi), ?_, by show D.lst (cutD (a.map t) lo hi) = D.lst ((cutL a lo hi).map t); rw [cutL_map]⟩
  unfold dSl
  split
  · cases q2
  · rw [q1]
theorem xe_fz {t : α → D} {m : M (List D)} {f : R (List α)} (h : XE B sl m (vP (lM t)) f) : XE B sl (fz m) (vP (yL t)) f := fun env S r => by
  have := h env S r
  unfold fz
  cases f with
  | ok a => obtain ⟨d, q1, q2⟩ := this; cases q2; rw [q1]; exact ⟨_, rfl, rfl⟩
  | err c => rw [show m env S = _ from this]; rfl
  | bad => trivial
end
section
variable {B : Bs} {sl : List Sl} {α β γ δ ε ζ η θ ι μ ν ξ ρ κ : Type}
theorem xk1 {P0 : α → D → Store → Prop} {F : α → R ρ} {P' : ρ → κ → Store → Prop} {k : List D → Store → Res κ} {m0 : M D} {f0 : R α} (hk : ∀ a0 d0 S, P0 a0 d0 S → Out S P' (F a0) (k [d0] S)) (h0 : XE B sl m0 P0 f0) {env : En} {S : Store} (r : SRel B sl env S) : Out S P' (f0.bind fun a0 => F a0) (((aCons m0 aNil) env S).bind k) := by
  have assoc : ∀ {X Y Z : Type} (r : Res X) (p : X → Store → Res Y) (q : Y → Store → Res Z), (r.bind p).bind q = r.bind fun x S => (p x S).bind q := fun r p q => by cases r <;> rfl
  simp only [aCons, aNil, assoc, bind_ok]
  exact Out.bind (h0 env S r) fun a0 d0 p0 => hk a0 d0 S p0
theorem xe_B1 {P0 : α → D → Store → Prop} {F : α → R ρ} {P' : ρ → κ → Store → Prop} {k : List D → Store → Res κ} {m0 : M D} {f0 : R α} {f' : R ρ} (hk : ∀ a0 d0 S, P0 a0 d0 S → Out S P' (F a0) (k [d0] S)) (h0 : XE B sl m0 P0 f0) (e : (f0.bind fun a0 => F a0) = f' := by rfl) : XE B sl (eB k (aCons m0 aNil)) P' f' := fun env S r => by rw [← e]; exact xk1 hk h0 r
theorem xe_B1t {P0 : α → D → Store → Prop} {F : α → R ρ} {P' : ρ → κ → Store → Prop} {k : List D → Store → Res κ} {m0 : M D} {a0 : α} {f' : R ρ} (hk : ∀ a0 d0 S, P0 a0 d0 S → Out S P' (F a0) (k [d0] S)) (h0 : XE B sl m0 P0 (.ok a0)) (e : F a0 = f' := by rfl) : XE B sl (eB k (aCons m0 aNil)) P' f' := fun env S r => by rw [← e]; exact xk1 hk h0 r
theorem xe_call1 {P0 : α → D → Store → Prop} {F : α → R ρ} {P' : ρ → D → Store → Prop} {k : List D → Store → Res D} {m0 : M D} {f0 : R α} {f' : R ρ} (hk : ∀ a0 d0 S, P0 a0 d0 S → Out S P' (F a0) (k [d0] S)) (h0 : XE B sl m0 P0 f0) (e : (f0.bind fun a0 => F a0) = f' := by rfl) : XE B sl (eCall 1 k (aCons m0 aNil)) P' f' := fun env S r => by rw [← e]; exact xk1 (k := fun xs S1 => if xs.length = 1 then k xs S1 else .bad) hk h0 r
theorem xe_call1t {P0 : α → D → Store → Prop} {F : α → R ρ} {P' : ρ → D → Store → Prop} {k : List D → Store → Res D} {m0 : M D} {a0 : α} {f' : R ρ} (hk : ∀ a0 d0 S, P0 a0 d0 S → Out S P' (F a0) (k [d0] S)) (h0 : XE B sl m0 P0 (.ok a0)) (e : F a0 = f' := by rfl) : XE B sl (eCall 1 k (aCons m0 aNil)) P' f' := fun env S r => by rw [← e]; exact xk1 (k := fun xs S1 => if xs.length = 1 then k xs S1 else .bad) hk h0 r
theorem xe_T1 {t : α → D} {m0 : M D} {f0 : R α} {f' : R (List α)} (h0 : XE B sl m0 (vP t) f0) (e : (f0.bind fun a0 => .ok [a0]) = f' := by rfl) : XE B sl (eTup (aCons m0 aNil)) (vP (yT t)) f' := fun env S r => by rw [← e]; exact xk1 (F := fun a0 => .ok [a0]) (fun a0 d0 S p0 => by cases p0; exact ⟨_, rfl, rfl⟩) h0 r
theorem xe_T1t {t : α → D} {m0 : M D} {a0 : α} (h0 : XE B sl m0 (vP t) (.ok a0)) : XE B sl (eTup (aCons m0 aNil)) (vP (yT t)) (.ok [a0]) := xe_T1 h0
theorem xe_l1 {t : α → D} {m0 : M D} {f0 : R α} {f' : R (List α)} (h0 : XE B sl m0 (vP t) f0) (e : (f0.bind fun a0 => .ok [a0]) = f' := by rfl) : XE B sl (fLst (aCons m0 aNil)) (vP (lM t)) f' := fun env S r => by rw [← e]; exact xk1 (F := fun a0 => .ok [a0]) (fun a0 d0 S p0 => by cases p0; exact ⟨_, rfl, rfl⟩) h0 r
theorem xe_l1t {t : α → D} {m0 : M D} {a0 : α} (h0 : XE B sl m0 (vP t) (.ok a0)) : XE B sl (fLst (aCons m0 aNil)) (vP (lM t)) (.ok [a0]) := xe_l1 h0
theorem xe_P1 {t : α → D} {m0 : M D} {f0 : R α} {f' : R (α)} (h0 : XE B sl m0 (vP t) f0) (e : (f0.bind fun a0 => .ok (a0)) = f' := by rfl) : XE B sl (eTup (aCons m0 aNil)) (vP (yP1 t)) f' := fun env S r => by rw [← e]; exact xk1 (F := fun a0 => .ok (a0)) (fun a0 d0 S p0 => by cases p0; exact ⟨_, rfl, rfl⟩) h0 r
theorem xe_P1t {t : α → D} {m0 : M D} {a0 : α} (h0 : XE B sl m0 (vP t) (.ok a0)) : XE B sl (eTup (aCons m0 aNil)) (vP (yP1 t)) (.ok (a0)) := xe_P1 h0
theorem xk2 {P0 : α → D → Store → Prop} {P1 : β → D → Store → Prop} {F : α → β → R ρ} {P' : ρ → κ → Store → Prop} {k : List D → Store → Res κ} {m0 m1 : M D} {f0 : R α} {f1 : R β} (hk : ∀ a0 a1 d0 d1 S, P0 a0 d0 S → P1 a1 d1 S → Out S P' (F a0 a1) (k [d0, d1] S)) (h0 : XE B sl m0 P0 f0) (h1 : XE B sl m1 P1 f1) {env : En} {S : Store} (r : SRel B sl env S) : Out S P' (f0.bind fun a0 => f1.bind fun a1 => F a0 a1) (((aCons m0 (aCons m1 aNil)) env S).bind k) := by
  have assoc : ∀ {X Y Z : Type} (r : Res X) (p : X → Store → Res Y) (q : Y → Store → Res Z), (r.bind p).bind q = r.bind fun x S => (p x S).bind q := fun r p q => by cases r <;> rfl
  simp only [aCons, aNil, assoc, bind_ok]
  exact Out.bind (h0 env S r) fun a0 d0 p0 => Out.bind (h1 env S r) fun a1 d1 p1 => hk a0 a1 d0 d1 S p0 p1
theorem xe_B2t {P0 : α → D → Store → Prop} {P1 : β → D → Store → Prop} {F : α → β → R ρ} {P' : ρ → κ → Store → Prop} {k : List D → Store → Res κ} {m0 m1 : M D} {a0 : α} {a1 : β} {f' : R ρ} (hk : ∀ a0 a1 d0 d1 S, P0 a0 d0 S → P1 a1 d1 S → Out S P' (F a0 a1) (k [d0, d1] S)) (h0 : XE B sl m0 P0 (.ok a0)) (h1 : XE B sl m1 P1 (.ok a1)) (e : F a0 a1 = f' := by rfl) : XE B sl (eB k (aCons m0 (aCons m1 aNil))) P' f' := fun env S r => by rw [← e]; exact xk2 hk h0 h1 r
theorem xe_call2 {P0 : α → D → Store → Prop} {P1 : β → D → Store → Prop} {F : α → β → R ρ} {P' : ρ → D → Store → Prop} {k : List D → Store → Res D} {m0 m1 : M D} {f0 : R α} {f1 : R β} {f' : R ρ} (hk : ∀ a0 a1 d0 d1 S, P0 a0 d0 S → P1 a1 d1 S → Out S P' (F a0 a1) (k [d0, d1] S)) (h0 : XE B sl m0 P0 f0) (h1 : XE B sl m1 P1 f1) (e : (f0.bind fun a0 => f1.bind fun a1 => F a0 a1) = f' := by rfl) : XE B sl (eCall 2 k (aCons m0 (aCons m1 aNil))) P' f' := fun env S r => by rw [← e]; exact xk2 (k := fun xs S1 => if xs.length = 2 then k xs S1 else .bad) hk h0 h1 r
theorem xe_call2t {P0 : α → D → Store → Prop} {P1 : β → D → Store → Prop} {F : α → β → R ρ} {P' : ρ → D → Store → Prop} {k : List D → Store → Res D} {m0 m1 : M D} {a0 : α} {a1 : β} {f' : R ρ} (hk : ∀ a0 a1 d0 d1 S, P0 a0 d0 S → P1 a1 d1 S → Out S P' (F a0 a1) (k [d0, d1] S)) (h0 : XE B sl m0 P0 (.ok a0)) (h1 : XE B sl m1 P1 (.ok a1)) (e : F a0 a1 = f' := by rfl) : XE B sl (eCall 2 k (aCons m0 (aCons m1 aNil))) P' f' := fun env S r => by rw [← e]; exact xk2 (k := fun xs S1 => if xs.length = 2 then k xs S1 else .bad) hk h0 h1 r
theorem xe_l2 {t : α → D} {m0 m1 : M D} {f0 : R α} {f1 : R α} {f' : R (List α)} (h0 : XE B sl m0 (vP t) f0) (h1 : XE B sl m1 (vP t) f1) (e : (f0.bind fun a0 => f1.bind fun a1 => .ok [a0, a1]) = f' := by rfl) : XE B sl (fLst (aCons m0 (aCons m1 aNil))) (vP (lM t)) f' := fun env S r => by rw [← e]; exact xk2 (F := fun a0 a1 => .ok [a0, a1]) (fun a0 a1 d0 d1 S p0 p1 => by cases p0; cases p1; exact ⟨_, rfl, rfl⟩) h0 h1 r
theorem xe_P2 {t : α → D} {u : β → D} {m0 m1 : M D} {f0 : R α} {f1 : R β} {f' : R (α × β)} (h0 : XE B sl m0 (vP t) f0) (h1 : XE B sl m1 (vP u) f1) (e : (f0.bind fun a0 => f1.bind fun a1 => .ok (a0, a1)) = f' := by rfl) : XE B sl (eTup (aCons m0 (aCons m1 aNil))) (vP (yP2 t u)) f' := fun env S r => by rw [← e]; exact xk2 (F := fun a0 a1 => .ok (a0, a1)) (fun a0 a1 d0 d1 S p0 p1 => by cases p0; cases p1; exact ⟨_, rfl, rfl⟩) h0 h1 r
theorem xe_P2t {t : α → D} {u : β → D} {m0 m1 : M D} {a0 : α} {a1 : β} (h0 : XE B sl m0 (vP t) (.ok a0)) (h1 : XE B sl m1 (vP u) (.ok a1)) : XE B sl (eTup (aCons m0 (aCons m1 aNil))) (vP (yP2 t u)) (.ok (a0, a1)) := xe_P2 h0 h1
theorem ixp_2_0 {t : α → D} {u : β → D} : Op1 (fun d S => dIx d (.int 0) S) (vP (yP2 t u)) (vP t) (fun p => .ok (p.1)) := fun p d S h => by cases h; exact ⟨_, rfl, rfl⟩
theorem ixp_2_1 {t : α → D} {u : β → D} : Op1 (fun d S => dIx d (.int 1) S) (vP (yP2 t u)) (vP u) (fun p => .ok (p.2)) := fun p d S h => by cases h; exact ⟨_, rfl, rfl⟩
theorem xk3 {P0 : α → D → Store → Prop} {P1 : β → D → Store → Prop} {P2 : γ → D → Store → Prop} {F : α → β → γ → R ρ} {P' : ρ → κ → Store → Prop} {k : List D → Store → Res κ} {m0 m1 m2 : M D} {f0 : R α} {f1 : R β} {f2 : R γ} (hk : ∀ a0 a1 a2 d0 d1 d2 S, P0 a0 d0 S → P1 a1 d1 S → P2 a2 d2 S → Out S P' (F a0 a1 a2) (k [d0, d1, d2] S)) (h0 : XE B sl m0 P0 f0) (h1 : XE B sl m1 P1 f1) (h2 : XE B sl m2 P2 f2) {env : En} {S : Store} (r : SRel B sl env S) : Out S P' (f0.bind fun a0 => f1.bind fun a1 => f2.bind fun a2 => F a0 a1 a2) (((aCons m0 (aCons m1 (aCons m2 aNil))) env S).bind k) := by
  have assoc : ∀ {X Y Z : Type} (r : Res X) (p : X → Store → Res Y) (q : Y → Store → Res Z), (r.bind p).bind q = r.bind fun x S => (p x S).bind q := fun r p q => by cases r <;> rfl
  simp only [aCons, aNil, assoc, bind_ok]
  exact Out.bind (h0 env S r) fun a0 d0 p0 => Out.bind (h1 env S r) fun a1 d1 p1 => Out.bind (h2 env S r) fun a2 d2 p2 => hk a0 a1 a2 d0 d1 d2 S p0 p1 p2
theorem xe_call3 {P0 : α → D → Store → Prop} {P1 : β → D → Store → Prop} {P2 : γ → D → Store → Prop} {F : α → β → γ → R ρ} {P' : ρ → D → Store → Prop} {k : List D → Store → Res D} {m0 m1 m2 : M D} {f0 : R α} {f1 : R β} {f2 : R γ} {f' : R ρ} (hk : ∀ a0 a1 a2 d0 d1 d2 S, P0 a0 d0 S → P1 a1 d1 S → P2 a2 d2 S → Out S P' (F a0 a1 a2) (k [d0, d1, d2] S)) (h0 : XE B sl m0 P0 f0) (h1 : XE B sl m1 P1 f1) (h2 : XE B sl m2 P2 f2) (e : (f0.bind fun a0 => f1.bind fun a1 => f2.bind fun a2 => F a0 a1 a2) = f' := by rfl) : XE B sl (eCall 3 k (aCons m0 (aCons m1 (aCons m2 aNil)))) P' f' := fun env S r => by rw [← e]; exact xk3 (k := fun xs S1 => if xs.length = 3 then k xs S1 else .bad) hk h0 h1 h2 r
theorem xe_call3t {P0 : α → D → Store → Prop} {P1 : β → D → Store → Prop} {P2 : γ → D → Store → Prop} {F : α → β → γ → R ρ} {P' : ρ → D → Store → Prop} {k : List D → Store → Res D} {m0 m1 m2 : M D} {a0 : α} {a1 : β} {a2 : γ} {f' : R ρ} (hk : ∀ a0 a1 a2 d0 d1 d2 S, P0 a0 d0 S → P1 a1 d1 S → P2 a2 d2 S → Out S P' (F a0 a1 a2) (k [d0, d1, d2] S)) (h0 : XE B sl m0 P0 (.ok a0)) (h1 : XE B sl m1 P1 (.ok a1)) (h2 : XE B sl m2 P2 (.ok a2)) (e : F a0 a1 a2 = f' := by rfl) : XE B sl (eCall 3 k (aCons m0 (aCons m1 (aCons m2 aNil)))) P' f' := fun env S r => by rw [← e]; exact xk3 (k := fun xs S1 => if xs.length = 3 then k xs S1 else .bad) hk h0 h1 h2 r
theorem xe_T3 {t : α → D} {m0 m1 m2 : M D} {f0 : R α} {f1 : R α} {f2 : R α} {f' : R (List α)} (h0 : XE B sl m0 (vP t) f0) (h1 : XE B sl m1 (vP t) f1) (h2 : XE B sl m2 (vP t) f2) (e : (f0.bind fun a0 => f1.bind fun a1 => f2.bind fun a2 => .ok [a0, a1, a2]) = f' := by rfl) : XE B sl (eTup (aCons m0 (aCons m1 (aCons m2 aNil)))) (vP (yT t)) f' := fun env S r => by rw [← e]; exact xk3 (F := fun a0 a1 a2 => .ok [a0, a1, a2]) (fun a0 a1 a2 d0 d1 d2 S p0 p1 p2 => by cases p0; cases p1; cases p2; exact ⟨_, rfl, rfl⟩) h0 h1 h2 r
theorem xe_T3t {t : α → D} {m0 m1 m2 : M D} {a0 : α} {a1 : α} {a2 : α} (h0 : XE B sl m0 (vP t) (.ok a0)) (h1 : XE B sl m1 (vP t) (.ok a1)) (h2 : XE B sl m2 (vP t) (.ok a2)) : XE B sl (eTup (aCons m0 (aCons m1 (aCons m2 aNil)))) (vP (yT t)) (.ok [a0, a1, a2]) := xe_T3 h0 h1 h2
theorem xe_l3 {t : α → D} {m0 m1 m2 : M D} {f0 : R α} {f1 : R α} {f2 : R α} {f' : R (List α)} (h0 : XE B sl m0 (vP t) f0) (h1 : XE B sl m1 (vP t) f1) (h2 : XE B sl m2 (vP t) f2) (e : (f0.bind fun a0 => f1.bind fun a1 => f2.bind fun a2 => .ok [a0, a1, a2]) = f' := by rfl) : XE B sl (fLst (aCons m0 (aCons m1 (aCons m2 aNil)))) (vP (lM t)) f' := fun env S r => by rw [← e]; exact xk3 (F := fun a0 a1 a2 => .ok [a0, a1, a2]) (fun a0 a1 a2 d0 d1 d2 S p0 p1 p2 => by cases p0; cases p1; cases p2; exact ⟨_, rfl, rfl⟩) h0 h1 h2 r
theorem xe_P3 {t : α → D} {u : β → D} {v : γ → D} {m0 m1 m2 : M D} {f0 : R α} {f1 : R β} {f2 : R γ} {f' : R (α × β × γ)} (h0 : XE B sl m0 (vP t) f0) (h1 : XE B sl m1 (vP u) f1) (h2 : XE B sl m2 (vP v) f2) (e : (f0.bind fun a0 => f1.bind fun a1 => f2.bind fun a2 => .ok (a0, a1, a2)) = f' := by rfl) : XE B sl (eTup (aCons m0 (aCons m1 (aCons m2 aNil)))) (vP (yP3 t u v)) f' := fun env S r => by rw [← e]; exact xk3 (F := fun a0 a1 a2 => .ok (a0, a1, a2)) (fun a0 a1 a2 d0 d1 d2 S p0 p1 p2 => by cases p0; cases p1; cases p2; exact ⟨_, rfl, rfl⟩) h0 h1 h2 r
theorem xe_P3t {t : α → D} {u : β → D} {v : γ → D} {m0 m1 m2 : M D} {a0 : α} {a1 : β} {a2 : γ} (h0 : XE B sl m0 (vP t) (.ok a0)) (h1 : XE B sl m1 (vP u) (.ok a1)) (h2 : XE B sl m2 (vP v) (.ok a2)) : XE B sl (eTup (aCons m0 (aCons m1 (aCons m2 aNil)))) (vP (yP3 t u v)) (.ok (a0, a1, a2)) := xe_P3 h0 h1 h2
theorem ixp_3_0 {t : α → D} {u : β → D} {v : γ → D} : Op1 (fun d S => dIx d (.int 0) S) (vP (yP3 t u v)) (vP t) (fun p => .ok (p.1)) := fun p d S h => by cases h; exact ⟨_, rfl, rfl⟩
theorem ixp_3_1 {t : α → D} {u : β → D} {v : γ → D} : Op1 (fun d S => dIx d (.int 1) S) (vP (yP3 t u v)) (vP u) (fun p => .ok (p.2.1)) := fun p d S h => by cases h; exact ⟨_, rfl, rfl⟩
theorem ixp_3_2 {t : α → D} {u : β → D} {v : γ → D} : Op1 (fun d S => dIx d (.int 2) S) (vP (yP3 t u v)) (vP v) (fun p => .ok (p.2.2)) := fun p d S h => by cases h; exact ⟨_, rfl, rfl⟩
theorem xk4 {P0 : α → D → Store → Prop} {P1 : β → D → Store → Prop} {P2 : γ → D → Store → Prop} {P3 : δ → D → Store → Prop} {F : α → β → γ → δ → R ρ} {P' : ρ → κ → Store → Prop} {k : List D → Store → Res κ} {m0 m1 m2 m3 : M D} {f0 : R α} {f1 : R β} {f2 : R γ} {f3 : R δ} (hk : ∀ a0 a1 a2 a3 d0 d1 d2 d3 S, P0 a0 d0 S → P1 a1 d1 S → P2 a2 d2 S → P3 a3 d3 S → Out S P' (F a0 a1 a2 a3) (k [d0, d1, d2, d3] S)) (h0 : XE B sl m0 P0 f0) (h1 : XE B sl m1 P1 f1) (h2 : XE B sl m2 P2 f2) (h3 : XE B sl m3 P3 f3) {env : En} {S : Store} (r : SRel B sl env S) : Out S P' (f0.bind fun a0 => f1.bind fun a1 => f2.bind fun a2 => f3.bind fun a3 => F a0 a1 a2 a3) (((aCons m0 (aCons m1 (aCons m2 (aCons m3 aNil)))) env S).bind k) := by
  have assoc : ∀ {X Y Z : Type} (r : Res X) (p : X → Store → Res Y) (q : Y → Store → Res Z), (r.bind p).bind q = r.bind fun x S => (p x S).bind q := fun r p q => by cases r <;> rfl
  simp only [aCons, aNil, assoc, bind_ok]
  exact Out.bind (h0 env S r) fun a0 d0 p0 => Out.bind (h1 env S r) fun a1 d1 p1 => Out.bind (h2 env S r) fun a2 d2 p2 => Out.bind (h3 env S r) fun a3 d3 p3 => hk a0 a1 a2 a3 d0 d1 d2 d3 S p0 p1 p2 p3
theorem xe_l4 {t : α → D} {m0 m1 m2 m3 : M D} {f0 : R α} {f1 : R α} {f2 : R α} {f3 : R α} {f' : R (List α)} (h0 : XE B sl m0 (vP t) f0) (h1 : XE B sl m1 (vP t) f1) (h2 : XE B sl m2 (vP t) f2) (h3 : XE B sl m3 (vP t) f3) (e : (f0.bind fun a0 => f1.bind fun a1 => f2.bind fun a2 => f3.bind fun a3 => .ok [a0, a1, a2, a3]) = f' := by rfl) : XE B sl (fLst (aCons m0 (aCons m1 (aCons m2 (aCons m3 aNil))))) (vP (lM t)) f' := fun env S r => by rw [← e]; exact xk4 (F := fun a0 a1 a2 a3 => .ok [a0, a1, a2, a3]) (fun a0 a1 a2 a3 d0 d1 d2 d3 S p0 p1 p2 p3 => by cases p0; cases p1; cases p2; cases p3; exact ⟨_, rfl, rfl⟩) h0 h1 h2 h3 r
theorem xe_P4 {t : α → D} {u : β → D} {v : γ → D} {w : δ → D} {m0 m1 m2 m3 : M D} {f0 : R α} {f1 : R β} {f2 : R γ} {f3 : R δ} {f' : R (α × β × γ × δ)} (h0 : XE B sl m0 (vP t) f0) (h1 : XE B sl m1 (vP u) f1) (h2 : XE B sl m2 (vP v) f2) (h3 : XE B sl m3 (vP w) f3) (e : (f0.bind fun a0 => f1.bind fun a1 => f2.bind fun a2 => f3.bind fun a3 => .ok (a0, a1, a2, a3)) = f' := by rfl) : XE B sl (eTup (aCons m0 (aCons m1 (aCons m2 (aCons m3 aNil))))) (vP (yP4 t u v w)) f' := fun env S r => by rw [← e]; exact xk4 (F := fun a0 a1 a2 a3 => .ok (a0, a1, a2, a3)) (fun a0 a1 a2 a3 d0 d1 d2 d3 S p0 p1 p2 p3 => by cases p0; cases p1; cases p2; cases p3; exact ⟨_, rfl, rfl⟩) h0 h1 h2 h3 r
theorem xe_P4t {t : α → D} {u : β → D} {v : γ → D} {w : δ → D} {m0 m1 m2 m3 : M D} {a0 : α} {a1 : β} {a2 : γ} {a3 : δ} (h0 : XE B sl m0 (vP t) (.ok a0)) (h1 : XE B sl m1 (vP u) (.ok a1)) (h2 : XE B sl m2 (vP v) (.ok a2)) (h3 : XE B sl m3 (vP w) (.ok a3)) : XE B sl (eTup (aCons m0 (aCons m1 (aCons m2 (aCons m3 aNil))))) (vP (yP4 t u v w)) (.ok (a0, a1, a2, a3)) := xe_P4 h0 h1 h2 h3
theorem xk5 {P0 : α → D → Store → Prop} {P1 : β → D → Store → Prop} {P2 : γ → D → Store → Prop} {P3 : δ → D → Store → Prop} {P4 : ε → D → Store → Prop} {F : α → β → γ → δ → ε → R ρ} {P' : ρ → κ → Store → Prop} {k : List D → Store → Res κ} {m0 m1 m2 m3 m4 : M D} {f0 : R α} {f1 : R β} {f2 : R γ} {f3 : R δ} {f4 : R ε} (hk : ∀ a0 a1 a2 a3 a4 d0 d1 d2 d3 d4 S, P0 a0 d0 S → P1 a1 d1 S → P2 a2 d2 S → P3 a3 d3 S → P4 a4 d4 S → Out S P' (F a0 a1 a2 a3 a4) (k [d0, d1, d2, d3, d4] S)) (h0 : XE B sl m0 P0 f0) (h1 : XE B sl m1 P1 f1) (h2 : XE B sl m2 P2 f2) (h3 : XE B sl m3 P3 f3) (h4 : XE B sl m4 P4 f4) {env : En} {S : Store} (r : SRel B sl env S) : Out S P' (f0.bind fun a0 => f1.bind fun a1 => f2.bind fun a2 => f3.bind fun a3 => f4.bind fun a4 => F a0 a1 a2 a3 a4) (((aCons m0 (aCons m1 (aCons m2 (aCons m3 (aCons m4 aNil))))) env S).bind k) := by
  have assoc : ∀ {X Y Z : Type} (r : Res X) (p : X → Store → Res Y) (q : Y → Store → Res Z), (r.bind p).bind q = r.bind fun x S => (p x S).bind q := fun r p q => by cases r <;> rfl
  simp only [aCons, aNil, assoc, bind_ok]
  exact Out.bind (h0 env S r) fun a0 d0 p0 => Out.bind (h1 env S r) fun a1 d1 p1 => Out.bind (h2 env S r) fun a2 d2 p2 => Out.bind (h3 env S r) fun a3 d3 p3 => Out.bind (h4 env S r) fun a4 d4 p4 => hk a0 a1 a2 a3 a4 d0 d1 d2 d3 d4 S p0 p1 p2 p3 p4
theorem xe_P5 {t : α → D} {u : β → D} {v : γ → D} {w : δ → D} {y : ε → D} {m0 m1 m2 m3 m4 : M D} {f0 : R α} {f1 : R β} {f2 : R γ} {f3 : R δ} {f4 : R ε} {f' : R (α × β × γ × δ × ε)} (h0 : XE B sl m0 (vP t) f0) (h1 : XE B sl m1 (vP u) f1) (h2 : XE B sl m2 (vP v) f2) (h3 : XE B sl m3 (vP w) f3) (h4 : XE B sl m4 (vP y) f4) (e : (f0.bind fun a0 => f1.bind fun a1 => f2.bind fun a2 => f3.bind fun a3 => f4.bind fun a4 => .ok (a0, a1, a2, a3, a4)) = f' := by rfl) : XE B sl (eTup (aCons m0 (aCons m1 (aCons m2 (aCons m3 (aCons m4 aNil)))))) (vP (yP5 t u v w y)) f' := fun env S r => by rw [← e]; exact xk5 (F := fun a0 a1 a2 a3 a4 => .ok (a0, a1, a2, a3, a4)) (fun a0 a1 a2 a3 a4 d0 d1 d2 d3 d4 S p0 p1 p2 p3 p4 => by cases p0; cases p1; cases p2; cases p3; cases p4; exact ⟨_, rfl, rfl⟩) h0 h1 h2 h3 h4 r
theorem ixp_5_0 {t : α → D} {u : β → D} {v : γ → D} {w : δ → D} {y : ε → D} : Op1 (fun d S => dIx d (.int 0) S) (vP (yP5 t u v w y)) (vP t) (fun p => .ok (p.1)) := fun p d S h => by cases h; exact ⟨_, rfl, rfl⟩
theorem ixp_5_1 {t : α → D} {u : β → D} {v : γ → D} {w : δ → D} {y : ε → D} : Op1 (fun d S => dIx d (.int 1) S) (vP (yP5 t u v w y)) (vP u) (fun p => .ok (p.2.1)) := fun p d S h => by cases h; exact ⟨_, rfl, rfl⟩
theorem ixp_5_2 {t : α → D} {u : β → D} {v : γ → D} {w : δ → D} {y : ε → D} : Op1 (fun d S => dIx d (.int 2) S) (vP (yP5 t u v w y)) (vP v) (fun p => .ok (p.2.2.1)) := fun p d S h => by cases h; exact ⟨_, rfl, rfl⟩
theorem xe_T0 {t : α → D} : XE B sl (eTup aNil) (vP (yT t)) (.ok []) := fun env S r => ⟨_, rfl, rfl⟩
theorem xe_l0 {t : α → D} : XE B sl (fLst aNil) (vP (lM t)) (.ok []) := fun env S r => ⟨_, rfl, rfl⟩
end
end Rf

namespace Rf
open PySem PySem.Spec PyProof.Rows L2
@[irreducible] def modR (a b : Int) : R Int := if 0 < b then .ok (a % b) else .bad
@[irreducible] def fdivR (a b : Int) : R Int := if WDiv a b then .ok (a / b) else .bad
section
variable {α β : Type} {t : α → D}
theorem op_add : Op2 dAdd (vP yI) (vP yI) (vP yI) fun a b => .ok (a + b) := fun a b d e S h1 h2 => by cases h1; cases h2; exact ⟨_, rfl, rfl⟩
theorem op_sub' : Op2 dSub (vP yI) (vP yI) (vP yI) fun a b => .ok (a - b) := fun a b d e S h1 h2 => by cases h1; cases h2; exact ⟨_, rfl, rfl⟩
theorem i2_if {f : Int → Int → D} {C : Int → Int → Bool} {P : Int → Int → Prop} [∀ i j, Decidable (P i j)] {g : Int → Int → α} {u : α → D} (hC : ∀ i j, C i j = decide (P i j)) (hf : ∀ i j, f i j = u (g i j)) : Op2 (i2 f C) (vP yI) (vP yI) (vP u) fun a b => if P a b then .ok (g a b) else .bad := fun a b d e S h1 h2 => by
  cases h1; cases h2
  show Out S (vP u) (if P a b then .ok (g a b) else .bad) (if C a b = true then .ok (f a b) S else .bad)
  rw [hC]
  by_cases h : P a b
  · rw [if_pos h, if_pos (decide_eq_true h)]; exact ⟨_, rfl, hf a b⟩
  · rw [if_neg h]; trivial
theorem op_mod' : Op2 dMod (vP yI) (vP yI) (vP yI) modR := by unfold modR; exact i2_if (P := fun _ j => 0 < j) (fun _ _ => rfl) fun _ _ => rfl
theorem op_fdiv' : Op2 dFdiv (vP yI) (vP yI) (vP yI) fdivR := by unfold fdivR; exact i2_if (fun _ _ => rfl) fun _ _ => rfl
theorem op_neg' : Op1 dNeg (vP yI) (vP yI) fun a => .ok (-a) := fun a d S h1 => by cases h1; exact ⟨_, rfl, rfl⟩
theorem op_modc (b : Int) (h : 0 < b) : Op1 (fun d S => dMod d (.int b) S) (vP yI) (vP yI) fun a => .ok (a % b) := fun a d S h1 => by
  have := op_mod' a b d (.int b) S h1 rfl
  rw [show modR a b = .ok (a % b) by unfold modR; exact if_pos h] at this
  exact this
theorem op_fdivc (b : Int) (h : 0 < b ∧ b < 1073741824) : Op1 (fun d S => dFdiv d (.int b) S) (vP yI) (vP yI) fun a => .ok (a / b) := fun a d S h1 => by
  have := op_fdiv' a b d (.int b) S h1 rfl
  rw [show fdivR a b = .ok (a / b) by unfold fdivR; exact if_pos ⟨h.1, .inl h.2⟩] at this
  exact this
theorem op_eqI : Op2 dEq (vP yI) (vP yI) (vP yB) fun a b => .ok (decide (a = b)) := fun a b d e S h1 h2 => by cases h1; cases h2; exact ⟨_, rfl, rfl⟩
theorem op_neI : Op2 dNe (vP yI) (vP yI) (vP yB) fun a b => .ok (!decide (a = b)) := fun a b d e S h1 h2 => by cases h1; cases h2; exact ⟨_, rfl, rfl⟩
theorem op_ltI : Op2 dLt (vP yI) (vP yI) (vP yB) fun a b => .ok (decide (a < b)) := fun a b d e S h1 h2 => by cases h1; cases h2; exact ⟨_, rfl, rfl⟩
theorem op_leI : Op2 dLe (vP yI) (vP yI) (vP yB) fun a b => .ok (decide (a ≤ b)) := fun a b d e S h1 h2 => by cases h1; cases h2; exact ⟨_, rfl, rfl⟩
theorem op_gtI : Op2 dGt (vP yI) (vP yI) (vP yB) fun a b => .ok (decide (b < a)) := fun a b d e S h1 h2 => by cases h1; cases h2; exact ⟨_, rfl, rfl⟩
theorem dEq_of {d e : D} {S : Store} (h1 : shD dpt (val S d) = true) (h2 : shD dpt (val S e) = true) : dEq d e S = .ok (.bl (PyData.eqv (py (val S d)) (py (val S e)))) S := by
  have hh := And.intro h1 h2
  cases d <;> cases e <;> first
    | (rename_i i j; show Res.ok (D.bl (decide (i = j))) S = Res.ok (D.bl (PyData.eqv (.int i) (.int j))) S; rw [eqv_int])
    | (rename_i i j; show Res.ok (D.bl (decide (i = j))) S = Res.ok (D.bl (PyData.eqv (.bool i) (.bool j))) S; rw [eqv_bl])
    | exact if_pos (e := Res.bad) hh
theorem dNe_of {d e : D} {S : Store} (h1 : shD dpt (val S d) = true) (h2 : shD dpt (val S e) = true) : dNe d e S = .ok (.bl (!PyData.eqv (py (val S d)) (py (val S e)))) S := by
  have hh := And.intro h1 h2
  cases d <;> cases e <;> first
    | (rename_i i j; show Res.ok (D.bl (!decide (i = j))) S = Res.ok (D.bl (!PyData.eqv (.int i) (.int j))) S; rw [eqv_int])
    | (rename_i i j; show Res.ok (D.bl (!decide (i = j))) S = Res.ok (D.bl (!PyData.eqv (.bool i) (.bool j))) S; rw [eqv_bl])
    | exact if_pos (e := Res.bad) hh
theorem eqv_dec [DecidableEq α] [TEq t] (a b : α) : PyData.eqv (py (t a)) (py (t b)) = decide (a = b) := by
  by_cases h : a = b
  · rw [decide_eq_true h]; exact (TEq.eqv (t := t) a b).mpr h
  · rw [decide_eq_false h]
    cases e : PyData.eqv (py (t a)) (py (t b)) with
    | true => exact absurd ((TEq.eqv (t := t) a b).mp e) h
    | false => rfl
theorem op_eq' {n : Nat} [TSh t n] [TNc t] [TEq t] [DecidableEq α] (hn : n ≤ 12 := by decide) : Op2 dEq (vP t) (vP t) (vP yB) fun a b => .ok (decide (a = b)) := fun a b d e S h1 h2 => by
  cases h1; cases h2
  have s1 : shD dpt (val S (t a)) = true := by rw [TNc.nc]; exact TSh.sh (t := t) 12 a hn
  have s2 : shD dpt (val S (t b)) = true := by rw [TNc.nc]; exact TSh.sh (t := t) 12 b hn
  refine ⟨_, dEq_of s1 s2, ?_⟩
  rw [TNc.nc, TNc.nc, eqv_dec]
  rfl
theorem op_ne' {n : Nat} [TSh t n] [TNc t] [TEq t] [DecidableEq α] (hn : n ≤ 12 := by decide) : Op2 dNe (vP t) (vP t) (vP yB) fun a b => .ok (!decide (a = b)) := fun a b d e S h1 h2 => by
  cases h1; cases h2
  have s1 : shD dpt (val S (t a)) = true := by rw [TNc.nc]; exact TSh.sh (t := t) 12 a hn
  have s2 : shD dpt (val S (t b)) = true := by rw [TNc.nc]; exact TSh.sh (t := t) 12 b hn
  refine ⟨_, dNe_of s1 s2, ?_⟩
  rw [TNc.nc, TNc.nc, eqv_dec]
  rfl
theorem isIn_map [TEq t] [DecidableEq α] (a : α) : ∀ l : List α, isIn (t a) (l.map t) = decide (a ∈ l)
  | [] => by simp [isIn]
  | x :: l => by
    have ih := isIn_map a l
    unfold isIn at ih ⊢
    rw [List.map_cons, List.any_cons, ih, eqv_dec]
    by_cases h : x = a
    · subst h; simp
    · have : ¬ a = x := fun z => h z.symm
      simp [h, this]
def memB {α : Type} [DecidableEq α] (a : α) (l : List α) : Bool := decide (a ∈ l)
theorem dIn_of {neg : Bool} {d e : D} {S : Store} {ds : List D} (h : seqOf S e = some ds) (h1 : shD dpt (val S d) = true) (h2 : ds.all (shD 11) = true) : dInG neg d e S = .ok (.bl (if neg then !isIn (val S d) ds else isIn (val S d) ds)) S := by
  unfold dInG
  cases e with
  | tup xs => cases h; exact if_pos ⟨h1, h2⟩
  | lst xs => cases h; exact if_pos ⟨h1, h2⟩
  | fz xs => cases h; exact if_pos ⟨h1, h2⟩
  | cell n =>
    unfold seqOf at h
    dsimp only at h
    have : val S (.cell n) = .lst ds := by
      unfold val
      dsimp only
      cases eo : S[n]? with
      | none => rw [eo] at h; cases h
      | some o =>
        rw [eo] at h
        cases o with
        | lst xs => cases h; rfl
        | dK _ => cases h
        | dI _ => cases h
        | ins _ _ => cases h
        | dS _ => cases h
        | gone => cases h
    rw [this]
    exact if_pos ⟨h1, h2⟩
  | _ => cases h
theorem op_in' {n : Nat} {b : Bool} [TSh t n] [TNc t] [TEq t] [DecidableEq α] (hn : n ≤ 11 := by decide) : Op2 (dInG false) (vP t) (lP b t) (vP yB) fun a l => .ok (memB a l) := fun a l d e S h1 h2 => by
  cases h1
  refine ⟨_, dIn_of h2.1 (by rw [TNc.nc]; exact TSh.sh (t := t) 12 a (by omega)) (all_sh hn l), ?_⟩
  rw [TNc.nc, isIn_map]
  rfl
theorem op_nin' {n : Nat} {b : Bool} [TSh t n] [TNc t] [TEq t] [DecidableEq α] (hn : n ≤ 11 := by decide) : Op2 (dInG true) (vP t) (lP b t) (vP yB) fun a l => .ok (!memB a l) := fun a l d e S h1 h2 => by
  cases h1
  refine ⟨_, dIn_of h2.1 (by rw [TNc.nc]; exact TSh.sh (t := t) 12 a (by omega)) (all_sh hn l), ?_⟩
  rw [TNc.nc, isIn_map]
  rfl
@[irreducible] def ixR {α : Type} (l : List α) (i : Int) : R α := match atI l i with
  | some x => .ok x
  | none => .bad
theorem atI_map (t : α → D) (l : List α) (i : Int) : atI (l.map t) i = (atI l i).map t := by
  unfold atI
  rw [List.length_map]
  cases ixN l.length i with
  | none => rfl
  | some j => show (l.map t)[j]? = (l[j]?).map t; exact List.getElem?_map
theorem op_ix' {b : Bool} : Op2 dIx (lP b t) (vP yI) (vP t) ixR := fun l i d e S h1 h2 => by
  cases h2
  unfold dIx ixR
  rw [h1.1]
  show Out S (vP t) _ (match atI (l.map t) i with | some x => Res.ok x S | none => Res.bad)
  rw [atI_map]
  cases atI l i with
  | none => trivial
  | some x => exact ⟨_, rfl, rfl⟩
@[irreducible] def catR {α : Type} (a b : List α) : R (List α) := if a.length + b.length ≤ big then .ok (a ++ b) else .bad
theorem op_catT : Op2 dAdd (vP (yT t)) (vP (yT t)) (vP (yT t)) catR := fun a b d e S h1 h2 => by
  cases h1; cases h2
  show Out S _ _ (if (a.map t).length + (b.map t).length ≤ big then Res.ok (D.tup (a.map t ++ b.map t)) S else Res.bad)
  unfold catR
  rw [List.length_map, List.length_map]
  by_cases h : a.length + b.length ≤ big
  · rw [if_pos h, if_pos h]; exact ⟨_, rfl, by rw [← List.map_append]; rfl⟩
  · rw [if_neg h]; trivial
def lQ {α : Type} (t : α → D) : List α → D → Store → Prop := fun l d S => lstOf S d = some (l.map t)
theorem lQ_L {t : α → D} (l : List α) (d : D) (S : Store) (h : vP (yL t) l d S) : lQ t l d S := by cases h; rfl
theorem op_catL : Op2 dAdd (lQ t) (lQ t) (vP (yL t)) catR := fun a b d e S h1 h2 => by
  have key : Out S (vP (yL t)) (catR a b) (dCatL d e S) := by
    unfold dCatL
    rw [show lstOf S d = _ from h1, show lstOf S e = _ from h2]
    show Out S _ _ (if (a.map t).length + (b.map t).length ≤ big then Res.ok (D.lst (a.map t ++ b.map t)) S else Res.bad)
    unfold catR
    rw [List.length_map, List.length_map]
    by_cases h : a.length + b.length ≤ big
    · rw [if_pos h, if_pos h]; exact ⟨_, rfl, by rw [← List.map_append]; rfl⟩
    · rw [if_neg h]; trivial
  cases d <;> cases e <;> first | exact key | cases h1
theorem bf_len {b : Bool} : ∀ l d S, lP b t l d S → Out S (vP yI) (.ok (l.length : Int)) (dLen [d] S) := fun l d S h => by
  unfold dLen
  dsimp only
  rw [h.1]
  exact ⟨_, rfl, by rw [List.length_map]; rfl⟩
theorem bf_tuple {b : Bool} : ∀ l d S, lP b t l d S → Out S (vP (yT t)) (.ok l) (dTuple [d] S) := fun l d S h => by
  unfold dTuple
  dsimp only
  rw [h.1]
  exact ⟨_, rfl, rfl⟩
theorem nums_yI (l : List Int) : nums (l.map yI) = some l := by
  induction l with
  | nil => rfl
  | cons x l ih => show (nums (l.map yI)).map (x :: ·) = _; rw [ih]; rfl
theorem bls_yB (l : List Bool) : bls (l.map yB) = some l := by
  induction l with
  | nil => rfl
  | cons x l ih => show (bls (l.map yB)).map (x :: ·) = _; rw [ih]; rfl
theorem bf_all : ∀ l d S, lP false yB l d S → Out S (vP yB) (.ok (l.all id)) (dAll false [d] S) := fun l d S h => by
  unfold dAll
  dsimp only
  rw [h.1, h.2]
  dsimp only
  rw [bls_yB]
  exact ⟨_, rfl, rfl⟩
@[irreducible] def minR : List Int → R Int
  | [] => .bad
  | x :: l => .ok (l.foldl min x)
theorem bf_min {b : Bool} : ∀ (l : List Int) d S, lP b yI l d S → Out S (vP yI) (minR l) (dMin2 false [d] S) := fun l d S h => by
  unfold minR
  cases l with
  | nil => trivial
  | cons x l =>
    have e : dMin2 false [d] S = (match seqOf S d with | some (.int x :: xs) => (match nums xs with | some ns => .ok (.int (if false = true then ns.foldl max x else ns.foldl min x)) S | none => .bad) | _ => .bad) := by cases d <;> rfl
    rw [e, h.1]
    show Out S _ _ (match nums (l.map yI) with | some ns => Res.ok (D.int (if false = true then ns.foldl max x else ns.foldl min x)) S | none => Res.bad)
    rw [nums_yI]
    exact ⟨_, rfl, rfl⟩
class TOrd {α : Type} (t : α → D) (le : outParam (α → α → Bool)) : Prop where
  le_ : ∀ a b, PySem.W.dataLe false py (t a) (t b) = le a b
  alike : ∀ a b, PySem.W.alike (py (t a)) (py (t b)) = true
  srt : (∀ a, ∃ x r, py (t a) = .tuple (x :: r)) ∨ ∀ a, py (t a) ≠ .none ∧ ∀ xs, py (t a) ≠ .tuple xs
@[irreducible] def sortR {α : Type} (le : α → α → Bool) (l : List α) : R (List α) := if l.length ≤ big then .ok (l.mergeSort le) else .bad
theorem bf_sorted {n : Nat} {b : Bool} {le : α → α → Bool} [TSh t n] [TOrd t le] (hn : n ≤ 11 := by decide) : ∀ l d S, lP b t l d S → Out S (vP (lM t)) (sortR le l) (fSorted [d] S) := fun l d S h => by
  unfold fSorted sortR
  dsimp only
  rw [h.1]
  dsimp only
  by_cases hl : l.length ≤ big
  · rw [if_pos hl, if_pos]
    · refine ⟨_, rfl, ?_⟩
      show _ = (l.mergeSort le).map t
      rw [PySem.W.sort_maps (s := PySem.W.dataLe false py) t fun a _ b _ => (TOrd.le_ (t := t) a b).symm]
    · refine ⟨by rw [List.length_map]; exact hl, all_sh hn l, ?_, ?_⟩
      · intro x hx y hy
        rw [List.map_map] at hx hy
        obtain ⟨i, _, rfl⟩ := List.mem_map.mp hx
        obtain ⟨j, _, rfl⟩ := List.mem_map.mp hy
        exact TOrd.alike (t := t) i j
      · rcases TOrd.srt (t := t) with q | q
        · refine .inl fun x hx => ?_
          rw [List.map_map] at hx
          obtain ⟨i, _, rfl⟩ := List.mem_map.mp hx
          exact q i
        · refine .inr fun x hx => ?_
          rw [List.map_map] at hx
          obtain ⟨i, _, rfl⟩ := List.mem_map.mp hx
          exact q i
  · rw [if_neg hl]; trivial
def leI (a b : Int) : Bool := decide (a ≤ b)
theorem dataLe_I (a b : Int) : PySem.W.dataLe false py (.int a) (.int b) = leI a b := congrFun (congrFun (PySem.W.dataLe_int (fun x : Int => x)) a) b
instance : TOrd yI leI := ⟨dataLe_I, fun _ _ => rfl, .inr fun a => ⟨fun z => (nomatch z), fun _ z => (nomatch z)⟩⟩
end
end Rf

namespace Rf
open PySem PySem.Spec PyProof.Rows L2
def iP {α : Type} (t : α → D) : List α → IT → Store → Prop := fun l it S => it.ds = l.map t ∧ it.chk S
def i0 {α : Type} (t : α → D) : List α → IT → Store → Prop := fun l it _ => it = ⟨l.map t, []⟩
def rng1 (n : Int) : List Int := (List.range n.toNat).map fun i : Nat => (i : Int)
@[irreducible] def rng1R (n : Int) : R (List Int) := if -(2 ^ 62) ≤ n ∧ n < 2 ^ 62 then .ok (rng1 n) else .bad
def enumL {α : Type} : Nat → List α → List (Int × α)
  | _, [] => []
  | n, x :: l => ((n : Int), x) :: enumL (n + 1) l
theorem enumD_map {α : Type} (t : α → D) : ∀ (n : Nat) (l : List α), enumD n (l.map t) = (enumL n l).map (yP2 yI t)
  | _, [] => rfl
  | n, x :: l => by show D.tup [D.int (n : Nat), t x] :: enumD (n + 1) (l.map t) = _; rw [enumD_map t (n + 1) l]; rfl
section
variable {B : Bs} {sl : List Sl} {α β γ δ σ ρ : Type} {t : α → D}
theorem Out.imp {P P' : α → β → Store → Prop} {S : Store} {f : R α} {r : Res β} (h : Out S P f r) (k : ∀ a d, P a d S → P' a d S) : Out S P' f r := by
  cases f with
  | ok a => obtain ⟨d, e, q⟩ := h; exact ⟨d, e, k a d q⟩
  | err c => exact h
  | bad => trivial
theorem Out.bind1 {P : α → β → Store → Prop} {P' : α → δ → Store → Prop} {S : Store} {f : R α} {r : Res β} {k : β → Store → Res δ} (h : Out S P f r) (hk : ∀ a d, P a d S → ∃ d', k d S = .ok d' S ∧ P' a d' S) : Out S P' f (r.bind k) := by
  cases f with
  | ok a => obtain ⟨d, rfl, q⟩ := h; exact hk a d q
  | err c => rw [show r = _ from h]; rfl
  | bad => trivial
theorem xi_T {m : M D} {f : R (List α)} (h : XE B sl m (vP (yT t)) f) : XE B sl (iSeq m) (i0 t) f := fun env S r => Out.bind1 (h env S r) fun a d q => by cases q; exact ⟨_, rfl, rfl⟩
theorem xi_L {m : M D} {f : R (List α)} (h : XE B sl m (vP (yL t)) f) : XE B sl (iSeq m) (i0 t) f := fun env S r => Out.bind1 (h env S r) fun a d q => by cases q; exact ⟨_, rfl, rfl⟩
theorem XE.toP {m : M IT} {f : R (List α)} (h : XE B sl m (i0 t) f) : XE B sl m (iP t) f := fun env S r => (h env S r).imp fun a d q => by cases q; exact ⟨rfl, fun p hp => (nomatch hp)⟩
theorem xi_r1 {m : M D} {f : R Int} {f' : R (List Int)} (h : XE B sl m (vP yI) f) (e : (f.bind fun n => rng1R n) = f' := by rfl) : XE B sl (iR1 (aCons m aNil)) (i0 yI) f' := fun env S r => by
  rw [← e]
  refine xk1 (F := fun n => rng1R n) (P' := i0 yI) (fun n d S q => ?_) h r
  cases q
  unfold rng1R
  show Out S (i0 yI) (if _ then _ else _) (if -(2 ^ 62) ≤ n ∧ n < 2 ^ 62 then _ else _)
  by_cases hn : -(2 ^ 62) ≤ n ∧ n < 2 ^ 62
  · rw [if_pos hn, if_pos hn]; exact ⟨_, rfl, by unfold i0 rng1; rw [List.map_map]; rfl⟩
  · rw [if_neg hn]; trivial
theorem xi_enumT {m : M D} {f : R (List α)} {f' : R (List (Int × α))} (h : XE B sl m (vP (yT t)) f) (e : (f.bind fun l => .ok (enumL 0 l)) = f' := by rfl) : XE B sl (iEnumM (aCons m aNil)) (i0 (yP2 yI t)) f' := fun env S r => by
  rw [← e]
  refine xk1 (F := fun l => .ok (enumL 0 l)) (P' := i0 (yP2 yI t)) (fun n d S q => ?_) h r
  cases q
  exact ⟨_, rfl, by show IT.mk (enumD 0 (n.map t)) [] = _; rw [enumD_map]⟩
def XPt (B : Bs) (p : Pat) (t : α → D) (sl : List Sl) (Es : α → List Sl) : Prop := ∀ x env S, SRel B sl env S → ∃ e1, p (t x) env = some e1 ∧ SRel B (Es x) e1 S
theorem xp_name (i : Nat) : XPt B (pName i) t sl fun x => sl.set i (.v (t x)) := fun x env S r => ⟨_, rfl, r.set_v i _⟩
theorem xp_t2 {u : β → D} {p1 p2 : Pat} {E1 : α → List Sl} {E2 : α → β → List Sl} (h1 : XPt B p1 t sl E1) (h2 : ∀ x, XPt B p2 u (E1 x) (E2 x)) : XPt B (pTup 2 (pCons p1 (pCons p2 pNil))) (yP2 t u) sl fun p => E2 p.1 p.2 := fun x env S r => by
  obtain ⟨e1, q1, r1⟩ := h1 x.1 env S r
  obtain ⟨e2, q2, r2⟩ := h2 x.1 x.2 e1 S r1
  refine ⟨e2, ?_, r2⟩
  show (p1 (t x.1) env).bind (fun e => (p2 (u x.2) e).bind fun e => some e) = _
  rw [q1]; show (p2 (u x.2) e1).bind (fun e => some e) = _; rw [q2]; rfl
theorem xp_t5 {ε ζ : Type} {u : β → D} {v : γ → D} {w : ε → D} {y : ζ → D} {p1 p2 p3 p4 p5 : Pat} {E1 : α → List Sl} {E2 : α → β → List Sl} {E3 : α → β → γ → List Sl} {E4 : α → β → γ → ε → List Sl} {E5 : α → β → γ → ε → ζ → List Sl} (h1 : XPt B p1 t sl E1) (h2 : ∀ x, XPt B p2 u (E1 x) (E2 x)) (h3 : ∀ x y, XPt B p3 v (E2 x y) (E3 x y)) (h4 : ∀ x y z, XPt B p4 w (E3 x y z) (E4 x y z)) (h5 : ∀ x z z2 z3, XPt B p5 y (E4 x z z2 z3) (E5 x z z2 z3)) : XPt B (pTup 5 (pCons p1 (pCons p2 (pCons p3 (pCons p4 (pCons p5 pNil)))))) (yP5 t u v w y) sl fun p => E5 p.1 p.2.1 p.2.2.1 p.2.2.2.1 p.2.2.2.2 := fun x env S r => by
  obtain ⟨e1, q1, r1⟩ := h1 x.1 env S r
  obtain ⟨e2, q2, r2⟩ := h2 x.1 x.2.1 e1 S r1
  obtain ⟨e3, q3, r3⟩ := h3 x.1 x.2.1 x.2.2.1 e2 S r2
  obtain ⟨e4, q4, r4⟩ := h4 x.1 x.2.1 x.2.2.1 x.2.2.2.1 e3 S r3
  obtain ⟨e5, q5, r5⟩ := h5 x.1 x.2.1 x.2.2.1 x.2.2.2.1 x.2.2.2.2 e4 S r4
  refine ⟨e5, ?_, r5⟩
  show (p1 (t x.1) env).bind (fun e => (p2 (u x.2.1) e).bind fun e => (p3 (v x.2.2.1) e).bind fun e => (p4 (w x.2.2.2.1) e).bind fun e => (p5 (y x.2.2.2.2) e).bind fun e => some e) = _
  rw [q1]; show (p2 (u x.2.1) e1).bind (fun e => (p3 (v x.2.2.1) e).bind fun e => (p4 (w x.2.2.2.1) e).bind fun e => (p5 (y x.2.2.2.2) e).bind fun e => some e) = _; rw [q2]
  show (p3 (v x.2.2.1) e2).bind (fun e => (p4 (w x.2.2.2.1) e).bind fun e => (p5 (y x.2.2.2.2) e).bind fun e => some e) = _; rw [q3]
  show (p4 (w x.2.2.2.1) e3).bind (fun e => (p5 (y x.2.2.2.2) e).bind fun e => some e) = _; rw [q4]; show (p5 (y x.2.2.2.2) e4).bind (fun e => some e) = _; rw [q5]; rfl
def compR (fc : α → R Bool) (fe : α → R β) : List α → R (List β)
  | [] => .ok []
  | x :: l => match fc x with
    | .ok true => (match fe x with
      | .ok y => (compR fc fe l).bind fun ys => .ok (y :: ys)
      | _ => .bad)
    | .ok false => compR fc fe l
    | _ => .bad
@[irreducible] def compB (fc : α → R Bool) (fe : α → R β) (l : List α) : R (List β) := if l.length ≤ big then compR fc fe l else .bad
theorem comp_run {u : β → D} {p : Pat} {mt : M Bool} {me : M D} {Es : α → List Sl} {fc : α → R Bool} {fe : α → R β} {chk : Store → Prop} {env : En} {S : Store} (r : SRel B sl env S) (hk : chk S) (hp : XPt B p t sl Es) (ht : ∀ x, XE B (Es x) mt bP (fc x)) (he : ∀ x, XE B (Es x) me (vP u) (fe x)) : ∀ l : List α, Out S (vP (lM u)) (compR fc fe l) (compD p mt me chk env (l.map t) S)
  | [] => by rw [List.map_nil]; unfold compD; rw [if_pos hk]; exact ⟨_, rfl, rfl⟩
  | x :: l => by
    obtain ⟨e1, q1, r1⟩ := hp x env S r
    rw [List.map_cons]
    unfold compD compR
    rw [if_pos hk, q1]
    dsimp only
    have h1 := ht x e1 S r1
    cases ec : fc x with
    | bad => trivial
    | err c => trivial
    | ok b =>
      rw [ec] at h1
      obtain ⟨d, q2, q3⟩ := h1
      cases q3
      rw [q2]
      cases b with
      | false => exact comp_run r hk hp ht he l
      | true =>
        dsimp only
        have h2 := he x e1 S r1
        cases ee : fe x with
        | bad => trivial
        | err c => trivial
        | ok y =>
          rw [ee] at h2
          obtain ⟨d, q4, q5⟩ := h2
          cases q5
          rw [q4]
          exact Out.bind (comp_run r hk hp ht he l) fun a d q => by cases q; exact ⟨_, rfl, rfl⟩
theorem xe_comp {u : β → D} {mi : M IT} {p : Pat} {mt : M Bool} {me : M D} {own : List Nat} {Es : α → List Sl} {fi : R (List α)} {fc : α → R Bool} {fe : α → R β} {f' : R (List β)} (hi : XE B sl mi (iP t) fi) (hp : XPt B p t (clrS sl own) Es) (ht : ∀ x, XE B (Es x) mt bP (fc x)) (he : ∀ x, XE B (Es x) me (vP u) (fe x)) (e : (fi.bind fun l => compB fc fe l) = f' := by rfl) : XE B sl (fComp mi p mt me own) (vP (lM u)) f' := fun env S r => by
  rw [← e]
  refine Out.bind (hi env S r) fun l it q => ?_
  obtain ⟨q1, q2⟩ := q
  unfold compB
  rw [q1, List.length_map]
  by_cases hl : l.length ≤ big
  · rw [if_pos hl, if_pos hl]
    exact comp_run (r.clr own) q2 hp ht he l
  · rw [if_neg hl]; trivial
theorem xe_yes : XE B sl tYes' bP (.ok true) := fun env S r => ⟨true, rfl, rfl⟩
inductive Lp (σ ρ : Type) where
  | go (s : σ) | cont (s : σ) | brk (s : σ) | out (x : ρ)
def OutN (B : Bs) (E : σ → List Sl) (f : R σ) (r : RS) : Prop := match f with
  | .ok s => ∃ env' S', r = .next env' S' ∧ SRel B (E s) env' S'
  | .err c => ∃ env' S', r = .err c env' S' ∧ Fr B S'
  | .bad => True
def OutB (B : Bs) (P : ρ → D → Store → Prop) (f : R ρ) (r : RS) : Prop := match f with
  | .ok x => ∃ d S', (r = .ret d S' ∨ (d = .non ∧ ∃ e, r = .next e S')) ∧ P x d S' ∧ Fr B S'
  | .err c => ∃ env' S', r = .err c env' S' ∧ Fr B S'
  | .bad => True
def OutL (B : Bs) (E : σ → List Sl) (P : ρ → D → Store → Prop) (f : R (Lp σ ρ)) (r : RS) : Prop := match f with
  | .ok (.go s) => ∃ env' S', r = .next env' S' ∧ SRel B (E s) env' S'
  | .ok (.cont s) => ∃ env' S', r = .cont env' S' ∧ SRel B (E s) env' S'
  | .ok (.brk s) => ∃ env' S', r = .brk env' S' ∧ SRel B (E s) env' S'
  | .ok (.out x) => ∃ d S', r = .ret d S' ∧ P x d S' ∧ Fr B S'
  | .err c => ∃ env' S', r = .err c env' S' ∧ Fr B S'
  | .bad => True
def XN (B : Bs) (sl : List Sl) (m : MS) (E : σ → List Sl) (f : R σ) : Prop := ∀ env S, SRel B sl env S → OutN B E f (m env S)
def XB (B : Bs) (sl : List Sl) (m : MS) (P : ρ → D → Store → Prop) (f : R ρ) : Prop := ∀ env S, SRel B sl env S → OutB B P f (m env S)
def XL (B : Bs) (sl : List Sl) (m : MS) (E : σ → List Sl) (P : ρ → D → Store → Prop) (f : R (Lp σ ρ)) : Prop := ∀ env S, SRel B sl env S → OutL B E P f (m env S)
theorem Out.thenN {β : Type} {P : α → β → Store → Prop} {E : σ → List Sl} {f : R α} {g : α → R σ} {r : Res β} {env : En} {S : Store} {k : β → Store → RS} (hr : Fr B S) (h : Out S P f r) (hk : ∀ a d, P a d S → OutN B E (g a) (k d S)) : OutN B E (f.bind g) (r.then env k) := by
  cases f with
  | ok a => obtain ⟨d, rfl, q⟩ := h; exact hk a d q
  | err c => rw [show r = _ from h]; exact ⟨env, S, rfl, hr⟩
  | bad => trivial
theorem Out.thenB {β : Type} {P : α → β → Store → Prop} {P' : ρ → D → Store → Prop} {f : R α} {g : α → R ρ} {r : Res β} {env : En} {S : Store} {k : β → Store → RS} (hr : Fr B S) (h : Out S P f r) (hk : ∀ a d, P a d S → OutB B P' (g a) (k d S)) : OutB B P' (f.bind g) (r.then env k) := by
  cases f with
  | ok a => obtain ⟨d, rfl, q⟩ := h; exact hk a d q
  | err c => rw [show r = _ from h]; exact ⟨env, S, rfl, hr⟩
  | bad => trivial
theorem Out.thenL {β : Type} {P : α → β → Store → Prop} {E : σ → List Sl} {P' : ρ → D → Store → Prop} {f : R α} {g : α → R (Lp σ ρ)} {r : Res β} {env : En} {S : Store} {k : β → Store → RS} (hr : Fr B S) (h : Out S P f r) (hk : ∀ a d, P a d S → OutL B E P' (g a) (k d S)) : OutL B E P' (f.bind g) (r.then env k) := by
  cases f with
  | ok a => obtain ⟨d, rfl, q⟩ := h; exact hk a d q
  | err c => rw [show r = _ from h]; exact ⟨env, S, rfl, hr⟩
  | bad => trivial
theorem bind_ret {α : Type} (f : R α) : f.bind (fun a => .ok a) = f := by cases f <;> rfl
theorem xn_asg {m : M D} {f : R α} (i : Nat) (h : XE B sl m (vP t) f) : XN B sl (sAsg m (pName i)) (fun a => sl.set i (.v (t a))) f := fun env S r => by
  have := Out.thenN (env := env) (g := fun a => .ok a) (E := fun a => sl.set i (.v (t a))) r.frm (h env S r) (k := fun d S1 => match pName i d env with | some e' => .next e' S1 | none => .bad) fun a d q => by cases q; exact ⟨_, _, rfl, r.set_v i _⟩
  rw [bind_ret] at this
  exact this
theorem xn_asgP {m : M D} {p : Pat} {f : R α} {Es : α → List Sl} (h : XE B sl m (vP t) f) (hp : XPt B p t sl Es) : XN B sl (sAsg m p) Es f := fun env S r => by
  have := Out.thenN (env := env) (g := fun a => .ok a) (E := Es) r.frm (h env S r) (k := fun d S1 => match p d env with | some e' => .next e' S1 | none => .bad) fun a d q => by
    cases q
    obtain ⟨e1, q1, r1⟩ := hp a env S r
    rw [q1]
    exact ⟨_, _, rfl, r1⟩
  rw [bind_ret] at this
  exact this
theorem xn_expr {β : Type} {P : α → D → Store → Prop} {m : M D} {f : R α} {f' : R Unit} (h : XE B sl m P f) (e : (f.bind fun _ => .ok ()) = f' := by rfl) : XN B sl (sExpr m) (fun _ => sl) f' := fun env S r => by
  rw [← e]
  exact Out.thenN (env := env) (g := fun _ => .ok ()) (E := fun _ => sl) r.frm (h env S r) (k := fun _ S1 => .next env S1) fun a d q => ⟨_, _, rfl, r⟩
theorem OutN.imp {E E' : σ → List Sl} {f : R σ} {r : RS} (h : OutN B E f r) (k : ∀ s env S, SRel B (E s) env S → SRel B (E' s) env S) : OutN B E' f r := by
  cases f with
  | ok s => obtain ⟨e, S, q1, q2⟩ := h; exact ⟨e, S, q1, k s e S q2⟩
  | err c => exact h
  | bad => trivial
theorem xn_new {m : M (List D)} {f : R (List α)} (i : Nat) (h : XE B sl m (vP (lM t)) f) : XN B sl (sAsg (cel m) (pName i)) (fun l => sl.set i (.c (l.map t))) f := fun env S r => by
  have := h env S r
  unfold sAsg cel
  cases f with
  | bad => trivial
  | err c => rw [show m env S = _ from this]; exact ⟨env, S, rfl, r.frm⟩
  | ok l =>
    obtain ⟨d, q1, q2⟩ := this
    cases q2
    rw [q1]
    exact ⟨_, _, rfl, r.new i _⟩
theorem cell_of {S : Store} {n : Nat} {ds : List D} (h : S[n]? = some (.lst ds)) : cellOf S (.cell n) = some (n, ds) ∧ seqOf S (.cell n) = some ds ∧ isLst (.cell n) S = true := by
  refine ⟨by unfold cellOf; dsimp only; rw [h], by unfold seqOf; dsimp only; rw [h], ?_⟩
  unfold isLst seqOf
  dsimp only
  rw [h]
  rfl
@[irreducible] def setR {α : Type} (l : List α) (k : Int) (a : α) : R (List α) := match ixN l.length k with
  | some j => .ok (l.set j a)
  | none => .bad
theorem xn_set {mv mi : M D} {fv : R α} {fi : R Int} {f' : R (List α)} {l : List α} (i : Nat) (hi : sl[i]? = some (.c (l.map t))) (hv : XE B sl mv (vP t) fv) (hx : XE B sl mi (vP yI) fi) (e : (fv.bind fun a => fi.bind fun k => setR l k a) = f' := by rfl) : XN B sl (sSet mv (eVar i) mi dSetL) (fun l' => sl.set i (.c (l'.map t))) f' := fun env S r => by
  rw [← e]
  obtain ⟨n, e1, q⟩ := r.c hi
  obtain ⟨c1, c2, c3⟩ := cell_of q
  unfold sSet
  refine Out.thenN (env := env) r.frm (hv env S r) fun a d qa => ?_
  cases qa
  have e2 : (eVar i : M D) env S = .ok (.cell n) S := by unfold eVar; rw [e1]
  rw [e2]
  dsimp only [then_ok]
  refine Out.thenN (env := env) r.frm (hx env S r) fun k d qk => ?_
  cases qk
  unfold dSetL setR
  rw [c1]
  show OutN B _ _ (match (match ixN (l.map t).length k with | some j => some (S.set n (.lst ((l.map t).set j (t a)))) | none => none) with | some S4 => RS.next env S4 | none => RS.bad)
  rw [List.length_map]
  cases ixN l.length k with
  | none => trivial
  | some j =>
    refine ⟨env, _, rfl, ?_⟩
    have := r.wr ((l.map t).set j (t a)) hi e1 q
    rw [← List.map_set] at this ⊢
    exact this
theorem xb_seq {E1 : σ → List Sl} {P : ρ → D → Store → Prop} {a b : MS} {fa : R σ} {fb : σ → R ρ} {f' : R ρ} (ha : XN B sl a E1 fa) (hb : ∀ s, XB B (E1 s) b P (fb s)) (e : (fa.bind fun s => fb s) = f' := by rfl) : XB B sl (sSeq a b) P f' := fun env S r => by
  rw [← e]
  have h1 := ha env S r
  unfold sSeq
  cases fa with
  | bad => trivial
  | err c => obtain ⟨e1, S1, q1, q2⟩ := h1; rw [q1]; exact ⟨e1, S1, rfl, q2⟩
  | ok s => obtain ⟨e1, S1, q1, q2⟩ := h1; rw [q1]; exact hb s e1 S1 q2
theorem xl_ret {E : σ → List Sl} {m : M D} {f : R α} {f' : R (Lp σ α)} (h : XE B sl m (vP t) f) (e : (f.bind fun a => .ok (.out a)) = f' := by rfl) : XL B sl (sRet m) E (vP t) f' := fun env S r => by
  rw [← e]
  exact Out.thenL (env := env) (g := fun a => .ok (.out a)) r.frm (h env S r) (k := fun d S1 => .ret d S1) fun a d q => ⟨d, S, rfl, q, r.frm⟩
theorem xn_if {E : σ → List Sl} {c : M Bool} {a b : MS} {fc : R Bool} {fa fb f' : R σ} (hc : XE B sl c bP fc) (ha : XN B sl a E fa) (hb : XN B sl b E fb) (e : (fc.bind fun c => if c = true then fa else fb) = f' := by rfl) : XN B sl (sIf c a b) E f' := fun env S r => by
  rw [← e]
  refine Out.thenN (env := env) r.frm (hc env S r) fun c d q => ?_
  cases q
  cases c with
  | true => exact ha env S r
  | false => exact hb env S r
theorem xb_if {P : ρ → D → Store → Prop} {c : M Bool} {a b : MS} {fc : R Bool} {fa fb f' : R ρ} (hc : XE B sl c bP fc) (ha : XB B sl a P fa) (hb : XB B sl b P fb) (e : (fc.bind fun c => if c = true then fa else fb) = f' := by rfl) : XB B sl (sIf c a b) P f' := fun env S r => by
  rw [← e]
  refine Out.thenB (env := env) r.frm (hc env S r) fun c d q => ?_
  cases q
  cases c with
  | true => exact ha env S r
  | false => exact hb env S r
theorem xl_if {E : σ → List Sl} {P : ρ → D → Store → Prop} {c : M Bool} {a b : MS} {fc : R Bool} {fa fb f' : R (Lp σ ρ)} (hc : XE B sl c bP fc) (ha : XL B sl a E P fa) (hb : XL B sl b E P fb) (e : (fc.bind fun c => if c = true then fa else fb) = f' := by rfl) : XL B sl (sIf c a b) E P f' := fun env S r => by
  rw [← e]
  refine Out.thenL (env := env) r.frm (hc env S r) fun c d q => ?_
  cases q
  cases c with
  | true => exact ha env S r
  | false => exact hb env S r
theorem xn_cl {E : σ → List Sl} {m : MS} {f : R σ} (l : List Nat) (h : XN B sl m E f) : XN B sl (sCl l m) (fun s => clrS (E s) l) f := fun env S r => by
  have h1 := h env S r
  unfold sCl
  cases f with
  | bad => trivial
  | err c => obtain ⟨e1, S1, q1, q2⟩ := h1; rw [q1]; exact ⟨e1, S1, rfl, q2⟩
  | ok s => obtain ⟨e1, S1, q1, q2⟩ := h1; rw [q1]; exact ⟨_, S1, rfl, q2.clr l⟩
theorem seq_if (c : M Bool) (a b rest : MS) : sSeq (sIf c a b) rest = sIf c (sSeq a rest) (sSeq b rest) := by
  funext env S
  unfold sSeq sIf
  cases c env S with
  | ok x S1 => cases x <;> rfl
  | err c S1 => rfl
  | bad => rfl
theorem xb_push {P : ρ → D → Store → Prop} {c : M Bool} {a b rest : MS} {f' : R ρ} (h : XB B sl (sIf c (sSeq a rest) (sSeq b rest)) P f') : XB B sl (sSeq (sIf c a b) rest) P f' := by rw [seq_if]; exact h
def Ends (m : MS) : Prop := ∀ env S e' S', m env S ≠ .next e' S'
theorem ends_ret (m : M D) : Ends (sRet m) := fun env S e' S' h => by unfold sRet at h; cases e : m env S <;> rw [e] at h <;> cases h
theorem seq_ends {a : MS} (rest : MS) (h : Ends a) : sSeq a rest = a := by
  funext env S
  unfold sSeq
  cases e : a env S with
  | next e1 S1 => exact absurd e (h _ _ _ _)
  | _ => rfl
theorem xb_skip {P : ρ → D → Store → Prop} {a rest : MS} {f : R ρ} (h : Ends a) (ha : XB B sl a P f) : XB B sl (sSeq a rest) P f := by rw [seq_ends rest h]; exact ha
theorem xb_nil {P : ρ → D → Store → Prop} {rest : MS} {f : R ρ} (h : XB B sl rest P f) : XB B sl (sSeq sNil rest) P f := h
theorem xb_ret {m : M D} {f : R α} (h : XE B sl m (vP t) f) : XB B sl (sRet m) (vP t) f := fun env S r => by
  have := Out.thenB (env := env) (g := fun a => .ok a) (P' := vP t) r.frm (h env S r) (k := fun d S1 => .ret d S1) fun a d q => ⟨d, S, .inl rfl, q, r.frm⟩
  rw [bind_ret] at this
  exact this
def rL (B : Bs) (t : α → D) : List α → D → Store → Prop := fun l d S => d = yL t l ∨ ∃ j, d = .cell j ∧ B.S0.length ≤ j ∧ S[j]? = some (.lst (l.map t))
theorem xb_retL {m : M D} {f : R (List α)} (h : XE B sl m (vP (yL t)) f) : XB B sl (sRet m) (rL B t) f := fun env S r => by
  have := Out.thenB (env := env) (g := fun a => .ok a) (P' := rL B t) r.frm (h env S r) (k := fun d S1 => .ret d S1) fun a d q => ⟨d, S, .inl rfl, .inl q, r.frm⟩
  rw [bind_ret] at this
  exact this
theorem xb_end : XB B sl sNil (vP yN) (.ok ()) := fun env S r => ⟨.non, S, .inr ⟨rfl, env, rfl⟩, rfl, r.frm⟩
end
end Rf

namespace Rf
open PySem PySem.Spec PyProof.Rows L2
section
variable {B : Bs} {sl : List Sl} {α β γ δ σ ρ τ : Type} {t : α → D}
def forR (step : σ → α → R σ) : List α → σ → R σ
  | [], s => .ok s
  | x :: l, s => (step s x).bind fun s' => forR step l s'
def forL (step : σ → α → R (Lp σ ρ)) : List α → σ → R (Lp σ ρ)
  | [], s => .ok (.go s)
  | x :: l, s => (step s x).bind fun r => match r with
    | .go s' => forL step l s'
    | .cont s' => forL step l s'
    | .brk s' => .ok (.go s')
    | .out y => .ok (.out y)
def Lp.fin (r : Lp σ ρ) (k : σ → R ρ) : R ρ := match r with
  | .go s => k s
  | .out x => .ok x
  | _ => .bad
def Lp.thn (r : Lp σ ρ) (k : σ → R (Lp τ ρ)) : R (Lp τ ρ) := match r with
  | .go s => k s
  | .out x => .ok (.out x)
  | _ => .bad
def Lp.val (r : Lp σ Empty) : R σ := match r with
  | .go s => .ok s
  | _ => .bad
@[simp] theorem fin_go (s : σ) (k : σ → R ρ) : (Lp.go s).fin k = k s := rfl
@[simp] theorem fin_out (x : ρ) (k : σ → R ρ) : (Lp.out x : Lp σ ρ).fin k = .ok x := rfl
@[simp] theorem thn_go (s : σ) (k : σ → R (Lp τ ρ)) : (Lp.go s).thn k = k s := rfl
@[simp] theorem thn_out (x : ρ) (k : σ → R (Lp τ ρ)) : (Lp.out x : Lp σ ρ).thn k = .ok (.out x) := rfl
@[simp] theorem val_go (s : σ) : (Lp.go s : Lp σ Empty).val = .ok s := rfl
theorem loop_N {E E2 : σ → List Sl} {Es : σ → α → List Sl} {step : σ → α → R σ} {p : Pat} {body : MS} {dead : List Nat} {chk : Store → Prop} (J : En → Prop) (hp : ∀ s, XPt B p t (E s) (Es s)) (hb : ∀ s x, XN B (Es s x) body E2 (step s x)) (hd : ∀ s, clrS (E2 s) dead = E s)
    (j1 : ∀ x env e1, J env → p (t x) env = some e1 → J e1) (j2 : ∀ env S e' S', J env → (body env S = .next e' S' ∨ body env S = .cont e' S' ∨ body env S = .brk e' S') → J (clr e' dead)) (hc : ∀ s env S, SRel B (E s) env S → J env → chk S) :
    ∀ (l : List α) (s : σ) (env : En) (S : Store), SRel B (E s) env S → J env → OutN B E (forR step l s) (loopD p body dead chk (l.map t) env S)
  | [], s, env, S, r, j => by rw [List.map_nil]; unfold loopD; rw [if_pos (hc s env S r j)]; exact ⟨env, S, rfl, r⟩
  | x :: l, s, env, S, r, j => by
    obtain ⟨e1, q1, r1⟩ := hp s x env S r
    rw [List.map_cons]
    unfold loopD forR
    rw [if_pos (hc s env S r j), q1]
    dsimp only
    have h1 := hb s x e1 S r1
    cases hs : step s x with
    | bad => trivial
    | err c => rw [hs] at h1; obtain ⟨e2, S2, q2, q3⟩ := h1; rw [q2]; exact ⟨e2, S2, rfl, q3⟩
    | ok s' =>
      rw [hs] at h1
      obtain ⟨e2, S2, q2, q3⟩ := h1
      rw [q2]
      exact loop_N J hp hb hd j1 j2 hc l s' _ S2 (by have := q3.clr dead; rw [hd] at this; exact this) (j2 e1 S e2 S2 (j1 x env e1 j q1) (.inl q2))
theorem loop_L {E E2 : σ → List Sl} {P : ρ → D → Store → Prop} {Es : σ → α → List Sl} {step : σ → α → R (Lp σ ρ)} {p : Pat} {body : MS} {dead : List Nat} {chk : Store → Prop} (J : En → Prop) (hp : ∀ s, XPt B p t (E s) (Es s)) (hb : ∀ s x, XL B (Es s x) body E2 P (step s x)) (hd : ∀ s, clrS (E2 s) dead = E s)
    (j1 : ∀ x env e1, J env → p (t x) env = some e1 → J e1) (j2 : ∀ env S e' S', J env → (body env S = .next e' S' ∨ body env S = .cont e' S' ∨ body env S = .brk e' S') → J (clr e' dead)) (hc : ∀ s env S, SRel B (E s) env S → J env → chk S) :
    ∀ (l : List α) (s : σ) (env : En) (S : Store), SRel B (E s) env S → J env → OutL B E P (forL step l s) (loopD p body dead chk (l.map t) env S)
  | [], s, env, S, r, j => by rw [List.map_nil]; unfold loopD; rw [if_pos (hc s env S r j)]; exact ⟨env, S, rfl, r⟩
  | x :: l, s, env, S, r, j => by
    obtain ⟨e1, q1, r1⟩ := hp s x env S r
    rw [List.map_cons]
    unfold loopD forL
    rw [if_pos (hc s env S r j), q1]
    dsimp only
    have h1 := hb s x e1 S r1
    cases hs : step s x with
    | bad => trivial
    | err c => rw [hs] at h1; obtain ⟨e2, S2, q2, q3⟩ := h1; rw [q2]; exact ⟨e2, S2, rfl, q3⟩
    | ok v =>
      rw [hs] at h1
      have cl : ∀ s' e2 S2, SRel B (E2 s') e2 S2 → SRel B (E s') (clr e2 dead) S2 := fun s' e2 S2 q => by have := q.clr dead; rw [hd] at this; exact this
      cases v with
      | go s' => obtain ⟨e2, S2, q2, q3⟩ := h1; rw [q2]; exact loop_L J hp hb hd j1 j2 hc l s' _ S2 (cl s' e2 S2 q3) (j2 e1 S e2 S2 (j1 x env e1 j q1) (.inl q2))
      | cont s' => obtain ⟨e2, S2, q2, q3⟩ := h1; rw [q2]; exact loop_L J hp hb hd j1 j2 hc l s' _ S2 (cl s' e2 S2 q3) (j2 e1 S e2 S2 (j1 x env e1 j q1) (.inr (.inl q2)))
      | brk s' => obtain ⟨e2, S2, q2, q3⟩ := h1; rw [q2]; exact ⟨_, S2, rfl, cl s' e2 S2 q3⟩
      | out y => obtain ⟨d, S2, q2, q3⟩ := h1; rw [q2]; exact ⟨d, S2, rfl, q3⟩
theorem xn_for {E E2 : σ → List Sl} {Es : σ → α → List Sl} {step : σ → α → R σ} {mi : M IT} {p : Pat} {body : MS} {dead : List Nat} {fi : R (List α)} {f' : R σ} (s0 : σ) (hi : XE B sl mi (i0 t) fi) (h0 : clrS sl dead = E s0) (hp : ∀ s, XPt B p t (E s) (Es s)) (hb : ∀ s x, XN B (Es s x) body E2 (step s x)) (hd : ∀ s, clrS (E2 s) dead = E s)
    (e : (fi.bind fun l => forR step l s0) = f' := by rfl) : XN B sl (sFor mi p body dead) E f' := fun env S r => by
  rw [← e]
  refine Out.thenN (env := env) r.frm (hi env S r) fun l it q => ?_
  cases q
  exact loop_N (fun _ => True) hp hb hd (fun _ _ _ _ _ => trivial) (fun _ _ _ _ _ _ => trivial) (fun _ _ _ _ _ p hp => (nomatch hp)) l s0 _ S (by have := r.clr dead; rw [h0] at this; exact this) trivial
theorem xl_for {E E2 : σ → List Sl} {P : ρ → D → Store → Prop} {Es : σ → α → List Sl} {step : σ → α → R (Lp σ ρ)} {mi : M IT} {p : Pat} {body : MS} {dead : List Nat} {fi : R (List α)} {f' : R (Lp σ ρ)} (s0 : σ) (hi : XE B sl mi (i0 t) fi) (h0 : clrS sl dead = E s0) (hp : ∀ s, XPt B p t (E s) (Es s)) (hb : ∀ s x, XL B (Es s x) body E2 P (step s x)) (hd : ∀ s, clrS (E2 s) dead = E s)
    (e : (fi.bind fun l => forL step l s0) = f' := by rfl) : XL B sl (sFor mi p body dead) E P f' := fun env S r => by
  rw [← e]
  refine Out.thenL (env := env) r.frm (hi env S r) fun l it q => ?_
  cases q
  exact loop_L (fun _ => True) hp hb hd (fun _ _ _ _ _ => trivial) (fun _ _ _ _ _ _ => trivial) (fun _ _ _ _ _ p hp => (nomatch hp)) l s0 _ S (by have := r.clr dead; rw [h0] at this; exact this) trivial
theorem xb_seqL {E : σ → List Sl} {P : ρ → D → Store → Prop} {a b : MS} {fa : R (Lp σ ρ)} {fb : σ → R ρ} {f' : R ρ} (ha : XL B sl a E P fa) (hb : ∀ s, XB B (E s) b P (fb s)) (e : (fa.bind fun r => r.fin fb) = f' := by rfl) : XB B sl (sSeq a b) P f' := fun env S r => by
  rw [← e]
  have h1 := ha env S r
  unfold sSeq
  cases fa with
  | bad => trivial
  | err c => obtain ⟨e1, S1, q1, q2⟩ := h1; rw [q1]; exact ⟨e1, S1, rfl, q2⟩
  | ok v =>
    cases v with
    | go s => obtain ⟨e1, S1, q1, q2⟩ := h1; rw [q1]; exact hb s e1 S1 q2
    | cont s => trivial
    | brk s => trivial
    | out x => obtain ⟨d, S1, q1, q2⟩ := h1; rw [q1]; exact ⟨d, S1, .inl rfl, q2⟩
def PRel (S : Store) (Q : List Nat) (d : D) : Sl → Prop
  | .u => True
  | .v e => d = e
  | .r l => seqOf S d = some l ∧ isTup d = false ∧ ∀ n, d = .cell n → n ∉ Q
  | .f (some q) ob => d = .cell q ∧ q ∈ Q ∧ S[q]? = some ob
  | .q k f => ∃ n, d = .cell n ∧ (f n).length = k ∧ (∀ (i : Nat) (ob : Ob), (f n)[i]? = some ob → S[n + i]? = some ob) ∧ ∀ x ∈ List.range' n k, x ∉ Q
  | _ => False
inductive PRels (S : Store) (Q : List Nat) : List D → List Sl → Prop
  | nil : PRels S Q [] []
  | cons {d : D} {s : Sl} {ds : List D} {ss : List Sl} : PRel S Q d s → PRels S Q ds ss → PRels S Q (d :: ds) (s :: ss)
def nfe : List Sl → Nat
  | [] => 0
  | .f _ _ :: l => nfe l + 1
  | _ :: l => nfe l
theorem PRels.len {S : Store} {Q : List Nat} : ∀ {ds : List D} {ss : List Sl}, PRels S Q ds ss → ds.length = ss.length
  | _, _, .nil => rfl
  | _, _, .cons _ h => congrArg (· + 1) h.len
theorem PRels.get {S : Store} {Q : List Nat} : ∀ {ds : List D} {ss : List Sl}, PRels S Q ds ss → ∀ (i : Nat) (d : D) (s : Sl), ds[i]? = some d → ss[i]? = some s → PRel S Q d s
  | _, _, .nil, i, d, s, h, _ => by simp at h
  | _, _, .cons h0 h, 0, d, s, h1, h2 => by cases h1; cases h2; exact h0
  | _, _, .cons h0 h, i + 1, d, s, h1, h2 => h.get i d s (by simpa using h1) (by simpa using h2)
theorem fe_one : ∀ {ss : List Sl} {i j : Nat} {q q' : Option Nat} {o o' : Ob}, nfe ss ≤ 1 → ss[i]? = some (.f q o) → ss[j]? = some (.f q' o') → i = j := by
  intro ss
  induction ss with
  | nil => intro i j q q' o o' _ h; simp at h
  | cons s ss ih =>
    intro i j q q' o o' hn h1 h2
    have none : nfe ss = 0 → ∀ (k : Nat) (q : Option Nat) (o : Ob), ss[k]? = some (.f q o) → False := by
      clear ih hn h1 h2
      induction ss with
      | nil => intro _ k q o h; simp at h
      | cons s2 ss ih2 =>
        intro h0 k q o h
        cases s2 with
        | f _ _ => simp [nfe] at h0
        | _ =>
          cases k with
          | zero => simp at h
          | succ k => exact ih2 h0 k q o (by simpa using h)
    cases i with
    | zero =>
      cases j with
      | zero => rfl
      | succ j =>
        have : s = .f q o := by simpa using h1
        subst this
        exact (none (by simp [nfe] at hn; omega) j q' o' (by simpa using h2)).elim
    | succ i =>
      cases j with
      | zero =>
        have : s = .f q' o' := by simpa using h2
        subst this
        exact (none (by simp [nfe] at hn; omega) i q o (by simpa using h1)).elim
      | succ j =>
        have hn' : nfe ss ≤ 1 := by
          cases s with
          | f _ _ => simp [nfe] at hn; omega
          | _ => exact hn
        exact congrArg (· + 1) (ih hn' (by simpa using h1) (by simpa using h2))
theorem init_rel {S : Store} {Q : List Nat} {ds : List D} {ss : List Sl} (k : Nat) (h : PRels S Q ds ss) (hf : nfe ss ≤ 1) : SRel ⟨S, Q⟩ (ss ++ List.replicate k .u) (ds.map some ++ List.replicate k none) S := by
  have hl := h.len
  have atp : ∀ (i : Nat) (s : Sl) (o : Option D), (ss ++ List.replicate k .u)[i]? = some s → (ds.map some ++ List.replicate k none)[i]? = some o → (s = .u ∧ o = none) ∨ (∃ d, o = some d ∧ ds[i]? = some d ∧ ss[i]? = some s ∧ PRel S Q d s) := fun i s o h1 h2 => by
    by_cases hi : i < ds.length
    · rw [List.getElem?_append_left (by rw [← hl]; exact hi)] at h1
      rw [List.getElem?_append_left (by rw [List.length_map]; exact hi), List.getElem?_map] at h2
      obtain ⟨d, ed⟩ : ∃ d, ds[i]? = some d := ⟨ds[i], List.getElem?_eq_getElem hi⟩
      rw [ed] at h2
      cases h2
      exact .inr ⟨d, rfl, ed, h1, h.get i d s ed h1⟩
    · rw [List.getElem?_append_right (by rw [← hl]; omega), List.getElem?_replicate] at h1
      rw [List.getElem?_append_right (by rw [List.length_map]; omega), List.getElem?_replicate] at h2
      split at h1
      · cases h1
        split at h2
        · cases h2; exact .inl ⟨rfl, rfl⟩
        · cases h2
      · cases h1
  have mcp : ∀ (d : D) (s : Sl) (x : Nat), PRel S Q d s → x ∈ mc (some d) s → x ∈ Q ∧ ∃ q o, s = .f q o := fun d s x hp hx => by
    cases s with
    | f q ob =>
      cases q with
      | none => exact hp.elim
      | some q => obtain ⟨rfl, h2, h3⟩ := hp; rw [List.mem_singleton.mp hx]; exact ⟨h2, _, _, rfl⟩
    | u => rw [mc_u] at hx; cases hx
    | v _ => rw [mc_v] at hx; cases hx
    | r _ => rw [mc_r] at hx; cases hx
    | c _ => exact hp.elim
    | n _ => exact hp.elim
    | o _ _ => exact hp.elim
    | p _ _ => exact hp.elim
    | q _ _ => rw [mc_q] at hx; cases hx
  refine ⟨by simp [hl], fun i s o h1 h2 => ?_, fun i j s s' o o' hij h1 h2 h3 h4 x hx hx2 => ?_, fun i s o h1 h2 x hx => ?_, ⟨Nat.le_refl _, fun _ _ _ => rfl⟩⟩
  · rcases atp i s o h1 h2 with ⟨rfl, rfl⟩ | ⟨d, rfl, _, _, hp⟩
    · trivial
    · cases s with
      | u => trivial
      | v _ => exact congrArg some hp
      | r _ => exact ⟨d, rfl, hp.1, hp.2.1⟩
      | f q ob =>
        cases q with
        | none => exact hp.elim
        | some q => obtain ⟨rfl, h2, h3⟩ := hp; exact ⟨q, rfl, h3, fun k hk => by cases hk; rfl⟩
      | c _ => exact hp.elim
      | n _ => exact hp.elim
      | o _ _ => exact hp.elim
      | p _ _ => exact hp.elim
      | q _ _ => obtain ⟨n, rfl, h1, h2, _⟩ := hp; exact ⟨n, rfl, h1, h2⟩
  · rcases atp i s o h1 h2 with ⟨rfl, rfl⟩ | ⟨d, rfl, g1, g2, hp⟩
    · rw [mc_u] at hx; cases hx
    · obtain ⟨q1, qq, oo, rfl⟩ := mcp d s x hp hx
      rcases atp j s' o' h3 h4 with ⟨rfl, rfl⟩ | ⟨d', rfl, g3, g4, hp'⟩
      · rw [rc_u] at hx2; cases hx2
      · cases s' with
        | f q' ob' => exact hij (fe_one hf g2 g4)
        | u => rw [rc_u] at hx2; cases hx2
        | v _ => rw [rc_v] at hx2; cases hx2
        | c _ => exact hp'.elim
        | n _ => exact hp'.elim
        | o _ _ => exact hp'.elim
        | p _ _ => exact hp'.elim
        | q _ _ => obtain ⟨n, rfl, _, _, h5⟩ := hp'; exact h5 x hx2 q1
        | r _ =>
          cases d' with
          | cell n => rw [List.mem_singleton.mp (show x ∈ [n] from hx2)] at q1; exact hp'.2.2 n rfl q1
          | _ => cases hx2
  · rcases atp i s o h1 h2 with ⟨rfl, rfl⟩ | ⟨d, rfl, _, _, hp⟩
    · rw [mc_u] at hx; cases hx
    · exact .inr (mcp d s x hp hx)
theorem Fr.stOk {S S' : Store} (h : Fr ⟨S, []⟩ S') : stOk S S' := ⟨h.len, fun i hi => .inl (h.same i hi (fun z => (nomatch z)))⟩
theorem Fr.take {S S' : Store} (h : Fr ⟨S, []⟩ S') : S'.take S.length = S := by
  apply List.ext_getElem?
  intro i
  by_cases hi : i < S.length
  · rw [List.getElem?_take_of_lt hi]; exact h.same i hi (fun z => (nomatch z))
  · rw [List.getElem?_eq_none (by rw [List.length_take]; omega), List.getElem?_eq_none (by omega)]
theorem fn_v {u : ρ → D} [TPu u] {N : Nat} {body : MS} {ds : List D} {ss : List Sl} {S : Store} {f : R ρ} (hp : PRels S [] ds ss) (hf : nfe ss ≤ 1) (h : XB ⟨S, []⟩ (ss ++ List.replicate (N - ds.length) .u) body (vP u) f) : Out S (vP u) f (runFn .val N body ds S) := by
  have h1 := h _ S (init_rel (N - ds.length) hp hf)
  unfold runFn
  cases f with
  | bad => trivial
  | err c =>
    obtain ⟨e1, S1, q1, q2⟩ := h1
    rw [q1]
    dsimp only
    rw [if_pos q2.stOk, q2.take]
    rfl
  | ok x =>
    obtain ⟨d, S1, q1, q2, q3⟩ := h1
    cases q2
    have key : fin .val S (u x) S1 = .ok (u x) S := by rw [fin_val q3.stOk (TPu.pu (t := u) x), q3.take]
    rcases q1 with q1 | ⟨q0, e, q1⟩
    · rw [q1]; exact ⟨u x, key, rfl⟩
    · rw [q1]; rw [q0] at key; exact ⟨.non, key, q0.symm⟩
theorem fn_L {u : ρ → D} [TPu u] {N : Nat} {body : MS} {ds : List D} {ss : List Sl} {S : Store} {f : R (List ρ)} (hp : PRels S [] ds ss) (hf : nfe ss ≤ 1) (h : XB ⟨S, []⟩ (ss ++ List.replicate (N - ds.length) .u) body (rL ⟨S, []⟩ u) f) : Out S (vP (yL u)) f (runFn .val N body ds S) := by
  have h1 := h _ S (init_rel (N - ds.length) hp hf)
  unfold runFn
  cases f with
  | bad => trivial
  | err c =>
    obtain ⟨e1, S1, q1, q2⟩ := h1
    rw [q1]
    dsimp only
    rw [if_pos q2.stOk, q2.take]
    rfl
  | ok x =>
    obtain ⟨d, S1, q1, q2, q3⟩ := h1
    have key : fin .val S d S1 = .ok (yL u x) S := by
      rcases q2 with rfl | ⟨j, rfl, hj, hs⟩
      · rw [fin_val q3.stOk (TPu.pu (t := yL u) x), q3.take]
      · unfold fin
        rw [if_pos q3.stOk]
        dsimp only
        have : ¬ (pureD (.cell j) = true) := by unfold pureD; decide
        rw [if_neg this, if_pos hj, hs]
        dsimp only
        rw [if_pos (show pureL (x.map u) = true from TPu.pu (t := yL u) x), q3.take]
        rfl
    rcases q1 with q1 | ⟨q0, e, q1⟩
    · rw [q1]; exact ⟨_, key, rfl⟩
    · rcases q2 with q2 | ⟨j, q2, _⟩
      · rw [q0] at q2; cases q2
      · rw [q0] at q2; cases q2
end
end Rf

namespace Rf
open PySem PySem.Spec PyProof.Rows L2
def R.ne {α : Type} (f : R α) : R α := match f with
  | .err _ => .bad
  | x => x
@[simp] theorem ne_ok {α : Type} (a : α) : (R.ok a).ne = .ok a := rfl
@[simp] theorem ne_bad {α : Type} : (R.bad : R α).ne = .bad := rfl
section
variable {B : Bs} {sl : List Sl} {α β γ δ σ τ ρ : Type} {t : α → D}
def OutI (B : Bs) (E : σ → List Sl) (P : α → β → Store → Prop) (env : En) (f : R (α × σ)) (r : Res β) : Prop := match f with
  | .ok (a, s) => ∃ d S', r = .ok d S' ∧ P a d S' ∧ SRel B (E s) env S'
  | .err c => ∃ S', r = .err c S' ∧ Fr B S'
  | .bad => True
def XI (B : Bs) (sl : List Sl) (E : σ → List Sl) (m : M β) (P : α → β → Store → Prop) (f : R (α × σ)) : Prop := ∀ env S, SRel B sl env S → OutI B E P env f (m env S)
theorem OutI.bind {E : σ → List Sl} {E' : τ → List Sl} {P : α → β → Store → Prop} {P' : γ → δ → Store → Prop} {env : En} {f : R (α × σ)} {g : α × σ → R (γ × τ)} {r : Res β} {k : β → Store → Res δ} (h : OutI B E P env f r) (hk : ∀ a s d S', P a d S' → SRel B (E s) env S' → OutI B E' P' env (g (a, s)) (k d S')) : OutI B E' P' env (f.bind g) (r.bind k) := by
  cases f with
  | ok p => obtain ⟨a, s⟩ := p; obtain ⟨d, S', rfl, q1, q2⟩ := h; exact hk a s d S' q1 q2
  | err c => obtain ⟨S', rfl, q⟩ := h; exact ⟨S', rfl, q⟩
  | bad => trivial
theorem Out.toI {E : σ → List Sl} {P : α → β → Store → Prop} {env : En} {S : Store} {f : R α} {r : Res β} (s : σ) (h : Out S P f r) (hr : SRel B (E s) env S) : OutI B E P env (f.bind fun a => .ok (a, s)) r := by
  cases f with
  | ok a => obtain ⟨d, q1, q2⟩ := h; exact ⟨d, S, q1, q2, hr⟩
  | err c => exact ⟨S, h, hr.frm⟩
  | bad => trivial
theorem xe_kr {f : D → D → Store → Res D} {k : D} {P : α → D → Store → Prop} {P'' : γ → D → Store → Prop} {g : α → R γ} {ma : M D} {fa : R α} {f' : R γ} (op : Op1 (fun d S => f d k S) P P'' g) (ha : XE B sl ma P fa) (e : (fa.bind fun a => g a) = f' := by rfl) : XE B sl (e2 f ma (eC k)) P'' f' := fun env S r => by
  rw [← e]
  exact Out.bind (ha env S r) fun a d pa => op a d S pa
theorem xe_krt {f : D → D → Store → Res D} {k : D} {P : α → D → Store → Prop} {P'' : γ → D → Store → Prop} {g : α → R γ} {ma : M D} {a : α} {f' : R γ} (op : Op1 (fun d S => f d k S) P P'' g) (ha : XE B sl ma P (.ok a)) (e : g a = f' := by rfl) : XE B sl (e2 f ma (eC k)) P'' f' := xe_kr op ha e
end
section
variable {B : Bs} {sl : List Sl} {α β γ δ ε ζ η θ ι ρ κ ς : Type}
theorem res_assoc {X Y Z : Type} (r : Res X) (p : X → Store → Res Y) (q : Y → Store → Res Z) : (r.bind p).bind q = r.bind fun x S => (p x S).bind q := by cases r <;> rfl
end
section
variable {B : Bs} {sl : List Sl} {α β γ δ ε ζ σ τ ρ : Type} {t : α → D}
theorem OutI.thenN {E : σ → List Sl} {E' : τ → List Sl} {P : α → β → Store → Prop} {env : En} {f : R (α × σ)} {g : α × σ → R τ} {r : Res β} {k : β → Store → RS} (h : OutI B E P env f r) (hk : ∀ a s d S', P a d S' → SRel B (E s) env S' → OutN B E' (g (a, s)) (k d S')) : OutN B E' (f.bind g) (r.then env k) := by
  cases f with
  | ok p => obtain ⟨a, s⟩ := p; obtain ⟨d, S', rfl, q1, q2⟩ := h; exact hk a s d S' q1 q2
  | err c => obtain ⟨S', rfl, q⟩ := h; exact ⟨env, S', rfl, q⟩
  | bad => trivial
theorem OutI.thenB {E : σ → List Sl} {P : α → β → Store → Prop} {P' : ρ → D → Store → Prop} {env : En} {f : R (α × σ)} {g : α × σ → R ρ} {r : Res β} {k : β → Store → RS} (h : OutI B E P env f r) (hk : ∀ a s d S', P a d S' → SRel B (E s) env S' → OutB B P' (g (a, s)) (k d S')) : OutB B P' (f.bind g) (r.then env k) := by
  cases f with
  | ok p => obtain ⟨a, s⟩ := p; obtain ⟨d, S', rfl, q1, q2⟩ := h; exact hk a s d S' q1 q2
  | err c => obtain ⟨S', rfl, q⟩ := h; exact ⟨env, S', rfl, q⟩
  | bad => trivial
theorem OutI.thenL {E : σ → List Sl} {E' : τ → List Sl} {P : α → β → Store → Prop} {P' : ρ → D → Store → Prop} {env : En} {f : R (α × σ)} {g : α × σ → R (Lp τ ρ)} {r : Res β} {k : β → Store → RS} (h : OutI B E P env f r) (hk : ∀ a s d S', P a d S' → SRel B (E s) env S' → OutL B E' P' (g (a, s)) (k d S')) : OutL B E' P' (f.bind g) (r.then env k) := by
  cases f with
  | ok p => obtain ⟨a, s⟩ := p; obtain ⟨d, S', rfl, q1, q2⟩ := h; exact hk a s d S' q1 q2
  | err c => obtain ⟨S', rfl, q⟩ := h; exact ⟨env, S', rfl, q⟩
  | bad => trivial
theorem FrQ.stOk {S S' : Store} {q : Nat} {ob : Ob} (h : Fr ⟨S, [q]⟩ S') (hq : S'[q]? = some ob) (hp : ob.pure = true) : stOk S S' := ⟨h.len, fun i hi => by
  by_cases e : i = q
  · subst e; exact .inr ⟨ob, hq, hp⟩
  · exact .inl (h.same i hi (by simpa using e))⟩
theorem FrQ.take {S S' : Store} {q : Nat} {ob : Ob} (h : Fr ⟨S, [q]⟩ S') (hq : S'[q]? = some ob) (hl : q < S.length) : S'.take S.length = S.set q ob := by
  apply List.ext_getElem?
  intro i
  by_cases hi : i < S.length
  · rw [List.getElem?_take_of_lt hi]
    by_cases e : i = q
    · subst e; rw [hq, List.getElem?_set_self hi]
    · rw [List.getElem?_set_ne (Ne.symm e)]; exact h.same i hi (by simpa using e)
  · rw [List.getElem?_eq_none (by rw [List.length_take]; omega), List.getElem?_eq_none (by rw [List.length_set]; omega)]
theorem xn_feed {κ : Type} {fo : κ → Ob} {g : κ} {m : M D} (i : Nat) (h : ∀ env S, SRel B sl env S → m env S = .ok (.cell S.length) (S ++ [fo g])) : XN B sl (sAsg m (pName i)) (fun g' : κ => sl.set i (.f none (fo g'))) (.ok g) := fun env S r => by
  unfold sAsg
  rw [h env S r]
  exact ⟨_, _, rfl, r.newf i _⟩
end
end Rf

namespace Rf
open PySem PySem.Spec PyProof.Rows L2
section
variable {B : Bs} {sl : List Sl} {α β γ δ σ ρ τ : Type} {t : α → D}
theorem SRel.drops {env : En} {S : Store} (r : SRel B sl env S) : ∀ l : List Nat, SRel B (clrS sl l) env S
  | [] => r
  | i :: l => (SRel.drops r l).drop i
theorem xn_nild {E : σ → List Sl} (s : σ) (drops : List Nat) (h : clrS sl drops = E s) : XN B sl sNil E (.ok s) := fun env S r => ⟨env, S, rfl, h ▸ r.drops drops⟩
theorem xn_end {E1 : σ → List Sl} {E2 : δ → List Sl} {a : MS} {fa : R σ} {f' : R δ} (g : σ → δ) (drops : List Nat) (ha : XN B sl a E1 fa) (hE : ∀ s, clrS (E1 s) drops = E2 (g s)) (e : (fa.bind fun s => .ok (g s)) = f' := by rfl) : XN B sl a E2 f' := fun env S r => by
  rw [← e]
  have h1 := ha env S r
  cases fa with
  | bad => trivial
  | err c => exact h1
  | ok s => obtain ⟨e1, S1, q1, q2⟩ := h1; exact ⟨e1, S1, q1, hE s ▸ q2.drops drops⟩
theorem xl_god {E : σ → List Sl} {P : ρ → D → Store → Prop} (s : σ) (drops : List Nat) (h : clrS sl drops = E s) : XL B sl sNil E P (.ok (.go s)) := fun env S r => ⟨env, S, rfl, h ▸ r.drops drops⟩
theorem xe_chain2 {f g : D → D → Store → Res D} {u : β → D} {v : γ → D} {cf : α → β → Bool} {cg : β → γ → Bool} {ma mb mc : M D} {fa : R α} {fb : R β} {fc : R γ} {f' : R Bool} (o1 : Op2 f (vP t) (vP u) (vP yB) fun a b => .ok (cf a b)) (o2 : Op2 g (vP u) (vP v) (vP yB) fun a b => .ok (cg a b)) (ha : XE B sl ma (vP t) fa) (hb : XE B sl mb (vP u) fb) (hc : XE B sl mc (vP v) fc)
    (e : (fa.bind fun a => fb.bind fun b => if cf a b = true then fc.bind fun c => .ok (cg b c) else .ok false) = f' := by rfl) : XE B sl (eChain f g ma mb mc) (vP yB) f' := fun env S r => by
  rw [← e]
  refine Out.bind (ha env S r) fun a d pa => Out.bind (hb env S r) fun b d' pb => ?_
  obtain ⟨k, q1, q2⟩ := o1 a b d d' S pa pb
  cases q2
  rw [q1]
  dsimp only [bind_ok]
  cases h : cf a b with
  | true => exact Out.bind (hc env S r) fun c d2 pc => o2 b c d' d2 S pb pc
  | false => exact ⟨_, rfl, rfl⟩
theorem xe_chain3t {f g h : D → D → Store → Res D} {u : β → D} {v : γ → D} {w : δ → D} {cf : α → β → Bool} {cg : β → γ → Bool} {ch : γ → δ → Bool} {ma mb mc md : M D} {a : α} {b : β} {c : γ} {d : δ} (o1 : Op2 f (vP t) (vP u) (vP yB) fun a b => .ok (cf a b)) (o2 : Op2 g (vP u) (vP v) (vP yB) fun a b => .ok (cg a b)) (o3 : Op2 h (vP v) (vP w) (vP yB) fun a b => .ok (ch a b)) (ha : XE B sl ma (vP t) (.ok a)) (hb : XE B sl mb (vP u) (.ok b)) (hc : XE B sl mc (vP v) (.ok c)) (hd : XE B sl md (vP w) (.ok d)) : XE B sl (eChain3 f g h ma mb mc md) (vP yB) (.ok (cf a b && (cg b c && ch c d))) := fun env S r => by
  obtain ⟨d1, z1, y1⟩ := ha env S r
  obtain ⟨d2, z2, y2⟩ := hb env S r
  obtain ⟨d3, z3, y3⟩ := hc env S r
  obtain ⟨d4, z4, y4⟩ := hd env S r
  obtain ⟨k1, q1, p1⟩ := o1 a b d1 d2 S y1 y2
  obtain ⟨k2, q2, p2⟩ := o2 b c d2 d3 S y2 y3
  obtain ⟨k3, q3, p3⟩ := o3 c d d3 d4 S y3 y4
  cases p1; cases p2; cases p3
  refine ⟨yB (cf a b && (cg b c && ch c d)), ?_, rfl⟩
  unfold eChain3
  rw [z1]; dsimp only [bind_ok]; rw [z2]; dsimp only [bind_ok]; rw [q1]; dsimp only [bind_ok]
  cases cf a b with
  | false => rfl
  | true =>
    show (mc env S).bind _ = _
    rw [z3]; dsimp only [bind_ok]; rw [q2]; dsimp only [bind_ok]
    cases cg b c with
    | false => rfl
    | true =>
      show (md env S).bind _ = _
      rw [z4]; dsimp only [bind_ok]; rw [q3]; rfl
@[irreducible] def lrR (n : Int) : R (List Int) := if n ≤ 1000000 ∧ -1000000 ≤ n then .ok (rng1 n) else .bad
theorem xe_lr1 {m : M D} {f : R Int} {f' : R (List Int)} (h : XE B sl m (vP yI) f) (e : (f.bind fun n => lrR n) = f' := by rfl) : XE B sl (fLR1 m) (vP (lM yI)) f' := fun env S r => by
  rw [← e]
  refine Out.bind (h env S r) fun n d q => ?_
  cases q
  unfold lrR
  show Out S _ (if _ then _ else _) (if n ≤ 1000000 ∧ -1000000 ≤ n then _ else _)
  by_cases hn : n ≤ 1000000 ∧ -1000000 ≤ n
  · rw [if_pos hn, if_pos hn]
    refine ⟨_, rfl, ?_⟩
    show rangeD 0 (n - 0).toNat = (rng1 n).map yI
    unfold rangeD rng1
    rw [List.map_map, Int.sub_zero]
    apply List.map_congr_left
    intro i _
    show D.int (0 + (i : Int)) = D.int (i : Int)
    rw [Int.zero_add]
  · rw [if_neg hn]; trivial
theorem xe_lr1t {m : M D} {n : Int} {f' : R (List Int)} (h : XE B sl m (vP yI) (.ok n)) (e : lrR n = f' := by rfl) : XE B sl (fLR1 m) (vP (lM yI)) f' := xe_lr1 h e
theorem xi_r1k {m : M D} {n : Int} (h : XE B sl m (vP yI) (.ok n)) (hn : -(2 ^ 62) ≤ n ∧ n < 2 ^ 62) : XE B sl (iR1 (aCons m aNil)) (i0 yI) (.ok (rng1 n)) := xi_r1 h (by show rng1R n = _; unfold rng1R; exact if_pos hn)
@[irreducible] def indexR {α : Type} [DecidableEq α] (l : List α) (a : α) : R Int := match l.findIdx? (fun z => decide (z = a)) with
  | some j => .ok (j : Int)
  | none => .bad
theorem xe_index {n : Nat} {b : Bool} [TSh t n] [TNc t] [TEq t] [DecidableEq α] {mo m : M D} {fl : R (List α)} {fa : R α} {f' : R Int} (hl : XE B sl mo (lP b t) fl) (ha : XE B sl m (vP t) fa) (hn : n ≤ 11 := by decide) (e : (fl.bind fun l => fa.bind fun a => indexR l a) = f' := by rfl) : XE B sl (eMt dIndex isSeqB mo (aCons m aNil)) (vP yI) f' := fun env S r => by
  rw [← e]
  unfold eMt aCons aNil
  refine Out.bind (hl env S r) fun l d q => ?_
  have hs : isSeqB d S = true := by unfold isSeqB; rw [q.1]; rfl
  rw [if_pos hs]
  simp only [res_assoc, bind_ok]
  refine Out.bind (ha env S r) fun a d' q' => ?_
  cases q'
  unfold dIndex indexR
  dsimp only
  rw [q.1]
  dsimp only
  rw [if_pos ⟨by rw [TNc.nc]; exact TSh.sh (t := t) 12 a (by omega), all_sh hn l⟩, TNc.nc]
  have : ixOf (t a) (l.map t) = l.findIdx? (fun z => decide (z = a)) := by
    unfold ixOf
    rw [List.findIdx?_map]
    congr 1
    funext z
    exact eqv_dec z a
  rw [this]
  cases l.findIdx? (fun z => decide (z = a)) with
  | none => trivial
  | some j => exact ⟨_, rfl, rfl⟩
def lexI : List Int → List Int → Bool
  | [], [] => false
  | [], _ :: _ => true
  | _ :: _, [] => false
  | x :: r, y :: s => decide (x < y) || (!decide (y < x) && lexI r s)
theorem lexI_eq : ∀ a b : List Int, PyProof.Rows.lexLt itemOrd (a.map Sum.inl) (b.map Sum.inl) = lexI a b
  | [], [] => rfl
  | [], _ :: _ => rfl
  | _ :: _, [] => rfl
  | x :: a, y :: b => by
    show (decide (x < y) || (!decide (y < x) && PyProof.Rows.lexLt itemOrd (a.map Sum.inl) (b.map Sum.inl))) = _
    rw [lexI_eq a b]; rfl
class TTok {α : Type} (t : α → D) (k : outParam (α → List Int)) : Prop where
  tok : ∀ a, PySem.W.keyToks (py (t a)) = (k a).map Sum.inl
class TAl {α : Type} (t : α → D) : Prop where
  al : ∀ a b, PySem.W.alike (py (t a)) (py (t b)) = true
def kI : Int → List Int := fun a => [a]
def leK {α : Type} (k : α → List Int) (a b : α) : Bool := !lexI (k b) (k a)
instance : TTok yI kI := ⟨fun a => by simp [yI, py, PySem.W.keyToks, kI]⟩
instance : TAl yI := ⟨fun _ _ => rfl⟩
instance : TAl yB := ⟨fun _ _ => rfl⟩
def kB : Bool → List Int := fun a => [if a then 1 else 0]
instance : TTok yB kB := ⟨fun a => by cases a <;> simp [yB, py, PySem.W.keyToks, kB]⟩
theorem le_of_tok {k : α → List Int} [TTok t k] (a b : α) : PySem.W.dataLe false py (t a) (t b) = leK k a b := by
  show (!PyProof.Rows.lexLt itemOrd (PySem.W.keyToks (py (t b))) (PySem.W.keyToks (py (t a)))) = _
  rw [TTok.tok (t := t), TTok.tok (t := t), lexI_eq]
  rfl
def kT {α : Type} (k : α → List Int) : List α → List Int
  | [] => [0]
  | x :: l => 1 :: (k x ++ kT k l)
theorem toks_all {k : α → List Int} [TTok t k] : ∀ l : List α, PySem.W.keyToksAll (pyL (l.map t)) = (kT k l).map Sum.inl
  | [] => rfl
  | x :: l => by
    show Sum.inl 1 :: (PySem.W.keyToks (py (t x)) ++ PySem.W.keyToksAll (pyL (l.map t))) = _
    rw [toks_all l, TTok.tok (t := t)]
    simp [kT]
instance {k : α → List Int} [TTok t k] : TTok (yT t) (kT k) := ⟨fun l => toks_all l⟩
end
def kP1 {α : Type} (k0 : α → List Int) : α → List Int := fun p => 1 :: (k0 (p) ++ [0])
instance {α : Type} {t : α → D} {k0 : α → List Int} [TTok t k0] : TTok (yP1 t) (kP1 k0) := ⟨fun p => by
  show Sum.inl 1 :: (PySem.W.keyToks (py (t (p))) ++ [Sum.inl 0]) = _
  rw [TTok.tok (t := t)]
  simp [kP1]⟩
instance {α : Type} {t : α → D} [TAl t] : TAl (yP1 t) := ⟨fun a b => by show (PySem.W.alike (py (t (a))) (py (t (b))) && true) = true; rw [TAl.al (t := t)]; rfl⟩
instance {α : Type} {t : α → D} {k : α → List Int} [TTok (yP1 t) k] [TAl (yP1 t)] : TOrd (yP1 t) (leK k) := ⟨fun a b => le_of_tok a b, fun a b => TAl.al (t := yP1 t) a b, .inl fun a => ⟨_, _, rfl⟩⟩
def kP2 {α β : Type} (k0 : α → List Int) (k1 : β → List Int) : α × β → List Int := fun p => 1 :: (k0 (p.1) ++ 1 :: (k1 (p.2) ++ [0]))
instance {α β : Type} {t : α → D} {u : β → D} {k0 : α → List Int} {k1 : β → List Int} [TTok t k0] [TTok u k1] : TTok (yP2 t u) (kP2 k0 k1) := ⟨fun p => by
  show Sum.inl 1 :: (PySem.W.keyToks (py (t (p.1))) ++ Sum.inl 1 :: (PySem.W.keyToks (py (u (p.2))) ++ [Sum.inl 0])) = _
  rw [TTok.tok (t := t), TTok.tok (t := u)]
  simp [kP2]⟩
instance {α β : Type} {t : α → D} {u : β → D} [TAl t] [TAl u] : TAl (yP2 t u) := ⟨fun a b => by show (PySem.W.alike (py (t (a.1))) (py (t (b.1))) && (PySem.W.alike (py (u (a.2))) (py (u (b.2))) && true)) = true; rw [TAl.al (t := t), TAl.al (t := u)]; rfl⟩
instance {α β : Type} {t : α → D} {u : β → D} {k : α × β → List Int} [TTok (yP2 t u) k] [TAl (yP2 t u)] : TOrd (yP2 t u) (leK k) := ⟨fun a b => le_of_tok a b, fun a b => TAl.al (t := yP2 t u) a b, .inl fun a => ⟨_, _, rfl⟩⟩
def kP3 {α β γ : Type} (k0 : α → List Int) (k1 : β → List Int) (k2 : γ → List Int) : α × β × γ → List Int := fun p => 1 :: (k0 (p.1) ++ 1 :: (k1 (p.2.1) ++ 1 :: (k2 (p.2.2) ++ [0])))
instance {α β γ : Type} {t : α → D} {u : β → D} {v : γ → D} {k0 : α → List Int} {k1 : β → List Int} {k2 : γ → List Int} [TTok t k0] [TTok u k1] [TTok v k2] : TTok (yP3 t u v) (kP3 k0 k1 k2) := ⟨fun p => by
  show Sum.inl 1 :: (PySem.W.keyToks (py (t (p.1))) ++ Sum.inl 1 :: (PySem.W.keyToks (py (u (p.2.1))) ++ Sum.inl 1 :: (PySem.W.keyToks (py (v (p.2.2))) ++ [Sum.inl 0]))) = _
  rw [TTok.tok (t := t), TTok.tok (t := u), TTok.tok (t := v)]
  simp [kP3]⟩
instance {α β γ : Type} {t : α → D} {u : β → D} {v : γ → D} [TAl t] [TAl u] [TAl v] : TAl (yP3 t u v) := ⟨fun a b => by show (PySem.W.alike (py (t (a.1))) (py (t (b.1))) && (PySem.W.alike (py (u (a.2.1))) (py (u (b.2.1))) && (PySem.W.alike (py (v (a.2.2))) (py (v (b.2.2))) && true))) = true; rw [TAl.al (t := t), TAl.al (t := u), TAl.al (t := v)]; rfl⟩
instance {α β γ : Type} {t : α → D} {u : β → D} {v : γ → D} {k : α × β × γ → List Int} [TTok (yP3 t u v) k] [TAl (yP3 t u v)] : TOrd (yP3 t u v) (leK k) := ⟨fun a b => le_of_tok a b, fun a b => TAl.al (t := yP3 t u v) a b, .inl fun a => ⟨_, _, rfl⟩⟩
def kP4 {α β γ δ : Type} (k0 : α → List Int) (k1 : β → List Int) (k2 : γ → List Int) (k3 : δ → List Int) : α × β × γ × δ → List Int := fun p => 1 :: (k0 (p.1) ++ 1 :: (k1 (p.2.1) ++ 1 :: (k2 (p.2.2.1) ++ 1 :: (k3 (p.2.2.2) ++ [0]))))
instance {α β γ δ : Type} {t : α → D} {u : β → D} {v : γ → D} {w : δ → D} {k0 : α → List Int} {k1 : β → List Int} {k2 : γ → List Int} {k3 : δ → List Int} [TTok t k0] [TTok u k1] [TTok v k2] [TTok w k3] : TTok (yP4 t u v w) (kP4 k0 k1 k2 k3) := ⟨fun p => by
  show Sum.inl 1 :: (PySem.W.keyToks (py (t (p.1))) ++ Sum.inl 1 :: (PySem.W.keyToks (py (u (p.2.1))) ++ Sum.inl 1 :: (PySem.W.keyToks (py (v (p.2.2.1))) ++ Sum.inl 1 :: (PySem.W.keyToks (py (w (p.2.2.2))) ++ [Sum.inl 0])))) = _
  rw [TTok.tok (t := t), TTok.tok (t := u), TTok.tok (t := v), TTok.tok (t := w)]
  simp [kP4]⟩
instance {α β γ δ : Type} {t : α → D} {u : β → D} {v : γ → D} {w : δ → D} [TAl t] [TAl u] [TAl v] [TAl w] : TAl (yP4 t u v w) := ⟨fun a b => by show (PySem.W.alike (py (t (a.1))) (py (t (b.1))) && (PySem.W.alike (py (u (a.2.1))) (py (u (b.2.1))) && (PySem.W.alike (py (v (a.2.2.1))) (py (v (b.2.2.1))) && (PySem.W.alike (py (w (a.2.2.2))) (py (w (b.2.2.2))) && true)))) = true; rw [TAl.al (t := t), TAl.al (t := u), TAl.al (t := v), TAl.al (t := w)]; rfl⟩
instance {α β γ δ : Type} {t : α → D} {u : β → D} {v : γ → D} {w : δ → D} {k : α × β × γ × δ → List Int} [TTok (yP4 t u v w) k] [TAl (yP4 t u v w)] : TOrd (yP4 t u v w) (leK k) := ⟨fun a b => le_of_tok a b, fun a b => TAl.al (t := yP4 t u v w) a b, .inl fun a => ⟨_, _, rfl⟩⟩
def kP5 {α β γ δ ε : Type} (k0 : α → List Int) (k1 : β → List Int) (k2 : γ → List Int) (k3 : δ → List Int) (k4 : ε → List Int) : α × β × γ × δ × ε → List Int := fun p => 1 :: (k0 (p.1) ++ 1 :: (k1 (p.2.1) ++ 1 :: (k2 (p.2.2.1) ++ 1 :: (k3 (p.2.2.2.1) ++ 1 :: (k4 (p.2.2.2.2) ++ [0])))))
instance {α β γ δ ε : Type} {t : α → D} {u : β → D} {v : γ → D} {w : δ → D} {y : ε → D} {k0 : α → List Int} {k1 : β → List Int} {k2 : γ → List Int} {k3 : δ → List Int} {k4 : ε → List Int} [TTok t k0] [TTok u k1] [TTok v k2] [TTok w k3] [TTok y k4] : TTok (yP5 t u v w y) (kP5 k0 k1 k2 k3 k4) := ⟨fun p => by
  show Sum.inl 1 :: (PySem.W.keyToks (py (t (p.1))) ++ Sum.inl 1 :: (PySem.W.keyToks (py (u (p.2.1))) ++ Sum.inl 1 :: (PySem.W.keyToks (py (v (p.2.2.1))) ++ Sum.inl 1 :: (PySem.W.keyToks (py (w (p.2.2.2.1))) ++ Sum.inl 1 :: (PySem.W.keyToks (py (y (p.2.2.2.2))) ++ [Sum.inl 0]))))) = _
  rw [TTok.tok (t := t), TTok.tok (t := u), TTok.tok (t := v), TTok.tok (t := w), TTok.tok (t := y)]
  simp [kP5]⟩
instance {α β γ δ ε : Type} {t : α → D} {u : β → D} {v : γ → D} {w : δ → D} {y : ε → D} [TAl t] [TAl u] [TAl v] [TAl w] [TAl y] : TAl (yP5 t u v w y) := ⟨fun a b => by show (PySem.W.alike (py (t (a.1))) (py (t (b.1))) && (PySem.W.alike (py (u (a.2.1))) (py (u (b.2.1))) && (PySem.W.alike (py (v (a.2.2.1))) (py (v (b.2.2.1))) && (PySem.W.alike (py (w (a.2.2.2.1))) (py (w (b.2.2.2.1))) && (PySem.W.alike (py (y (a.2.2.2.2))) (py (y (b.2.2.2.2))) && true))))) = true; rw [TAl.al (t := t), TAl.al (t := u), TAl.al (t := v), TAl.al (t := w), TAl.al (t := y)]; rfl⟩
instance {α β γ δ ε : Type} {t : α → D} {u : β → D} {v : γ → D} {w : δ → D} {y : ε → D} {k : α × β × γ × δ × ε → List Int} [TTok (yP5 t u v w y) k] [TAl (yP5 t u v w y)] : TOrd (yP5 t u v w y) (leK k) := ⟨fun a b => le_of_tok a b, fun a b => TAl.al (t := yP5 t u v w y) a b, .inl fun a => ⟨_, _, rfl⟩⟩
section
variable {B : Bs} {sl : List Sl} {α β γ δ σ ρ τ : Type} {t : α → D}
theorem op_isN (h : ∀ a : α, t a ≠ .non) : Op1 (fun d S => dIsN false d .non S) (vP (yO t)) (vP yB) fun a => .ok a.isNone := fun a d S q => by
  cases q
  cases a with
  | none => exact ⟨_, rfl, rfl⟩
  | some a =>
    refine ⟨_, rfl, ?_⟩
    show D.bl (isNon (t a)) = D.bl false
    cases e : t a <;> first | rfl | exact absurd e (h a)
theorem xe_isi {b : Bool} {T : String} {P : α → D → Store → Prop} {m : M D} {f : R α} {f' : R Bool} (hk : ∀ a d S, P a d S → Out S (vP yB) (.ok b) (dIsi [d, .ty T] S)) (h : XE B sl m P f) (e : (f.bind fun _ => .ok b) = f' := by rfl) : XE B sl (eB dIsi (aCons m (aCons (eC (.ty T)) aNil))) (vP yB) f' := fun env S r => by
  rw [← e]
  unfold eB aCons aNil
  simp only [res_assoc, bind_ok, eC]
  exact Out.bind (h env S r) fun a d q => hk a d S q
theorem xe_isit {b : Bool} {T : String} {P : α → D → Store → Prop} {m : M D} {a : α} (hk : ∀ a d S, P a d S → Out S (vP yB) (.ok b) (dIsi [d, .ty T] S)) (h : XE B sl m P (.ok a)) : XE B sl (eB dIsi (aCons m (aCons (eC (.ty T)) aNil))) (vP yB) (.ok b) := xe_isi hk h
end
end Rf

namespace Rf
open PySem PySem.Spec PyProof.Rows L2
theorem ext_tup (l : Addr) (items : Array Value) (n : Nat) (b : Addr) (items2 : Array Value) (n2 : Nat) (dd : Option Addr) (sl : Array (Option Value))
    (hs0 : ¬(!items.isEmpty && Builtin.List.listTooLong (items.size + items2.size)) = true) (hs1 : items.size ≤ sizeLine) (hs2 : items.size + items2.size ≤ sizeLine + 1) :
    Meets (Builtin.«list.extend» ⟨[.ref l, .ref b], []⟩) (fun _ R s => s.heap.get? l = some { cls := .type "list", dict := none, data := .seq items n, slots := #[] } ∧
      s.heap.get? b = some { cls := .type "tuple", dict := dd, data := .seq items2 n2, slots := sl } ∧ R (.ok (.ret Value.none)) { s with heap := s.heap.update l (Obj.mapSeq fun x => x ++ items2), toks := s.toks }) :=
  .of_wp fun prog w A R s h => by
    obtain ⟨hp, g, d, tk, os⟩ := s
    obtain ⟨hl, hb, h⟩ := h
    have f1 := AutoSeq1.idx_int
    have f2 := AutoSeq1.sub_tuple_tuple
    have f3 := AutoSeq1.sub_list_list
    have f4 := AutoSeq1.sub_tuple_list
    have f5 := AutoSeq1.sub_list_tuple
    have hz' : (items ++ items2).size ≤ sizeLine + 1 := by
      rw [Array.size_append]
      exact hs2
    wp_walk using (wpAny_updateSeq hl rfl (hz := hs1) (_hz' := hz')), wpAny_loadPart' hl, wpAny_loadPart' hb
    exact ⟨_, rfl, h⟩
def rExt2 (K : PySem.W.Frag) : V → List V → Hp → VK → Prop := fun x vs H Q => ∃ (l b : Addr) (xs zs : List V), x = .ref l ∧ vs = [.ref b] ∧ H l = some (.lst xs) ∧ (H b = some (.lst zs) ∨ SqT K H b zs) ∧ xs.length + zs.length ≤ sizeLine ∧ Q .non (upd H l (.lst (xs ++ zs)))
theorem mt_ext2 {X : Cx} : MtR X "list.extend" (rExt2 X.K) := by
  intro pins s σ H x vs v us Q I rx rv h
  obtain ⟨l, b, xs, zs, rfl, rfl, hH, hB, hz, q⟩ := h
  rcases hB with hB | hB
  · exact mt_extend pins s σ H (.ref l) [.ref b] v us Q I rx rv ⟨l, b, xs, zs, rfl, rfl, hH, hB, hz, q⟩
  cases rx
  obtain ⟨u, rfl, ru⟩ := rv.one
  cases ru
  obtain ⟨z, its, n, r, hl, e⟩ := I.lstM hH
  obtain ⟨its2, r2, ⟨⟨cls, dd, data, sl⟩, ho, hc, n2, hd⟩, hs⟩ := I.tuple hB
  simp only at hc hd
  subst hc hd
  have hl2 : its2.length = zs.length := r2.length.symm
  have hsz : its.toArray.size + its2.toArray.size ≤ sizeLine := by
    have : its.length = xs.length := r.length.symm
    rw [List.size_toArray, List.size_toArray]
    omega
  have hno : ¬ (!its.toArray.isEmpty && Builtin.List.listTooLong (its.toArray.size + its2.toArray.size)) = true := by
    rw [notLongL hsz]
    simp
  refine call_meets PySem.F.slot_list_extend ⟨_, e, rfl⟩ PySem.F.entry_list_extend (PySem.F.args_list_extend_2 _ _) (ext_tup l its.toArray n b its2.toArray n2 dd sl hno (by rw [List.size_toArray]; rw [List.size_toArray, List.size_toArray] at hsz; omega) (by omega)) ⟨e, ho, ?_⟩
  refine ⟨.non, _, I.lset (its' := its ++ its2) hH e (by simp) (r.append r2) ?_, rfl, q⟩
  rw [List.length_append]
  rw [List.size_toArray, List.size_toArray] at hsz
  omega
def dExt (d : D) (xs : List D) (S : Store) : Res D := match cellOf S d, xs with
  | some (n, ds), [e] => (match seqOf S e with
    | some es => if ds.length + es.length ≤ big ∧ isFz e = false then .ok .non (S.set n (.lst (ds ++ es))) else .bad
    | none => .bad)
  | _, _ => .bad
where isFz : D → Bool
  | .fz _ => true
  | _ => false
theorem md_ext {K : PySem.W.Frag} : MtD K (rExt2 K) dExt := by
  intro G ρ H S d ds v vs E Q r x1 x2 h
  unfold dExt at h
  split at h
  · rename_i n xs e ec
    obtain ⟨rfl, eS⟩ := cellOf_some ec
    obtain ⟨a, rfl, ha⟩ := x1
    obtain ⟨w, _, rfl, q1, rfl⟩ := x2
    obtain ⟨ws, h1, h2⟩ := r.ob n _ a eS ha
    cases ee : seqOf S e with
    | none => rw [ee] at h; exact h.elim
    | some es =>
      rw [ee] at h
      dsimp only at h
      by_cases hl : xs.length + es.length ≤ big ∧ dExt.isFz e = false
      · rw [if_pos hl] at h
        obtain ⟨b, zs, rfl, hb, hzs⟩ : ∃ (b : Addr) (zs : List V), w = .ref b ∧ (H b = some (.lst zs) ∨ SqT K H b zs) ∧ RepL K G ρ H es zs := by
          cases e with
          | tup ys => cases ee; obtain ⟨b, zs, rfl, p1, p2⟩ := q1; exact ⟨b, zs, rfl, .inr (.inl p1), p2⟩
          | lst ys => cases ee; obtain ⟨b, zs, rfl, p1, p2⟩ := q1; exact ⟨b, zs, rfl, .inl p1.2.2, p2⟩
          | fz ys => exact (nomatch hl.2)
          | cell m =>
            unfold seqOf at ee
            dsimp only at ee
            cases eo : S[m]? with
            | none => rw [eo] at ee; cases ee
            | some o =>
              rw [eo] at ee
              cases o with
              | dK _ => cases ee
              | dI _ => cases ee
              | ins _ _ => cases ee
              | dS _ => cases ee
              | gone => cases ee
              | lst ys =>
                cases ee
                obtain ⟨b, rfl, hbm⟩ := q1
                obtain ⟨zs, p1, p2⟩ := r.ob m _ b eo hbm
                exact ⟨b, zs, rfl, .inl p1, p2⟩
          | _ => cases ee
        refine ⟨a, b, ws, zs, rfl, rfl, h1, hb, by rw [h2.length, hzs.length]; exact big_line hl.1, ?_⟩
        have k : Keep G ρ H ρ (upd H a (.lst (ws ++ zs))) := Keep.write (List.mem_of_getElem? ha) (r.ng a (List.mem_of_getElem? ha)) (.inl ⟨_, h1⟩)
        obtain ⟨r', k'⟩ := r.write (o := .lst (xs ++ es)) (u := .lst (ws ++ zs)) ha (.inl ⟨_, h1⟩) ⟨_, upd_same, RepL.keep k _ _ (h2.app hzs)⟩
        exact h .non ρ _ r' rfl k'
      · rw [if_neg hl] at h; exact h.elim
  · exact h.elim
theorem rep_flat (its : List Value) : ∀ (m : Nat) (acc : List Value), (List.foldl (fun x1 x2 => x1 ++ x2) acc.toArray (List.replicate m its.toArray)) = (acc ++ (List.replicate m its).flatten).toArray
  | 0, acc => by simp
  | m + 1, acc => by
    rw [List.replicate_succ, List.foldl_cons, List.append_toArray, rep_flat its m (acc ++ its), List.replicate_succ, List.flatten_cons, List.append_assoc]
def rMulT (K : PySem.W.Frag) : R2 := fun x y H Q => ∃ (l : Addr) (k : Int) (xs : List V), x = .ref l ∧ y = .int k ∧ SqT K H l xs ∧ xs ≠ [] ∧ 2 ≤ k ∧ k ≤ 1000 ∧ xs.length ≤ 1000 ∧ ∀ p (o : Obj), H p = none → o.dict = none → Q (.ref p) (upd H p (.frz o (.tup (List.replicate k.toNat xs).flatten)))
theorem vals_rep {its : List Value} {xs : List V} (r : Vals xs its) : ∀ m : Nat, Vals (List.replicate m xs).flatten (List.replicate m its).flatten
  | 0 => .nil
  | m + 1 => by
    rw [List.replicate_succ, List.flatten_cons, List.replicate_succ, List.flatten_cons]
    exact r.append (vals_rep r m)
theorem op_mulT {X : Cx} : OpR X (binaryOp .Mult) (rMulT X.K) := by
  intro pins s σ H x y v u Q I rx ry h
  obtain ⟨l, k, xs, rfl, rfl, hT, hne, h1, h2, hz, q⟩ := h
  cases rx
  obtain ⟨t, rfl⟩ := ry
  obtain ⟨its, r, ⟨⟨cls, dd, data, sl⟩, ho, hc, n, hd⟩, hs⟩ := I.tuple hT
  simp only at hc hd
  subst hc hd
  have hle : its.length = xs.length := r.length.symm
  have hi : its.toArray.isEmpty = false := by
    cases its with
    | nil => exact absurd (List.eq_nil_of_length_eq_zero hle.symm) hne
    | cons a b => rfl
  have hprod : ((its.toArray.size : Nat) : Int) * k ≤ 1000000 := by
    rw [List.size_toArray, hle]
    have : ((xs.length : Nat) : Int) * k ≤ 1000 * k := Int.mul_le_mul_of_nonneg_right (by omega) (by omega)
    omega
  have flen : ∀ {α : Type} (ys : List α), ys.length = xs.length → (List.replicate k.toNat ys).flatten.length ≤ 1000000 := fun ys hy => by
    rw [PyProof.Rows.lm_len_rep_flat, hy]
    have : k.toNat * xs.length ≤ 1000 * 1000 := Nat.mul_le_mul (by omega) hz
    omega
  have esz : (List.foldl (fun x1 x2 => x1 ++ x2) #[] (List.replicate k.toNat its.toArray)) = (List.replicate k.toNat its).flatten.toArray := by
    have := rep_flat its k.toNat []
    simpa using this
  have c0 : (decide (k < -(2 ^ 63)) || decide (k ≥ 2 ^ 63)) = false := by
    rw [decide_eq_false (by omega), decide_eq_false (by omega)]
    rfl
  have c1 : (its.toArray.isEmpty || k == 1) = false := by
    rw [hi]
    simp
    omega
  have c2 : (decide (k ≤ 0) || its.toArray.isEmpty) = false := by
    rw [hi]
    simp
    omega
  have c4 : Builtin.Tuple.tupleTooMany (((its.toArray.size : Nat) : Int) * k) = false := by
    unfold Builtin.Tuple.tupleTooMany
    rw [sizeLine_eq]
    apply decide_eq_false
    omega
  have W := tuple_mulW l its.toArray n dd sl k t c0 c1 c2 (by omega) c4 (by rw [esz, List.size_toArray, sizeLine_eq]; have := flen its hle; omega)
  rw [esz] at W
  refine wpAny_binaryOp_repeat_ref (T := "tuple") (U := "int") (by decide) ⟨_, ho, rfl⟩ (fun s' => typeIs_int s' k t) noFill_tuple_mul PySem.F.fills_int_mul PySem.F.slot_int_rmul repeat_tuple PySem.F.slot_int_index.lookup ?_
  refine call_meets PySem.F.slot_int_rmul (typeIs_int s k t) PySem.F.entry_int_rmul (PySem.F.args_int_rmul_2 _ _) (int_rmul_tuple k t l its.toArray n dd sl) ⟨ho, rfl, ⟨_, ho, rfl⟩, ?_⟩
  refine call_meets PySem.F.slot_tuple_mul ⟨_, ho, rfl⟩ PySem.F.entry_tuple_mul (PySem.F.args_tuple_mul_2 _ _) W ⟨ho, ?_⟩
  refine ⟨.ref s.heap.objs.size, _, I.laid (t' := s.toks) (o := .frz { cls := .type "tuple", data := .seq (List.replicate k.toNat its).flatten.toArray } (.tup (List.replicate k.toNat xs).flatten)) (fun b ob q => Heap.get?_push_of_some _ q) (Nat.le_refl _) ?_, rfl, q _ _ (I.hok.fresh (Nat.le_refl _)) rfl⟩
  exact ⟨Heap.get?_push_size _ rfl, by rw [sizeLine_eq]; have := flen xs rfl; omega, _, vals_rep r k.toNat, IsTup.new _ _⟩
theorem RepL.rep {K : PySem.W.Frag} {G : Addr → Prop} {ρ : List Addr} {H : Hp} {ds : List D} {vs : List V} (h : RepL K G ρ H ds vs) : ∀ m : Nat, RepL K G ρ H (List.replicate m ds).flatten (List.replicate m vs).flatten
  | 0 => rfl
  | m + 1 => by
    rw [List.replicate_succ, List.flatten_cons, List.replicate_succ, List.flatten_cons]
    exact h.app (RepL.rep h m)
def dMulT (d e : D) (S : Store) : Res D := match d, e with
  | .tup ds, .int k => if ds ≠ [] ∧ 2 ≤ k ∧ k ≤ 1000 ∧ ds.length ≤ 1000 then .ok (.tup (List.replicate k.toNat ds).flatten) S else .bad
  | _, _ => .bad
instance (ds : List D) : Decidable (ds ≠ []) := match ds with
  | [] => isFalse fun h => h rfl
  | _ :: _ => isTrue fun h => (nomatch h)
theorem od_mulT {K : PySem.W.Frag} : OpD K (rMulT K) dMulT := by
  intro G ρ H S d1 d2 v1 v2 E Q r x1 x2 h
  unfold dMulT at h
  split at h
  · rename_i ds k
    obtain ⟨a, vs, rfl, h1, h2⟩ := x1
    cases (show v2 = .int k from x2)
    by_cases hk : ds ≠ [] ∧ 2 ≤ k ∧ k ≤ 1000 ∧ ds.length ≤ 1000
    · rw [if_pos hk] at h
      have hl := h2.length
      refine ⟨a, k, vs, rfl, rfl, .inl h1, fun e => hk.1 (List.eq_nil_of_length_eq_zero (by rw [← hl, e]; rfl)), hk.2.1, hk.2.2.1, by rw [hl]; exact hk.2.2.2, fun p o hp ho => ?_⟩
      have k2 : Keep G ρ H ρ (upd H p (.frz o (.tup (List.replicate k.toNat vs).flatten))) := Keep.new hp r.gt
      exact h _ ρ _ (r.new hp ho) ⟨p, _, rfl, .inr ⟨o, upd_same⟩, RepL.keep k2 _ _ (h2.rep _)⟩ k2
    · rw [if_neg hk] at h; exact h.elim
  · exact h.elim
section
variable {B : Bs} {sl : List Sl} {α β γ σ : Type} {t : α → D}
theorem own_mt {f : D → List D → Store → Res D} {ma : M (List D)} {i : Nat} {l : List α} {β : Type} {P : β → List D → Store → Prop} {fa : R β} {g : β → R (List α)} {f' : R (List α)} (hi : sl[i]? = some (.c (l.map t))) (h : XE B sl ma P fa)
    (hf : ∀ b ds S n, P b ds S → S[n]? = some (.lst (l.map t)) → match g b with
      | .ok l' => f (.cell n) ds S = .ok .non (S.set n (.lst (l'.map t)))
      | .err _ => False
      | .bad => True) (e : (fa.bind fun b => g b) = f' := by rfl) : XN B sl (sExpr (eMt f isLst (eVar i) ma)) (fun l' => sl.set i (.c (l'.map t))) f' := fun env S r => by
  rw [← e]
  obtain ⟨n, e1, q⟩ := r.c hi
  obtain ⟨c1, c2, c3⟩ := cell_of q
  unfold sExpr eMt eVar
  rw [e1]
  dsimp only [bind_ok]
  rw [if_pos c3]
  have h1 := h env S r
  cases fa with
  | bad => trivial
  | err c => rw [show ma env S = _ from h1]; exact ⟨env, S, rfl, r.frm⟩
  | ok b =>
    obtain ⟨ds, q1, q2⟩ := h1
    rw [q1]
    dsimp only [bind_ok, R.ok_bind]
    have h2 := hf b ds S n q2 q
    cases hg : g b with
    | bad => trivial
    | err c => rw [hg] at h2; exact h2.elim
    | ok l' =>
      rw [hg] at h2
      dsimp only at h2
      rw [h2]
      exact ⟨env, _, rfl, r.wr _ hi e1 q⟩
theorem xa_nil : XE B sl aNil (vP fun _ : Unit => ([] : List D)) (.ok ()) := fun env S r => ⟨[], rfl, rfl⟩
def cP {α β : Type} (P : α → D → Store → Prop) (P' : β → List D → Store → Prop) : α × β → List D → Store → Prop := fun p ds S => ∃ d ds', ds = d :: ds' ∧ P p.1 d S ∧ P' p.2 ds' S
theorem xa_cons {P : α → D → Store → Prop} {P' : β → List D → Store → Prop} {m : M D} {ms : M (List D)} {f : R α} {g : R β} {f' : R (α × β)} (h : XE B sl m P f) (hs : XE B sl ms P' g) (e : (f.bind fun a => g.bind fun b => .ok (a, b)) = f' := by rfl) : XE B sl (aCons m ms) (cP P P') f' := fun env S r => by
  rw [← e]
  refine Out.bind (h env S r) fun a d q => Out.bind (hs env S r) fun b ds q' => ?_
  exact ⟨_, rfl, d, ds, rfl, q, q'⟩
@[irreducible] def extR {α : Type} (l l2 : List α) : R (List α) := if l.length + l2.length ≤ big then .ok (l ++ l2) else .bad
def eP {α : Type} (t : α → D) : List α → D → Store → Prop := fun l d S => seqOf S d = some (l.map t) ∧ dExt.isFz d = false
theorem XE.eL {m : M D} {f : R (List α)} (h : XE B sl m (vP (yL t)) f) : XE B sl m (eP t) f := fun env S r => (h env S r).imp fun a d q => by cases q; exact ⟨rfl, rfl⟩
theorem xn_ext {m : M D} {f : R (List α)} {f' : R (List α)} {l : List α} (i : Nat) (hi : sl[i]? = some (.c (l.map t))) (h : XE B sl m (eP t) f) (e : (f.bind fun a => extR l a) = f' := by rfl) : XN B sl (sExpr (eMt dExt isLst (eVar i) (aCons m aNil))) (fun l' => sl.set i (.c (l'.map t))) f' := by
  refine own_mt (fa := f.bind fun a => .ok (a, ())) (g := fun p => extR l p.1) hi (xa_cons h xa_nil) ?_ ?_
  · rintro ⟨a, u⟩ ds S n ⟨d, ds', rfl, q1, q2⟩ hn
    cases q2
    unfold extR dExt
    rw [(cell_of hn).1]
    dsimp only
    rw [q1.1]
    dsimp only
    rw [List.length_map, List.length_map]
    by_cases hl : l.length + a.length ≤ big
    · rw [if_pos hl, if_pos ⟨hl, q1.2⟩]
      dsimp only
      rw [List.map_append]
    · rw [if_neg hl]; trivial
  · rw [← e]; cases f <;> rfl
@[irreducible] def mulT {α : Type} (l : List α) (k : Int) : R (List α) := if l.length ≠ 0 ∧ 2 ≤ k ∧ k ≤ 1000 ∧ l.length ≤ 1000 then .ok (List.replicate k.toNat l).flatten else .bad
theorem map_rep (t : α → D) (l : List α) : ∀ m : Nat, (List.replicate m (l.map t)).flatten = (List.replicate m l).flatten.map t
  | 0 => rfl
  | m + 1 => by rw [List.replicate_succ, List.flatten_cons, map_rep t l m, List.replicate_succ, List.flatten_cons, List.map_append]
theorem op_mulTt : Op2 dMulT (vP (yT t)) (vP yI) (vP (yT t)) mulT := fun l k d e S h1 h2 => by
  cases h1; cases h2
  unfold mulT dMulT yT yI
  dsimp only
  rw [List.length_map]
  by_cases h : l.length ≠ 0 ∧ 2 ≤ k ∧ k ≤ 1000 ∧ l.length ≤ 1000
  · rw [if_pos h, if_pos ⟨fun z => h.1 (by have := congrArg List.length z; simpa using this), h.2⟩]
    exact ⟨_, rfl, by rw [map_rep]; rfl⟩
  · rw [if_neg h]; trivial
abbrev PD : Type := { d : D // pureD d = true }
def yA : PD → D := fun x => x.1
instance : TPu yA := ⟨fun x => x.2⟩
instance : TNc yA := ⟨fun x S => by
  obtain ⟨d, h⟩ := x
  cases d <;> first | rfl | cases h⟩
def toA {α : Type} (t : α → D) [TPu t] (a : α) : PD := ⟨t a, TPu.pu a⟩
theorem asA [TPu t] (a : α) (d : D) (S : Store) (h : vP t a d S) : vP yA (toA t a) d S := h
def isiA (T : String) (x : PD) : R Bool := match tyN x.1 with
  | some a => (match isiT a T with
    | some b => .ok b
    | none => .bad)
  | none => .bad
theorem xe_isiA {T : String} {m : M D} {f : R PD} {f' : R Bool} (h : XE B sl m (vP yA) f) (e : (f.bind fun x => isiA T x) = f' := by rfl) : XE B sl (eB dIsi (aCons m (aCons (eC (.ty T)) aNil))) (vP yB) f' := fun env S r => by
  rw [← e]
  unfold eB aCons aNil
  simp only [res_assoc, bind_ok, eC]
  refine Out.bind (h env S r) fun a d q => ?_
  cases q
  unfold dIsi isiA
  dsimp only
  show Out S (vP yB) (match tyN a.1 with | some a => (match isiT a T with | some b => R.ok b | none => R.bad) | none => R.bad) (match tyN a.1 with | some a => (match isiT a T with | some b => Res.ok (D.bl b) S | none => Res.bad) | none => Res.bad)
  cases tyN a.1 with
  | none => trivial
  | some k =>
    dsimp only
    cases isiT k T with
    | none => trivial
    | some b => exact ⟨_, rfl, rfl⟩
theorem xe_isiAt {T : String} {m : M D} {x : PD} {f' : R Bool} (h : XE B sl m (vP yA) (.ok x)) (e : isiA T x = f' := by rfl) : XE B sl (eB dIsi (aCons m (aCons (eC (.ty T)) aNil))) (vP yB) f' := xe_isiA h e
theorem pure_of_mem : ∀ {ds : List D} {d : D}, pureL ds = true → d ∈ ds → pureD d = true
  | [], d, _, h => (nomatch h)
  | x :: ds, d, hp, h => by
    have : (pureD x && pureL ds) = true := hp
    rw [Bool.and_eq_true] at this
    rcases List.mem_cons.mp h with rfl | h
    · exact this.1
    · exact pure_of_mem this.2 h
def itsD : D → Option (List D)
  | .tup ds => some ds
  | .lst ds => some ds
  | .fz ds => some ds
  | _ => none
theorem itsD_pure {x : PD} {ds : List D} (h : itsD x.1 = some ds) : pureL ds = true := by
  obtain ⟨d, hp⟩ := x
  cases d <;> first | (cases h; exact hp) | cases h
theorem itsD_seq {x : PD} {S : Store} : seqOf S x.1 = itsD x.1 := by
  obtain ⟨d, hp⟩ := x
  cases d <;> first | rfl | cases hp
def attA : (ds : List D) → pureL ds = true → List PD
  | [], _ => []
  | d :: ds, h => ⟨d, pure_of_mem h List.mem_cons_self⟩ :: attA ds (by have : (pureD d && pureL ds) = true := h; rw [Bool.and_eq_true] at this; exact this.2)
theorem attA_map : ∀ (ds : List D) (h : pureL ds = true), (attA ds h).map yA = ds
  | [], _ => rfl
  | d :: ds, h => by unfold attA; rw [List.map_cons, attA_map ds]; rfl
def itemsA (x : PD) : R (List PD) := match e : itsD x.1 with
  | some ds => .ok (attA ds (itsD_pure e))
  | none => .bad
def lenA (x : PD) : R Int := match itsD x.1 with
  | some ds => .ok (ds.length : Int)
  | none => .bad
theorem bf_lenA : ∀ x d S, vP yA x d S → Out S (vP yI) (lenA x) (dLen [d] S) := fun x d S h => by
  cases h
  unfold dLen lenA
  dsimp only
  show Out S _ _ (match seqOf S x.1 with | some xs => Res.ok (D.int (xs.length : Nat)) S | none => Res.bad)
  rw [itsD_seq]
  cases itsD x.1 with
  | none => trivial
  | some ds => exact ⟨_, rfl, rfl⟩
theorem atI_mem {α : Type} {l : List α} {i : Int} {x : α} (h : atI l i = some x) : x ∈ l := by
  unfold atI at h
  cases e : ixN l.length i with
  | none => rw [e] at h; cases h
  | some j => rw [e] at h; exact List.mem_of_getElem? h
def ixA (x : PD) (i : Int) : R PD := match e : itsD x.1 with
  | some ds => (match e2 : atI ds i with
    | some d => .ok ⟨d, pure_of_mem (itsD_pure e) (atI_mem e2)⟩
    | none => .bad)
  | none => .bad
theorem op_ixA : Op2 dIx (vP yA) (vP yI) (vP yA) ixA := fun x i d e S h1 h2 => by
  cases h1; cases h2
  unfold ixA
  split
  · rename_i ds ed
    split
    · rename_i y ey
      refine ⟨y, ?_, rfl⟩
      unfold dIx
      rw [show seqOf S (yA x) = some ds from itsD_seq.trans ed]
      show (match atI ds i with | some x => Res.ok x S | none => Res.bad) = _
      rw [ey]
    · trivial
  · trivial
def intA (x : PD) : R Int := match x.1 with
  | .int i => .ok i
  | _ => .bad
theorem XE.toI {m : M D} {f : R PD} {f' : R Int} (h : XE B sl m (vP yA) f) (e : (f.bind fun x => intA x) = f' := by rfl) : XE B sl m (vP yI) f' := fun env S r => by
  rw [← e]
  have := h env S r
  cases f with
  | bad => trivial
  | err c => exact this
  | ok x =>
    obtain ⟨d, q1, q2⟩ := this
    cases q2
    dsimp only [R.ok_bind]
    obtain ⟨x, hx⟩ := x
    cases x with
    | int i => exact ⟨_, q1, rfl⟩
    | _ => trivial
theorem xi_A {m : M D} {f : R PD} {f' : R (List PD)} (h : XE B sl m (vP yA) f) (e : (f.bind fun x => itemsA x) = f' := by rfl) : XE B sl (iSeq m) (i0 yA) f' := fun env S r => by
  rw [← e]
  unfold iSeq
  refine Out.bind (h env S r) fun x d q => ?_
  cases q
  unfold itemsA
  split
  · rename_i ds ed
    refine ⟨⟨ds, []⟩, ?_, ?_⟩
    · have : fIt S (yA x) = some ⟨ds, []⟩ := by
        obtain ⟨x, hx⟩ := x
        cases x <;> first | (cases ed; rfl) | cases ed
      rw [this]
    · show IT.mk ds [] = IT.mk ((attA ds _).map yA) []
      rw [attA_map]
  · trivial
theorem XI.conv {E : σ → List Sl} {m : M β} {P : α → β → Store → Prop} {P' : γ → β → Store → Prop} {f : R (α × σ)} {f' : R (γ × σ)} (h : XI B sl E m P f) (c : α → γ) (hc : ∀ a d S, P a d S → P' (c a) d S) (e : (f.bind fun p => .ok (c p.1, p.2)) = f' := by rfl) : XI B sl E m P' f' := fun env S r => by
  rw [← e]
  have := h env S r
  cases f with
  | bad => trivial
  | err c => exact this
  | ok x => obtain ⟨a, s⟩ := x; obtain ⟨d, S', q1, q2, q3⟩ := this; exact ⟨d, S', q1, hc a d S' q2, q3⟩
theorem xi_r1t {m : M D} {n : Int} {f' : R (List Int)} (h : XE B sl m (vP yI) (.ok n)) (e : rng1R n = f' := by rfl) : XE B sl (iR1 (aCons m aNil)) (i0 yI) f' := xi_r1 h e
theorem op_i2A {f : D → D → Store → Res D} {g : Int → Int → R γ} {P : γ → D → Store → Prop} (h : Op2 f (vP yI) (vP yI) P g) (hb : True) : Op2 f (vP yA) (vP yI) P fun x b => (intA x).bind fun a => g a b := fun x b d e S h1 h2 => by
  obtain ⟨x, hx⟩ := x
  cases x with
  | int i => exact h i b d e S h1 h2
  | _ => trivial
end
end Rf

namespace Rf
open PySem PySem.Spec PyProof.Rows L2
section
variable {α β γ σ ρ : Type}
theorem R.okb (a : α) (f : α → R β) : (R.ok a).bind f = f a := Eq.trans (Eq.refl _) (Eq.refl _)
theorem R.assoc (f : R α) (g : α → R β) (h : β → R γ) : (f.bind g).bind h = f.bind fun a => (g a).bind h := by cases f <;> rfl
theorem R.ret (f : R α) : (f.bind fun a => .ok a) = f := by cases f <;> rfl
theorem bd {f : R α} {a : α} (h : f = .ok a) (g : α → R β) : f.bind g = g a := by rw [h]; rfl
theorem forL_same {step : Unit → α → R (Lp Unit ρ)} (l : List α) (h : ∀ x ∈ l, step () x = .ok (.go ())) : forL step l () = .ok (.go ()) := by
  induction l with
  | nil => rfl
  | cons x l ih => unfold forL; rw [bd (h x List.mem_cons_self)]; exact ih fun y hy => h y (List.mem_cons_of_mem _ hy)
theorem compR_ok {fc : α → R Bool} {fe : α → R β} (c : α → Bool) (g : α → β) : ∀ l : List α, (∀ x ∈ l, fc x = .ok (c x)) → (∀ x ∈ l, c x = true → fe x = .ok (g x)) → compR fc fe l = .ok ((l.filter c).map g)
  | [], _, _ => rfl
  | x :: l, h1, h2 => by
    have ih := compR_ok c g l (fun y hy => h1 y (List.mem_cons_of_mem _ hy)) (fun y hy => h2 y (List.mem_cons_of_mem _ hy))
    unfold compR
    rw [h1 x List.mem_cons_self]
    cases hc : c x with
    | true => dsimp only; rw [h2 x List.mem_cons_self hc, ih, List.filter_cons_of_pos hc]; rfl
    | false => dsimp only; rw [ih, List.filter_cons_of_neg (by rw [hc]; decide)]
theorem compB_ok {fc : α → R Bool} {fe : α → R β} (c : α → Bool) (g : α → β) {l : List α} (hl : l.length ≤ 1000000) (h1 : ∀ x ∈ l, fc x = .ok (c x)) (h2 : ∀ x ∈ l, c x = true → fe x = .ok (g x)) : compB fc fe l = .ok ((l.filter c).map g) := by
  unfold compB
  rw [if_pos (show l.length ≤ big from hl)]
  exact compR_ok c g l h1 h2
theorem lrR_ok {n : Int} (h0 : -1000000 ≤ n) (h : n ≤ 1000000) : lrR n = .ok (rng1 n) := by unfold lrR; rw [if_pos ⟨h, h0⟩]
theorem mem_rng1 {n x : Int} : x ∈ rng1 n ↔ 0 ≤ x ∧ x < n := by
  unfold rng1
  rw [List.mem_map]
  constructor
  · rintro ⟨i, hi, rfl⟩; have := List.mem_range.mp hi; omega
  · intro h; exact ⟨x.toNat, List.mem_range.mpr (by omega), by omega⟩
theorem rng1_len (n : Int) : (rng1 n).length = n.toNat := by unfold rng1; simp
end
end Rf

namespace Rf
open PySem PySem.Spec PyProof.Rows L2
section
variable {P : Program} {w : World} {K : PySem.W.Frag} {G : Addr → Prop} {ρ : List Addr} {H : Hp} {h : Heap}
end
def CRp (p : PyData) : Prop := p.showable = true ∧ p.depth ≤ 60 ∧ p.shown.length ≤ sizeLine
instance (p : PyData) : Decidable (CRp p) := by unfold CRp; infer_instance
theorem bf_lenP {α : Type} {t : α → D} (n : Int) (hp : ∀ a, ∃ ds, t a = .tup ds ∧ (ds.length : Int) = n) : ∀ (a : α) d S, vP t a d S → Out S (vP yI) (.ok n) (dLen [d] S) := fun a d S h => by
  cases h
  obtain ⟨ds, e1, e2⟩ := hp a
  unfold dLen
  rw [e1]
  exact ⟨_, rfl, by rw [← e2]; rfl⟩
theorem eqv_str (a b : Str) : PyData.eqv (.str a) (.str b) = decide (a = b) := by
  by_cases h : a = b
  · subst h; rw [decide_eq_true rfl]; simp [PyData.eqv]
  · rw [decide_eq_false h]; simp [PyData.eqv, h]
@[irreducible] def eqS (a b : Str) : R Bool := if (PyData.strOk a && PyData.strOk b) = true then .ok (decide (a = b)) else .bad
theorem op_eqS : Op2 dEq (vP yS) (vP yS) (vP yB) eqS := fun a b d e S h1 h2 => by
  cases h1; cases h2
  unfold eqS
  by_cases h : (PyData.strOk a && PyData.strOk b) = true
  · rw [if_pos h]
    rw [Bool.and_eq_true] at h
    exact ⟨_, dEq_of (d := .str a) (e := .str b) h.1 h.2, congrArg D.bl (eqv_str a b)⟩
  · rw [if_neg h]; trivial
theorem op_neS : Op2 dNe (vP yS) (vP yS) (vP yB) fun a b => (eqS a b).bind fun c => .ok (!c) := fun a b d e S h1 h2 => by
  cases h1; cases h2
  dsimp only
  unfold eqS
  by_cases h : (PyData.strOk a && PyData.strOk b) = true
  · rw [if_pos h]
    rw [Bool.and_eq_true] at h
    exact ⟨_, dNe_of (d := .str a) (e := .str b) h.1 h.2, congrArg (fun z => D.bl (!z)) (eqv_str a b)⟩
  · rw [if_neg h]; trivial
end Rf

namespace Rf
open PySem PySem.Spec PyProof.Rows L2
end Rf

namespace Rf
open PySem PySem.Spec PyProof.Rows L2
structure Cls (K : PySem.W.Frag) (mg : Str → Option Value) (x : Str) (C : Addr) : Prop where
  ns : PySem.W.nsIn K mainGlobals x = some (some (.ref C))
  gl : mg x = some (.ref C)
  kept : PySem.W.keepIn K (.ref C) = true
  ex : PySem.W.excIn K C [.type "ValueError", .type "Exception", .type "BaseException", .type "object"] "ValueError.__new__" = true
  ty : PySem.W.typeIn K (.ref C) = some (.type "type")
  ec : ExcC K C
section
variable {X : Cx} {cA : Nat → Addr} {W : WX}
def sRaise (c : Nat) : MS := fun env S => .err c env S
theorem js_raise {x m : Str} {j : Nat} {p p2 pos pos' : Pos} (c : Nat) (hc : X.calm = true) (tk : Takes X W) (h : Cls X.K X.mg x (cA c)) (hg : Gl X x) (hdb : (x == ("__debug__" : Str)) = false := by decide) : PS X (.Raise (some (.Call (.Name x p) [.Constant (.str m) j p2] [] pos)) none pos') (tS X.K cA W (sRaise c)) :=
  ps_imp (ps_raise hc tk (pmk_own PySem.F.excBase_ValueError h.ex h.gl h.kept (raises_own h.ec.hs h.ty) hg hdb)) fun D σ H ⟨G, ρ, env, S, hE, hS, q⟩ => q σ ρ H hE hS Keep.refl
theorem je_cls {x : Str} {C : Addr} {pos : Pos} (hg : Gl X x) (h : Cls X.K X.mg x C) (hd : (x == ("__debug__" : Str)) = false := by decide) : PE X (.Name x pos) (tE X.K cA W (eC (.cl x))) :=
  pe_imp (pe_glob (v := .ref C) hg h.gl rfl hd) fun _ _ _ ⟨_, _, _, _, _, hS, q⟩ => q.now hS (ClV.mk h.ns)
end
def hTry (ct : Nat → Option Bool) (cn : Nat → Str) (i : Nat) (ms : MS) (c : Nat) (e : En) (S : Store) : RS := match ct c with
  | some true => (match ms (e.set i (some (.exc (cn c)))) S with
    | .next e2 S2 => .next (e2.set i none) S2
    | .ret d S2 => .ret d S2
    | .brk e2 S2 => .brk (e2.set i none) S2
    | .cont e2 S2 => .cont (e2.set i none) S2
    | .err _ _ _ => .bad
    | .bad => .bad)
  | some false => .err c e S
  | none => .bad
def sTry (mb : MS) (ct : Nat → Option Bool) (cn : Nat → Str) (i : Nat) (ms : MS) : MS := fun env S => match mb env S with
  | .err c e S' => hTry ct cn i ms c e S'
  | r => r
theorem RelE.unset {K : PySem.W.Frag} {G : Addr → Prop} {ρ : List Addr} {H : Hp} {env : En} {σ : L2.St} (r : RelE K G ρ H env σ) (i : Nat) : RelE K G ρ H (env.set i none) (σ.set i none) := by
  refine ⟨by rw [List.length_set, List.length_set]; exact r.len, fun j d e => ?_⟩
  by_cases hj : i = j
  · subst hj
    by_cases hl : i < env.length
    · rw [List.getElem?_set_self hl] at e; cases e
    · rw [List.getElem?_eq_none (by rw [List.length_set]; omega)] at e; cases e
  · rw [List.getElem?_set_ne hj] at e ⊢
    exact r.get j d e
section
variable {X : Cx} {cA : Nat → Addr} {Wout : WX}
def wTry (K : PySem.W.Frag) (cA : Nat → Addr) (Wout : WX) (ct : Nat → Option Bool) (cn : Nat → Str) (i : Nat) (ms : MS) (D : L2.Ends) : WX := fun cls d σ H =>
  ∃ c e S G ρ, cls = .ref (cA c) ∧ d = none ∧ RelE K G ρ H e σ ∧ RelS K G ρ S H ∧ OkS K cA Wout G ρ H D (hTry ct cn i ms c e S)
def goneE (i : Nat) (D : L2.Ends) : L2.Ends := { nx := fun σ H => D.nx (σ.set i none) H, rt := D.rt, bk := fun σ H => D.bk (σ.set i none) H, ct := fun σ H => D.ct (σ.set i none) H }
theorem inv_hand {pins : List (Addr × Obj)} {σ : L2.St} {H : Hp} {s : Shared} (I : Inv X pins σ H s) (a : Addr) : Inv (X.suite a (X.pn ++ pins)) [] σ H s :=
  ⟨I.ok.suite _ _, I.os, I.bare, I.base, I.loc, I.cell, I.free, I.freeC, fun p hp => I.pin p (by rwa [List.append_nil] at hp), I.hok, I.len⟩
theorem inv_back {pins pn' : List (Addr × Obj)} {σ : L2.St} {H : Hp} {s : Shared} {a : Addr} (ok : X.Ok) (I : Inv (X.suite a (X.pn ++ pins)) pn' σ H s) : Inv X pins σ H s :=
  ⟨ok, I.os, I.bare, I.base, I.loc, I.cell, I.free, I.freeC, fun q hq => I.pin q (List.mem_append_left _ hq), I.hok, I.len⟩
theorem js_try {x n : Str} {cv : Value} {i : Nat} {body suite : List Stmt} {b₀ : Stmt} {np pos pos' : Pos} {mb ms : MS} {ct : Nat → Option Bool} {cn : Nat → Str} (hs : X.stack = X.env :: X.outer) (hf : X.env.frame = some X.env.locals) (hN : X.N.Nodup) (hi : X.N[i]? = some n) (hln : X.env.kindOf n = some .local) (hc : Names X x cv) (tk : Takes X Wout)
    (hx : ∀ c b, ct c = some b → PySem.W.exmOne X.K (.ref (cA c)) cv = some b) (hn : ∀ c, ct c = some true → PySem.W.nsIn X.K mainGlobals (cn c) = some (some (.ref (cA c))))
    (hb : ∀ (W : WX) (pn : List (Addr × Obj)) (xe : Value → Shared → Prop), Takes (X.tr pn xe) W → PassesOwn (model X.prog X.w) X.A X.env xe → PSs (X.tr pn xe) body (tS X.K cA W mb))
    (hsu : ∀ (a : Addr) (pn : List (Addr × Obj)), PSs (X.suite a pn) (b₀ :: suite) (tS X.K cA (fun _ _ _ _ => False) ms)) :
    PS X (.Try body [.ExceptHandler (some (.Name x np)) (some n) (b₀ :: suite) pos'] [] [] pos) (tS X.K cA Wout (sTry mb ct cn i ms)) := by
  refine ⟨fun pins s σ H D I hpre => ?_⟩
  have ok := I.ok
  have frm : X.A.frames = some (X.env :: X.outer) := by rw [ok.frames, hs]
  have isl : Loc X.env.scope n := .inl hln
  -- the body's own reading
  have hbody : tS X.K cA (wTry X.K cA Wout ct cn i ms D) mb D σ H := by
    obtain ⟨G, ρ, env, S, hE, hS, q⟩ := hpre
    refine ⟨G, ρ, env, S, hE, hS, ?_⟩
    unfold sTry at q
    cases hm : mb env S with
    | err c e S' =>
      rw [hm] at q
      exact fun σ' ρ' H' r1 r2 k => ⟨c, e, S', G, ρ', rfl, rfl, r1, r2, q.keep k⟩
    | next e S' => rw [hm] at q; exact q
    | ret d S' => rw [hm] at q; exact q
    | brk e S' => rw [hm] at q; exact q
    | cont e S' => rw [hm] at q; exact q
    | bad => rw [hm] at q; exact q
  refine wpAny_Try_except ?_
  refine wpAny_mono ((hb (wTry X.K cA Wout ct cn i ms D) (X.pn ++ pins) (fun e s₁ => wpAny (model X.prog X.w) X.A (noteFrame e X.env) (fun _ s₂ => wpAny (model X.prog X.w) X.A (setFlight e none) (fun _ s₃ =>
    wpAny (model X.prog X.w) X.A (handleBy e X.env [.ExceptHandler (some (.Name x np)) (some n) (b₀ :: suite) pos']) (SP X pins D) X.xe s₃) X.xe s₂) X.xe s₁) (fun u s' air => ?_) PassesOwn.looking).run [] s σ H D (I.toTry _) hbody) (fun f s1 fin => ?_) (fun _ _ z => z)
  · obtain ⟨a, B, sI, pins', σ', H', cls, d, rfl, J0, nb, up, sky, na, os, ag, c, e, S, G, ρ, rfl, rfl, rE, rS, okh⟩ := air
    have J : Inv X pins σ' H' sI := J0.ofTry ok
    have skyX : Sky B (X.env :: X.outer) a (Zc (.ref (cA c)) none) X.env.locals s'.heap := by rw [← hs]; exact sky
    show wpAny (model X.prog X.w) X.A (noteFrame (.ref a) X.env) _ X.xe s'
    refine Sky.land Zc.steady frm hf skyX fun h1 fl1 up1 => ?_
    have J1 : Inv X pins σ' H' { s' with heap := h1 } := J.landed nb fl1.1 (up.trans up1) os ag
    obtain ⟨oe1, vs1, at1, zc1, fd1⟩ := fl1.there
    have notF : a ∉ frs (X.env :: X.outer) := fun hm => by
      obtain ⟨_, o', e', hnf⟩ := fl1.2.2.1.mem hm
      rw [at1] at e'; cases e'
      exact hnf _ fd1
    cases hct : ct c with
    | none => unfold hTry at okh; rw [hct] at okh; exact okh.elim
    | some b =>
      have hmt := hx c b hct
      have S1 := inv_hand J1 a
      refine wpAny_handleBy_cons (codeAny_handlers_test ?_) (by intro z; cases z)
      have lookT : PySem.W.Looks (model X.prog X.w) h1 (typeOf (.ref a)) (.ref (cA c)) := fun A Q E s k q => wpAny_typeOf_ref (k _ _ at1) (by rw [zc1.1]; exact q)
      have lookM := PySem.W.exm_one (M := model X.prog X.w) (J1.kIn) lookT hmt
      have named : ∀ {Q : Value → Shared → Prop} {E : Value → Shared → Prop}, Q cv { s' with heap := h1 } → wpAny (model X.prog X.w) (X.A.mark (some (.ref a))) (eval (.Name x np) X.env) Q E { s' with heap := h1 } := fun {Q E} q => by
        obtain ⟨hg, hdb, hm | ⟨hm, hv, hnn⟩⟩ := hc
        · exact ld_glob (X := X.suite a (X.pn ++ pins)) S1 hg hm q hdb
        · exact ld_blt (X := X.suite a (X.pn ++ pins)) S1 hg hm hv q hnn hdb
      refine named (lookM.here ?_)
      cases b with
      | true =>
        refine codeAny_handlers_suite_as (HandSPX.lands_againZ fl1 fun h2 fl2 up2 => ?_)
        obtain ⟨oe2, vs2, at2, zc2, fd2⟩ := fl2.there
        have noI : sI.heap.get? a = none := by
          cases q : sI.heap.get? a with
          | none => rfl
          | some o =>
            have z := nb a o q (by rw [hs]; exact notF)
            rw [fl2.2.1] at z
            cases z
        obtain ⟨Gh, g1, g2⟩ := restrict h2 fun b => decide (b ≠ a)
        have ga : Gh.get? a = none := g2 a (decide_eq_false fun z => z rfl)
        have gn : ∀ b, b ≠ a → Gh.get? b = h2.get? b := fun b hb => g1 b (decide_eq_true hb)
        have JG : Inv X pins σ' H' { s' with heap := Gh } := J.landed nb
          (fun b o q => by
            have hb : b ≠ a := fun z => by rw [z, fl2.2.1] at q; cases q
            show Gh.get? b = some o
            rw [gn b hb]
            exact fl2.1 b o q)
          (fun b o q hd => by
            have hb : b ≠ a := fun z => by rw [z, noI] at q; cases q
            obtain ⟨sl, z⟩ := ((up.trans up1).trans up2) b o q hd
            exact ⟨sl, by show Gh.get? b = _; rw [gn b hb]; exact z⟩) os ag
        have J2 : Inv X pins σ' (upd H' a (.frz oe2 (.ext fun _ => True))) { s' with heap := h2 } := JG.laidN (h' := h2) (t' := s'.toks) (fun b u q => by
            have hb : b ≠ a := fun z => by rw [z] at q; rw [show Gh.get? a = some u from q] at ga; cases ga
            rw [← gn b hb]; exact q) ga na ⟨at2, trivial, ⟨_, at2⟩, fun _ _ _ _ => trivial⟩
        have S2 := inv_hand J2 a
        refine store_ok (X := X.suite a (X.pn ++ pins)) (v := .ref a) S2 hN hi isl rfl (fun s3 S3 => ?_) (.inr hln)
        have k2 : Keep G ρ H' ρ (upd H' a (.frz oe2 (.ext fun _ => True))) := Keep.new na rS.gt
        have run : tS X.K cA (fun _ _ _ _ => False) ms (goneE i D) (σ'.set i (some (.ref a))) (upd H' a (.frz oe2 (.ext fun _ => True))) := by
          refine ⟨G, ρ, e.set i (some (.exc (cn c))), S, (rE.keep k2).set (ExV.mk (hn c hct) ⟨oe2, _, upd_same, zc2, vs2, fd2⟩), rS.new na, ?_⟩
          unfold hTry at okh
          rw [hct] at okh
          dsimp only at okh
          cases hm : ms (e.set i (some (.exc (cn c)))) S with
          | next e2 S2 => rw [hm] at okh; exact fun σ3 ρ3 H3 r1 r2 k3 => okh _ ρ3 H3 (r1.unset i) r2 (k2.trans k3)
          | ret d S2 => rw [hm] at okh; exact fun v ρ3 H3 r1 r2 k3 => okh v ρ3 H3 r1 r2 (k2.trans k3)
          | brk e2 S2 => rw [hm] at okh; exact fun σ3 ρ3 H3 r1 r2 k3 => okh _ ρ3 H3 (r1.unset i) r2 (k2.trans k3)
          | cont e2 S2 => rw [hm] at okh; exact fun σ3 ρ3 H3 r1 r2 k3 => okh _ ρ3 H3 (r1.unset i) r2 (k2.trans k3)
          | err c' e2 S2 => rw [hm] at okh; exact okh.elim
          | bad => rw [hm] at okh; exact okh.elim
        refine wpAny_mono ((hsu a (X.pn ++ pins)).run [] s3 _ _ _ S3 run) (fun f s4 fin => ?_) (fun _ _ z => False.elim z)
        have endS : ∀ {σ6 : L2.St} {H6 : Hp} {Q : Shared → Prop}, Inv (X.suite a (X.pn ++ pins)) [] σ6 H6 s4 → (∀ s7, Inv X pins (σ6.set i none) H6 s7 → Q s7) →
            wpAny (model X.prog X.w) X.A (do bindName X.env n .none; unbindBehindTheSuite X.env n pos') (fun _ s7 => Q s7) X.xe s4 := fun {σ6 H6 Q} S6 hq => gone_ok (inv_back ok S6) hN hi hln hq
        cases f with
        | next => obtain ⟨σ6, H6, S6, q6⟩ := fin; exact endS S6 fun s7 J7 => ⟨_, _, J7, q6⟩
        | brk => obtain ⟨σ6, H6, S6, q6⟩ := fin; exact endS S6 fun s7 J7 => ⟨_, _, J7, q6⟩
        | cont => obtain ⟨σ6, H6, S6, q6⟩ := fin; exact endS S6 fun s7 J7 => ⟨_, _, J7, q6⟩
        | ret u => obtain ⟨v6, σ6, H6, S6, r6, q6⟩ := fin; exact endS S6 fun s7 J7 => ⟨_, _, _, J7, r6, q6⟩
      | false =>
        show wpAny _ X.A (handleBy (.ref a) X.env []) _ X.xe _
        refine wpAny_handleBy_nil (E := X.xe) ?_
        obtain ⟨k1, k2, k3, oe, vs, Tb, oT, ts', he, hz, hd, ht1, hr⟩ := id fl1
        unfold PySem.passOn
        refine wpAny_bind (wpAny_field he hd ht1 ?_)
        rw [if_neg (show ¬ ((Value.ref Tb == Value.none) = true) from by simp)]
        have hW : Wout (.ref (cA c)) none σ' H' := by
          unfold hTry at okh
          rw [hct] at okh
          exact okh σ' ρ H' rE rS Keep.refl
        have again : wpAny (model X.prog X.w) X.A (setFlight (.ref a) X.env.frame) (fun _ s4 => wpAny (model X.prog X.w) X.A (throw (.ref a) : Sem Flow) (SP X pins D) X.xe s4) X.xe { s' with heap := h1 } := by
          rw [hf]
          refine HandSPX.setFlight_upZ fl1 fun h4 hh4 up4 => wpAny_throw (tk _ _ ?_)
          exact ⟨a, B, sI, pins, σ', H', _, none, rfl, J, nb, (up.trans up1).trans up4, .inr (.inr (by rw [hs]; exact hh4)), na, os, ag, hW⟩
        first
          | exact wpAny_bind (wpAny_pure (wpAny_bind again))
          | exact wpAny_bind again
  · cases f with
    | next => obtain ⟨σ', H', J', q⟩ := fin; exact wpAny_execs_nil ⟨σ', H', J'.ofTry ok, q⟩
    | brk => obtain ⟨σ', H', J', q⟩ := fin; exact ⟨σ', H', J'.ofTry ok, q⟩
    | cont => obtain ⟨σ', H', J', q⟩ := fin; exact ⟨σ', H', J'.ofTry ok, q⟩
    | ret u => obtain ⟨v, σ', H', J', r, q⟩ := fin; exact ⟨v, σ', H', J'.ofTry ok, r, q⟩
end
def TyE (K : PySem.W.Frag) (H : Hp) (v : V) (t : Value) : Prop := TyX K H v t ∨ ∃ a C, v = .ref a ∧ t = .ref C ∧ ExAt H a C ∧ ExcC K C
def rIsX (K : PySem.W.Frag) : List V → Hp → VK → Prop := fun xs H Q => ∃ (v w : V) (t : Value) (b : Bool), xs = [v, w] ∧ TyE K H v t ∧ ((∃ u, ClsV w u ∧ PySem.W.kitOne K t u = some b) ∨ ∃ tp cs us, w = .ref tp ∧ Rd H tp (.tup cs) ∧ Paired ClsV cs us ∧ PySem.W.kitAny K t us = some b) ∧ Q (.bl b) H
section
variable {X : Cx}
theorem kit_e {pins : List (Addr × Obj)} {σ : L2.St} {H : Hp} {s : Shared} {x : V} {u t : Value} (I : Inv X pins σ H s) (rx : RelV x u) (ty : TyE X.K H x t) : ∃ P : Heap → Prop, PySem.W.KitX X.K u t P ∧ P s.heap ∧ u ≠ .builtin "__main__.__loader__#opaque" := by
  rcases ty with ty | ⟨a, C, rfl, rfl, ⟨oe, φ, hH, hz, vs, hv⟩, E⟩
  · exact kit_of I rx ty
  · cases (show u = Value.ref a from rx)
    have hget : s.heap.get? a = some oe := (show ObjOk X.prog X.w H s.heap a (.frz oe (.ext φ)) from I.hok a _ hH).1
    have J : PySem.W.InstAt s.heap a oe C none := by
      obtain ⟨o1, o2, o3, o4⟩ := oe
      obtain ⟨z1, z2⟩ := hz
      dsimp only at z1 z2 hv
      subst z1 z2 hv
      exact ⟨hget, rfl, rfl, True.intro⟩
    exact ⟨_, PySem.W.handS_kitx_exc E.hg E.hk E.hs E.hd E.ha E.hn E.ht E.hm, J, fun z => nomatch z⟩
theorem call_isX : CallR X (.builtin "isinstance") (rIsX X.K) := by
  intro pins s σ H xs us Q I r ⟨v, w, t, b, e, ty, k, q⟩
  subst e
  obtain ⟨x1, x2, rfl, r1, r2⟩ := vals2 r
  obtain ⟨P, Z, p, hx⟩ := kit_e I r1 ty
  rcases k with ⟨u, k, e⟩ | ⟨tp, cs, ws, rfl, hT, k, e⟩
  · have e2 := k.eq r2
    subst e2
    exact PySem.W.kia_one Z I.kIn p e hx fun t' => ⟨.bl b, H, I.tok t', rfl, q⟩
  · cases (show x2 = Value.ref tp from r2)
    obtain ⟨_, its, rv, o, h1, h2, n, h3⟩ := rd_of I.hok hT
    have e3 := ClsV.all k rv
    subst e3
    obtain ⟨o1, o2, o3, o4⟩ := o
    simp only at h2 h3
    subst h2 h3
    exact PySem.W.kia_tup Z I.kIn p h1 e hx fun t' => ⟨.bl b, H, I.tok t', rfl, q⟩
end
structure IsX (K : PySem.W.Frag) (tab : Str → Str → Option Bool) (tb : Str → String → Option Bool) (no : Str → Bool) : Prop where
  own : ∀ x y b C1 C2, tab x y = some b → PySem.W.nsIn K mainGlobals x = some (some (.ref C1)) → PySem.W.nsIn K mainGlobals y = some (some (.ref C2)) → ExcC K C1 ∧ PySem.W.kitOne K (.ref C1) (.ref C2) = some b
  blt : ∀ x T b C1, tb x T = some b → PySem.W.nsIn K mainGlobals x = some (some (.ref C1)) → ExcC K C1 ∧ PySem.W.kitOne K (.ref C1) (.type T) = some b
  non : ∀ y C2, no y = true → PySem.W.nsIn K mainGlobals y = some (some (.ref C2)) → PySem.W.kitOne K (.type "NoneType") (.ref C2) = some false
def isiN : String → Option Bool
  | "ValueError" => some false
  | "CrossError" => none
  | T => isiT "NoneType" T
theorem isiN_ok {b : String} {r : Bool} (h : isiN b = some r) : kitB "NoneType" b = some r := by
  unfold isiN at h
  split at h
  · cases h; decide +kernel
  · cases h
  · exact isiT_ok h
def isX (tab : Str → Str → Option Bool) (tb : Str → String → Option Bool) (no : Str → Bool) (d c : D) : Option Bool := match c with
  | .cl y => (match d with
    | .exc x => tab x y
    | .non => if no y = true then some false else none
    | _ => none)
  | .ty T => (match d with
    | .exc x => tb x T
    | .non => isiN T
    | _ => (match tyN d with
      | some a => isiT a T
      | none => none))
  | _ => none
def anyX (f : D → Option Bool) : List D → Option Bool
  | [] => some false
  | c :: cs => match f c with
    | some true => some true
    | some false => anyX f cs
    | none => none
def isQ (f : D → D → Option Bool) (d c : D) : Option Bool := match c with
  | .tup (c :: cs) => if (c :: cs).all (fun c => (f d c).isSome) = true then anyX (f d) (c :: cs) else none
  | _ => f d c
def dIsX (f : D → D → Option Bool) (ds : List D) (S : Store) : Res D := match ds with
  | [d, c] => (match isQ f d c with
    | some b => .ok (.bl b) S
    | none => .bad)
  | _ => .bad
section
variable {K : PySem.W.Frag} {G : Addr → Prop} {ρ : List Addr} {H : Hp} {tab : Str → Str → Option Bool} {tb : Str → String → Option Bool} {no : Str → Bool}
theorem isX_one (hX : IsX K tab tb no) {d : D} {v : V} (rd : Rep K G ρ H d v) : ∃ t, ∀ (c : D) (w : V) (b : Bool), Rep K G ρ H c w → isX tab tb no d c = some b → TyE K H v t ∧ ∃ u, ClsV w u ∧ PySem.W.kitOne K t u = some b := by
  have other : ∀ a, tyN d = some a → (∀ c, isX tab tb no d c = (match c with | .ty T => isiT a T | _ => none)) → ∃ t, ∀ (c : D) (w : V) (b : Bool), Rep K G ρ H c w → isX tab tb no d c = some b → TyE K H v t ∧ ∃ u, ClsV w u ∧ PySem.W.kitOne K t u = some b := fun a ea hh =>
    ⟨.type a, fun c w b rc e => by
      rw [hh] at e
      cases c with
      | ty T =>
        cases (show w = .ty T from rc)
        exact ⟨.inl (tyN_ok rd ea), _, .ty T, kit_ty (isiT_ok e)⟩
      | _ => cases e⟩
  cases d with
  | exc x =>
    obtain ⟨a, C, rfl, hC, hA⟩ := ExV.ex rd
    refine ⟨.ref C, fun c w b rc e => ?_⟩
    cases c with
    | cl y =>
      obtain ⟨C2, rfl, h2⟩ := ClV.ex rc
      obtain ⟨q1, q2⟩ := hX.own x y b C C2 e hC h2
      exact ⟨.inr ⟨a, C, rfl, rfl, hA, q1⟩, _, .own C2, q2⟩
    | ty T =>
      cases (show w = .ty T from rc)
      obtain ⟨q1, q2⟩ := hX.blt x T b C e hC
      exact ⟨.inr ⟨a, C, rfl, rfl, hA, q1⟩, _, .ty T, q2⟩
    | _ => cases e
  | non =>
    refine ⟨.type "NoneType", fun c w b rc e => ?_⟩
    cases c with
    | cl y =>
      obtain ⟨C2, rfl, h2⟩ := ClV.ex rc
      unfold isX at e
      dsimp only at e
      by_cases hn : no y = true
      · rw [if_pos hn] at e
        cases e
        exact ⟨.inl (tyN_ok rd rfl), _, .own C2, hX.non y C2 hn h2⟩
      · rw [if_neg hn] at e; cases e
    | ty T =>
      cases (show w = .ty T from rc)
      exact ⟨.inl (tyN_ok rd rfl), _, .ty T, kit_ty (isiN_ok e)⟩
    | _ => cases e
  | bl x => exact other "bool" rfl fun c => by cases c <;> rfl
  | int x => exact other "int" rfl fun c => by cases c <;> rfl
  | str x => exact other "str" rfl fun c => by cases c <;> rfl
  | tup x => exact other "tuple" rfl fun c => by cases c <;> rfl
  | lst x => exact other "list" rfl fun c => by cases c <;> rfl
  | fz x => exact other "list" rfl fun c => by cases c <;> rfl
  | ty x => exact ⟨.none, fun c w b _ e => by cases c <;> cases e⟩
  | cell x => exact ⟨.none, fun c w b _ e => by cases c <;> cases e⟩
  | cl x => exact ⟨.none, fun c w b _ e => by cases c <;> cases e⟩
  | dct _ _ _ => exact ⟨.none, fun c w b _ e => by cases c <;> cases e⟩
theorem isX_any {d : D} {v : V} {t : Value} (f : D → Option Bool) (h1 : ∀ (c : D) (w : V) (b : Bool), Rep K G ρ H c w → f c = some b → TyE K H v t ∧ ∃ u, ClsV w u ∧ PySem.W.kitOne K t u = some b) : ∀ (cs : List D) (ws : List V) (b : Bool), RepL K G ρ H cs ws → cs.all (fun c => (f c).isSome) = true → anyX f cs = some b → ∃ us, Paired ClsV ws us ∧ PySem.W.kitAny K t us = some b
  | [], ws, b, r, _, e => by
    cases (show ws = [] from r)
    cases e
    exact ⟨[], .nil, rfl⟩
  | c :: cs, ws, b, r, hs, e => by
    obtain ⟨w, ws', rfl, r1, r2⟩ := r
    rw [List.all_cons, Bool.and_eq_true] at hs
    obtain ⟨b1, hb1⟩ := Option.isSome_iff_exists.mp hs.1
    obtain ⟨_, u, k1, k2⟩ := h1 c w b1 r1 hb1
    have tail : ∀ b2, anyX f cs = some b2 → ∃ us, Paired ClsV ws' us ∧ PySem.W.kitAny K t us = some b2 := fun b2 e2 => isX_any (d := d) f h1 cs ws' b2 r2 hs.2 e2
    unfold anyX at e
    rw [hb1] at e
    cases b1 with
    | true =>
      dsimp only at e
      cases e
      have all : ∀ (cs : List D) (ws : List V), RepL K G ρ H cs ws → cs.all (fun c => (f c).isSome) = true → ∃ us, Paired ClsV ws us := by
        intro cs
        induction cs with
        | nil => intro ws r _; cases (show ws = [] from r); exact ⟨[], .nil⟩
        | cons c cs ih =>
          intro ws r hs
          obtain ⟨w, ws', rfl, r1, r2⟩ := r
          rw [List.all_cons, Bool.and_eq_true] at hs
          obtain ⟨b1, hb1⟩ := Option.isSome_iff_exists.mp hs.1
          obtain ⟨_, u, k1, _⟩ := h1 c w b1 r1 hb1
          obtain ⟨us, k⟩ := ih ws' r2 hs.2
          exact ⟨u :: us, .cons k1 k⟩
      obtain ⟨us, k3⟩ := all cs ws' r2 hs.2
      refine ⟨u :: us, .cons k1 k3, ?_⟩
      unfold PySem.W.kitAny
      rw [k2]
    | false =>
      dsimp only at e
      obtain ⟨us, k3, k4⟩ := tail b e
      refine ⟨u :: us, .cons k1 k3, ?_⟩
      unfold PySem.W.kitAny
      rw [k2]
      exact k4
end
theorem cd_isX {K : PySem.W.Frag} {tab : Str → Str → Option Bool} {tb : Str → String → Option Bool} {no : Str → Bool} (hX : IsX K tab tb no) : CallD K (rIsX K) (dIsX (isX tab tb no)) := by
  intro G ρ H S ds vs E Q r x h
  unfold dIsX at h
  split at h
  · rename_i d c
    obtain ⟨v, _, rfl, q1, w, _, rfl, q2, rfl⟩ := x
    obtain ⟨t, ht⟩ := isX_one hX q1
    cases e : isQ (isX tab tb no) d c with
    | none => rw [e] at h; exact h.elim
    | some b =>
      rw [e] at h
      unfold isQ at e
      split at e
      · rename_i c cs
        by_cases e1 : (c :: cs).all (fun c => (isX tab tb no d c).isSome) = true
        · rw [if_pos e1] at e
          obtain ⟨tp, ws, rfl, hT, hL⟩ := q2
          obtain ⟨us, k1, k2⟩ := isX_any (d := d) (isX tab tb no d) ht (c :: cs) ws b hL e1 e
          refine ⟨v, .ref tp, t, b, rfl, ?_, .inr ⟨tp, ws, us, rfl, hT, k1, k2⟩, h.now r rfl⟩
          obtain ⟨w, ws', rfl, r1, r2⟩ := hL
          rw [List.all_cons, Bool.and_eq_true] at e1
          obtain ⟨b1, hb1⟩ := Option.isSome_iff_exists.mp e1.1
          exact (ht c w b1 r1 hb1).1
        · rw [if_neg e1] at e; cases e
      · obtain ⟨k1, u, k2, k3⟩ := ht _ w b q2 e
        exact ⟨v, w, t, b, rfl, k1, .inl ⟨u, k2, k3⟩, h.now r rfl⟩
  · exact h.elim
section
variable {B : Bs} {sl : List Sl} {α σ ρ : Type} {t : α → D}
def yX (cn : Nat → Str) : Nat → D := fun c => .exc (cn c)
def yK (d : D) : Unit → D := fun _ => d
theorem ends_rs (c : Nat) : Ends (sRaise c) := fun env S e' S' h => by cases h
theorem xb_raise {P : ρ → D → Store → Prop} (c : Nat) : XB B sl (sRaise c) P (.err c) := fun env S r => ⟨env, S, rfl, r.frm⟩
theorem xl_raise {E : σ → List Sl} {P : ρ → D → Store → Prop} (c : Nat) : XL B sl (sRaise c) E P (.err c) := fun env S r => ⟨env, S, rfl, r.frm⟩
def R.noE : R α → R α
  | .ok a => .ok a
  | _ => .bad
def tryR (ct : Nat → Option Bool) (f : R α) (g : α → R σ) (fs : Nat → R σ) : R σ := match f with
  | .ok a => g a
  | .err c => (match ct c with
    | some true => (fs c).noE
    | some false => .err c
    | none => .bad)
  | .bad => .bad
theorem SRel.unset {env : En} {S : Store} {i : Nat} (r : SRel B sl env S) (h : sl[i]? = some .u) : SRel B sl (env.set i none) S := by
  have nth : ∀ (j : Nat) (s : Sl) (o : Option D), sl[j]? = some s → (env.set i none)[j]? = some o → (j = i ∧ s = .u ∧ o = none) ∨ (j ≠ i ∧ env[j]? = some o) := fun j s o h1 h2 => by
    by_cases e : i = j
    · subst e
      have hl : i < env.length := by
        have := (List.getElem?_eq_some_iff.mp h2).1
        rwa [List.length_set] at this
      rw [List.getElem?_set_self hl] at h2
      rw [h] at h1
      cases h1
      cases h2
      exact .inl ⟨rfl, rfl, rfl⟩
    · rw [List.getElem?_set_ne e] at h2
      exact .inr ⟨fun z => e z.symm, h2⟩
  refine ⟨by rw [List.length_set]; exact r.len, fun j s o h1 h2 => ?_, fun j k s s' o o' hjk h1 h2 h3 h4 x hx => ?_, fun j s o h1 h2 x hx => ?_, r.frm⟩
  · rcases nth j s o h1 h2 with ⟨_, rfl, rfl⟩ | ⟨_, h5⟩
    · trivial
    · exact r.at_ j s o h1 h5
  · rcases nth j s o h1 h2 with ⟨_, rfl, rfl⟩ | ⟨_, h5⟩
    · cases hx
    · rcases nth k s' o' h3 h4 with ⟨_, rfl, rfl⟩ | ⟨_, h6⟩
      · intro z; cases z
      · exact r.dis j k s s' o o' hjk h1 h5 h3 h6 x hx
  · rcases nth j s o h1 h2 with ⟨_, rfl, rfl⟩ | ⟨_, h5⟩
    · cases hx
    · exact r.own j s o h1 h5 x hx
theorem xn_try0 {E : σ → List Sl} {mb ms : MS} {ct : Nat → Option Bool} {cn : Nat → Str} {f : R α} {g : α → R σ} {fs : Nat → R σ} (i : Nat) (hb : ∀ env S, SRel B sl env S → (match f with | .ok a => OutN B E (g a) (mb env S) ∧ (∀ c, g a ≠ .err c) | .err c => mb env S = .err c env S | .bad => True)) (hs : ∀ c, XN B (sl.set i (.v (yX cn c))) ms E (fs c)) (hi : ∀ s, (E s)[i]? = some .u) : XN B sl (sTry mb ct cn i ms) E (tryR ct f g fs) := fun env S r => by
  have h := hb env S r
  unfold sTry
  cases f with
  | bad => trivial
  | ok a =>
    obtain ⟨h, hne⟩ := h
    show OutN B E (g a) _
    cases hg : g a with
    | ok s => rw [hg] at h; obtain ⟨e1, S1, q1, q2⟩ := h; rw [q1]; exact ⟨e1, S1, rfl, q2⟩
    | err c => exact absurd hg (hne c)
    | bad => trivial
  | err c =>
    rw [show mb env S = .err c env S from h]
    show OutN B E (match ct c with | some true => (fs c).noE | some false => .err c | none => .bad) (hTry ct cn i ms c env S)
    unfold hTry
    cases hc : ct c with
    | none => trivial
    | some b =>
      cases b with
      | false => exact ⟨env, S, rfl, r.frm⟩
      | true =>
        dsimp only
        have h2 := hs c (env.set i (some (.exc (cn c)))) S (r.set_v i _)
        cases hf : fs c with
        | bad => trivial
        | err c' => trivial
        | ok s =>
          rw [hf] at h2
          obtain ⟨e1, S1, q1, q2⟩ := h2
          rw [q1]
          exact ⟨_, S1, rfl, q2.unset (hi s)⟩
def oR : Option Bool → R Bool
  | some b => .ok b
  | none => .bad
theorem bf_isX (f : D → D → Option Bool) (c : D) : ∀ (a : α) (u : Unit) d e S, vP t a d S → vP (yK c) u e S → Out S (vP yB) (oR (isQ f (t a) c)) (dIsX f [d, e] S) := fun a u d e S h1 h2 => by
  cases h1
  cases h2
  show Out S (vP yB) (oR (isQ f (t a) c)) (match isQ f (t a) c with | some b => Res.ok (.bl b) S | none => .bad)
  cases isQ f (t a) c with
  | none => trivial
  | some b => exact ⟨_, rfl, rfl⟩
theorem xe_cl (d : D) : XE B sl (eC d) (vP (yK d)) (.ok ()) := fun env S r => ⟨d, rfl, rfl⟩
end
theorem names_own {X : Cx} {x : Str} {C : Addr} (hg : Gl X x) (h : Cls X.K X.mg x C) (hdb : (x == ("__debug__" : Str)) = false := by decide) : Names X x (.ref C) := ⟨hg, hdb, .inl h.gl⟩
def cAK (cn : Nat → Str) (K : PySem.W.Frag) : Nat → Addr := fun c => match PySem.W.nsIn K mainGlobals (cn c) with
  | some (some (.ref C)) => C
  | _ => 0
theorem cAK_at {cn : Nat → Str} {K : PySem.W.Frag} {c : Nat} {C : Addr} (h : PySem.W.nsIn K mainGlobals (cn c) = some (some (.ref C))) : cAK cn K c = C := by unfold cAK; rw [h]
theorem kit_cl {K : PySem.W.Frag} {t : Value} {C : Addr} {b : Bool} (hd : PySem.W.hasDictIn K C = true) (ht : PySem.W.typeIn K (.ref C) = some (.type "type")) (hs : PySem.W.subIn K t (.ref C) = some b) (hc : PySem.W.subIn K (.ref C) (.ref C) = some true) : PySem.W.kitOne K t (.ref C) = some b := by
  obtain ⟨cd, hcd, _⟩ := PySem.W.any_some hd
  have e2 : ((PySem.W.clsIn K C).isSome && PySem.W.typeIn K (.ref C) == some (.type "type")) = true := by rw [hcd, ht] <;> rfl
  unfold PySem.W.kitOne
  by_cases e : (t == Value.ref C) = true
  · rw [if_pos e]
    rw [beq_iff_eq.mp e, hc] at hs
    exact hs
  · rw [if_neg e]
    show (if ((PySem.W.clsIn K C).isSome && PySem.W.typeIn K (.ref C) == some (.type "type")) = true then PySem.W.subIn K t (.ref C) else none) = some b
    rw [if_pos e2]
    exact hs
theorem kit_ve {K : PySem.W.Frag} {C : Addr} (hs : PySem.W.subIn K (.ref C) (.type "ValueError") = some true) : PySem.W.kitOne K (.ref C) (.type "ValueError") = some true := by
  have e1 : (Value.ref C == Value.type "ValueError") = false := beq_eq_false_iff_ne.mpr fun z => nomatch z
  have e2 : PySem.W.kitMeta "ValueError" = true := by decide +kernel
  unfold PySem.W.kitOne
  rw [e1, if_neg (by decide)]
  show (if PySem.W.kitMeta "ValueError" = true then PySem.W.subIn K (.ref C) (.type "ValueError") else none) = some true
  rw [if_pos e2]
  exact hs
end Rf
namespace Rf
open PySem PySem.Spec PyProof.Rows L2
section
variable {X : Cx} {cA : Nat → Addr} {W : WX}
end
section
variable {B : Bs} {sl : List Sl} {α σ : Type} {t : α → D}
end
end Rf
namespace Rf
open PySem PySem.Spec PyProof.Rows L2
@[irreducible] def sSR (d : D) : R (List (Int × Int)) := match itemsD d with
  | some ds => (match prs ds with
    | some xs => if xs.length < 64 ∧ xs.all inB = true then .ok (sortU xs) else .bad
    | none => .bad)
  | none => .bad
theorem sSR_of {d : D} {ds : List D} {xs : List (Int × Int)} (h0 : itemsD d = some ds) (h1 : prs ds = some xs) (h2 : xs.length < 64) (h3 : xs.all inB = true) : sSR d = .ok (sortU xs) := by
  unfold sSR
  rw [h0]
  dsimp only
  rw [h1]
  exact if_pos ⟨h2, h3⟩
section
variable {B : Bs} {sl : List Sl} {α : Type} {t : α → D}
theorem xe_sS1 {m : M D} {f : R α} {f' : R (List (Int × Int))} (h : XE B sl m (vP t) f) (e : (f.bind fun a => sSR (t a)) = f' := by rfl) : XE B sl (fun env S => (m env S).bind fun d S1 => fSortSet d S1) (vP (lM (yP2 yI yI))) f' := fun env S r => by
  rw [← e]
  refine Out.bind (h env S r) fun a d q => ?_
  cases q
  unfold sSR fSortSet
  cases itemsD (t a) with
  | none => trivial
  | some ds =>
    dsimp only
    cases prs ds with
    | none => trivial
    | some xs =>
      dsimp only
      by_cases c : xs.length < 64 ∧ xs.all inB = true
      · rw [if_pos c, if_pos c]; exact ⟨_, rfl, rfl⟩
      · rw [if_neg c]; trivial
theorem xe_sS1t {m : M D} {a : α} (h : XE B sl m (vP t) (.ok a)) : XE B sl (fun env S => (m env S).bind fun d S1 => fSortSet d S1) (vP (lM (yP2 yI yI))) (sSR (t a)) := xe_sS1 h
end
end Rf
namespace Rf
open PySem PySem.Spec PyProof.Rows L2
end Rf

namespace Rf
open PySem PySem.Spec PyProof.Rows L2
section
variable {X : Cx} {cA : Nat → Addr} {W : WX}
end
section
variable {B : Bs} {sl : List Sl} {α β σ ρ : Type} {t : α → D} {u : β → D}
end
end Rf

namespace Rf
open PySem PySem.Spec PyProof.Rows L2
section
variable {K : PySem.W.Frag} {G : Addr → Prop} {ρ : List Addr} {H : Hp}
variable {P : Program} {w : World} {h : Heap}
end
def okK (k : D) : Bool := tupI k && isTup k && decide ((keyN k).depth ≤ 8)
def stV (vs : List DV) (k : NestedKey) (b : Addr) (v : V) : List DV := if (vs.any fun p => decide (p.1.1 = k)) = true then vs.map (fun p => if p.1.1 = k then (p.1, v) else p) else vs ++ [((k, b), v)]
def setKV (kvs : List (D × D)) (k v : D) : List (D × D) := if (kvs.any fun p => decide (keyN p.1 = keyN k)) = true then kvs.map (fun p => if keyN p.1 = keyN k then (p.1, v) else p) else kvs ++ [(k, v)]
section
variable {X : Cx} {pins : List (Addr × Obj)} {σ : L2.St} {H : Hp} {s : Shared}
end
section
variable {X : Cx} {cA : Nat → Addr} {W : WX}
end
section
variable {K : PySem.W.Frag} {G : Addr → Prop} {ρ : List Addr} {H : Hp}
theorem RepKV.length : ∀ {kvs : List (D × D)} {vs : List DV}, RepKV K G ρ H kvs vs → vs.length = kvs.length
  | [], vs, h => by rw [show vs = [] from h]; rfl
  | (k, d) :: r, vs, h => by
    obtain ⟨b, v, vs', rfl, _, _, _, h4⟩ := h
    show vs'.length + 1 = r.length + 1
    rw [RepKV.length h4]
theorem RepKV.any : ∀ {kvs : List (D × D)} {vs : List DV}, RepKV K G ρ H kvs vs → ∀ k, (vs.any fun p => decide (p.1.1 = k)) = kvs.any fun p => decide (keyN p.1 = k)
  | [], vs, h, k => by rw [show vs = [] from h]; rfl
  | (x, d) :: r, vs, h, k => by
    obtain ⟨b, v, vs', rfl, _, _, _, h4⟩ := h
    rw [List.any_cons, List.any_cons, RepKV.any h4 k]
theorem RepKV.put : ∀ {kvs : List (D × D)} {vs : List DV}, RepKV K G ρ H kvs vs → ∀ (k : NestedKey) {d : D} {v : V}, Rep K G ρ H d v → RepKV K G ρ H (kvs.map fun p => if keyN p.1 = k then (p.1, d) else p) (vs.map fun p => if p.1.1 = k then (p.1, v) else p)
  | [], vs, h, _, _, _, _ => by rw [show vs = [] from h]; rfl
  | (x, e) :: r, vs, h, k, d, v, hd => by
    obtain ⟨b, u, vs', rfl, h1, h2, h3, h4⟩ := h
    rw [List.map_cons, List.map_cons]
    by_cases c : keyN x = k
    · rw [if_pos c, if_pos c]; exact ⟨b, v, _, rfl, h1, h2, hd, RepKV.put h4 k hd⟩
    · rw [if_neg c, if_neg c]; exact ⟨b, u, _, rfl, h1, h2, h3, RepKV.put h4 k hd⟩
theorem RepKV.snoc : ∀ {kvs : List (D × D)} {vs : List DV} {k d : D} {b : Addr} {v : V}, RepKV K G ρ H kvs vs → tupI k = true → Rep K G ρ H k (.ref b) → Rep K G ρ H d v → RepKV K G ρ H (kvs ++ [(k, d)]) (vs ++ [((keyN k, b), v)])
  | [], vs, k, d, b, v, h, h1, h2, h3 => by rw [show vs = [] from h]; exact ⟨b, v, [], rfl, h1, h2, h3, rfl⟩
  | (x, e) :: r, vs, k, d, b, v, h, h1, h2, h3 => by
    obtain ⟨c, u, vs', rfl, q1, q2, q3, q4⟩ := h
    exact ⟨c, u, _, rfl, q1, q2, q3, RepKV.snoc q4 h1 h2 h3⟩
theorem RepKV.st {kvs : List (D × D)} {vs : List DV} {k d : D} {b : Addr} {v : V} (h : RepKV K G ρ H kvs vs) (h1 : tupI k = true) (h2 : Rep K G ρ H k (.ref b)) (h3 : Rep K G ρ H d v) : RepKV K G ρ H (setKV kvs k d) (stV vs (keyN k) b v) := by
  unfold setKV stV
  rw [h.any]
  by_cases c : (kvs.any fun p => decide (keyN p.1 = keyN k)) = true
  · rw [if_pos c, if_pos c]; exact h.put _ h3
  · rw [if_neg c, if_neg c]; exact h.snoc h1 h2 h3
end
end Rf


namespace PySem.W
open PySem PySem.Calls PyProof.Rows
section
variable {prog : Program} {w : World} {A : Around} {E : Value → Shared → Prop} {s : Shared} {β : Type} {R : Value → β → Prop} {enc : β → PyData} {bs : List β}
end
end PySem.W
namespace Rf
open PySem PySem.Spec PyProof.Rows L2
open PySem.W (EachIs AllAlike alike dataLe)
section
variable {X : Cx}
end
end Rf

namespace Rf
open PySem PySem.Spec PyProof.Rows L2
class TKy {α : Type} (t : α → D) : Prop where
  ok : ∀ a, okK (t a) = true
instance : TKy (yP2 yI yI) := ⟨fun a => rfl⟩
instance : TKy (yP3 yI yI yI) := ⟨fun a => rfl⟩
instance : TKy (yP4 yI yI yI yI) := ⟨fun a => rfl⟩
instance : TKy (yP2 (yP2 yI yI) (yP2 yI yI)) := ⟨fun a => rfl⟩
section
variable {α β σ : Type} {t : α → D} {u : β → D} {B : Bs} {sl : List Sl} [DecidableEq α]
def putKV (l : List (α × β)) (k : α) (v : β) : List (α × β) := if (l.any fun p => decide (p.1 = k)) = true then l.map (fun p => if p.1 = k then (p.1, v) else p) else l ++ [(k, v)]
@[irreducible] def setKVR (l : List (α × β)) (k : α) (v : β) : R (List (α × β)) := if l.length < big then .ok (putKV l k v) else .bad
end
section
variable {B : Bs} {sl : List Sl} {σ : Type}
end
end Rf

namespace Rf
open PySem PySem.Spec PyProof.Rows L2
instance : TKy (yP2 (yP2 yI yI) yI) := ⟨fun a => rfl⟩
instance : TKy (yP1 yI) := ⟨fun a => rfl⟩
instance : TKy (yP3 (yP2 yI yI) (yP2 yI yI) yI) := ⟨fun a => rfl⟩
instance : TKy (yP2 yI (yP2 yI yI)) := ⟨fun a => rfl⟩
section
variable {X : Cx} {o e : Expr} {es : List Expr} {to : TE} {t : TA} {name : Str} {apos cpos : Pos} {id : String} {r : V → List V → Hp → VK → Prop}
end
section
variable {X : Cx} {cA : Nat → Addr} {W : WX}
end
def atV (vs : List DV) (k : NestedKey) : Option V := (vs.find? fun p => decide (p.1.1 = k)).map (·.2)
def getKV (kvs : List (D × D)) (k : D) : Option D := (kvs.find? fun p => decide (keyN p.1 = keyN k)).map (·.2)
theorem RepKV.at_ {K : PySem.W.Frag} {G : Addr → Prop} {ρ : List Addr} {H : Hp} (k : D) : ∀ {kvs : List (D × D)} {vs : List DV}, RepKV K G ρ H kvs vs → (getKV kvs k = none ∧ atV vs (keyN k) = none) ∨ ∃ d v, getKV kvs k = some d ∧ atV vs (keyN k) = some v ∧ Rep K G ρ H d v
  | [], vs, h => by rw [show vs = [] from h]; exact .inl ⟨rfl, rfl⟩
  | (x, d) :: r, vs, h => by
    obtain ⟨b, v, vs', rfl, h1, h2, h3, h4⟩ := h
    have ih := RepKV.at_ k h4
    unfold getKV atV at *
    rw [List.find?_cons, List.find?_cons]
    dsimp only
    by_cases c : keyN x = keyN k
    · rw [decide_eq_true c]; exact .inr ⟨d, v, rfl, rfl, h3⟩
    · rw [decide_eq_false c]; exact ih
section
variable {α β σ : Type} {t : α → D} {u : β → D} {B : Bs} {sl : List Sl} [DecidableEq α]
def atKV (l : List (α × β)) (k : α) : Option β := (l.find? fun p => decide (p.1 = k)).map (·.2)
end
end Rf

namespace Rf
open PySem PySem.Spec PyProof.Rows L2
def idOf (S : Store) : D → Option (Nat × List (Int × D))
  | .cell n => (match S[n]? with
    | some (.dI kvs) => some (n, kvs)
    | _ => none)
  | _ => none
theorem idOf_some {S : Store} {d : D} {n : Nat} {kvs : List (Int × D)} (h : idOf S d = some (n, kvs)) : d = .cell n ∧ S[n]? = some (.dI kvs) := by
  unfold idOf at h
  split at h
  · split at h
    · rename_i e; cases h; exact ⟨rfl, e⟩
    · cases h
  · cases h
def eI0 : M D := fun _ S => .ok (.cell S.length) (S ++ [.dI []])
def atI' (kvs : List (Int × D)) (k : Int) : Option D := (kvs.find? fun p => decide (p.1 = k)).map (·.2)
def putI (kvs : List (Int × D)) (k : Int) (v : D) : List (Int × D) := if (kvs.any fun p => decide (p.1 = k)) = true then kvs.map (fun p => if p.1 = k then (p.1, v) else p) else kvs ++ [(k, v)]
section
variable {K : PySem.W.Frag} {G : Addr → Prop} {ρ : List Addr} {H : Hp}
theorem inl_dec (a k : Int) : decide ((Sum.inl a : Key) = Sum.inl k) = decide (a = k) := by
  by_cases h : a = k
  · rw [decide_eq_true h, decide_eq_true (by rw [h])]
  · rw [decide_eq_false h, decide_eq_false fun z => h (Sum.inl.inj z)]
theorem RepKI.at_ (k : Int) : ∀ {kvs : List (Int × D)} {vs : List (Key × V)}, RepKI K G ρ H kvs vs → (atI' kvs k = none ∧ valV vs (.inl k) = none) ∨ ∃ d v, atI' kvs k = some d ∧ valV vs (.inl k) = some v ∧ Rep K G ρ H d v
  | [], vs, h => by rw [show vs = [] from h]; exact .inl ⟨rfl, rfl⟩
  | (x, d) :: r, vs, h => by
    obtain ⟨v, vs', rfl, h3, h4⟩ := h
    have ih := RepKI.at_ k h4
    unfold atI' valV at *
    rw [List.find?_cons, List.find?_cons]
    dsimp only
    rw [inl_dec]
    by_cases c : x = k
    · rw [decide_eq_true c]; exact .inr ⟨d, v, rfl, rfl, h3⟩
    · rw [decide_eq_false c]; exact ih
theorem RepKI.length : ∀ {kvs : List (Int × D)} {vs : List (Key × V)}, RepKI K G ρ H kvs vs → vs.length = kvs.length
  | [], vs, h => by rw [show vs = [] from h]; rfl
  | (k, d) :: r, vs, h => by
    obtain ⟨v, vs', rfl, _, h4⟩ := h
    show vs'.length + 1 = r.length + 1
    rw [RepKI.length h4]
theorem RepKI.any : ∀ {kvs : List (Int × D)} {vs : List (Key × V)}, RepKI K G ρ H kvs vs → ∀ k : Int, (vs.any fun p => decide (p.1 = (.inl k : Key))) = kvs.any fun p => decide (p.1 = k)
  | [], vs, h, k => by rw [show vs = [] from h]; rfl
  | (x, d) :: r, vs, h, k => by
    obtain ⟨v, vs', rfl, _, h4⟩ := h
    rw [List.any_cons, List.any_cons, RepKI.any h4 k, inl_dec]
theorem RepKI.map_ : ∀ {kvs : List (Int × D)} {vs : List (Key × V)}, RepKI K G ρ H kvs vs → ∀ (k : Int) {d : D} {v : V}, Rep K G ρ H d v → RepKI K G ρ H (kvs.map fun p => if p.1 = k then (p.1, d) else p) (vs.map fun p => if p.1 = (.inl k : Key) then (p.1, v) else p)
  | [], vs, h, _, _, _, _ => by rw [show vs = [] from h]; rfl
  | (x, e) :: r, vs, h, k, d, v, hd => by
    obtain ⟨u, vs', rfl, h3, h4⟩ := h
    rw [List.map_cons, List.map_cons]
    by_cases c : x = k
    · rw [if_pos c, if_pos (show (Sum.inl x : Key) = .inl k by rw [c])]; exact ⟨v, _, rfl, hd, RepKI.map_ h4 k hd⟩
    · rw [if_neg c, if_neg (show ¬ (Sum.inl x : Key) = .inl k from fun z => c (Sum.inl.inj z))]; exact ⟨u, _, rfl, h3, RepKI.map_ h4 k hd⟩
theorem RepKI.snoc : ∀ {kvs : List (Int × D)} {vs : List (Key × V)} {k : Int} {d : D} {v : V}, RepKI K G ρ H kvs vs → Rep K G ρ H d v → RepKI K G ρ H (kvs ++ [(k, d)]) (vs ++ [(.inl k, v)])
  | [], vs, k, d, v, h, h3 => by rw [show vs = [] from h]; exact ⟨v, [], rfl, h3, rfl⟩
  | (x, e) :: r, vs, k, d, v, h, h3 => by
    obtain ⟨u, vs', rfl, q3, q4⟩ := h
    exact ⟨u, _, rfl, q3, RepKI.snoc q4 h3⟩
theorem RepKI.put {kvs : List (Int × D)} {vs : List (Key × V)} {k : Int} {d : D} {v : V} (h : RepKI K G ρ H kvs vs) (h3 : Rep K G ρ H d v) : RepKI K G ρ H (putI kvs k d) (putK vs (.inl k) v) := by
  unfold putI putK
  rw [h.any]
  by_cases c : (kvs.any fun p => decide (p.1 = k)) = true
  · rw [if_pos c, if_pos c]; exact h.map_ k h3
  · rw [if_neg c, if_neg c]; exact h.snoc h3
end
section
variable {X : Cx} {cA : Nat → Addr} {W : WX}
theorem je_i0 {pos : Pos} : PE X (.Dict [] [] pos) (tE X.K cA W eI0) := by
  refine pe_imp pe_dnewK ?_
  rintro σ H Q ⟨G, ρ, env, S, hE, hS, h⟩ p hp
  refine h (.ref p) (ρ ++ [p]) (upd H p (.dK [])) (hS.alloc hp ⟨[], upd_same, rfl⟩) ⟨p, rfl, ?_⟩ (Keep.cell hp hS.gt)
  rw [← hS.len, List.getElem?_append_right (Nat.le_refl _)]
  simp
def rSetI : TSet := fun o i v H Q => ∃ a kvs k, o = .ref a ∧ i = .int k ∧ H a = some (.dK kvs) ∧ kvs.length < sizeLine ∧ Q (upd H a (.dK (putK kvs (.inl k) v)))
theorem set_di (hu : X.A.units + 64 < cLine) : PSet X rSetI := by
  intro pins s σ H o i v ov iv u Q I ro ri rv ⟨a, kvs, k, eo, ei, ha, hz, q⟩
  subst eo
  subst ei
  cases ro
  exact d_setItem (by omega) I (DPut.k ha hz) (show RelV (kV (.inl k)) iv from ri) rv fun s' I' => ⟨_, I', q⟩
def dSetI (o i v : D) (S : Store) : Option Store := match idOf S o, i with
  | some (n, kvs), .int k => if kvs.length < big then some (S.set n (.dI (putI kvs k v))) else none
  | _, _ => none
theorem sd_setI {K : PySem.W.Frag} : SetD K rSetI dSetI := by
  intro G ρ H S do_ di dv o i v S' r x1 x2 x3 e Q q
  unfold dSetI at e
  split at e
  · rename_i n kvs k ed
    obtain ⟨rfl, eS⟩ := idOf_some ed
    obtain ⟨a, rfl, ha⟩ := x1
    cases (show i = .int k from x2)
    by_cases c : kvs.length < big
    · rw [if_pos c] at e
      cases e
      obtain ⟨vs, h1, h2⟩ := r.ob n _ a eS ha
      refine ⟨a, vs, k, rfl, rfl, h1, by rw [h2.length]; rw [sizeLine_eq]; have hb : big = 1000000 := rfl; omega, ?_⟩
      have hm := List.mem_of_getElem? ha
      have kk : Keep G ρ H ρ (upd H a (.dK (putK vs (.inl k) v))) := Keep.write hm (r.ng a hm) (.inr (.inr (.inl ⟨_, h1⟩)))
      obtain ⟨r', k'⟩ := r.write (o := .dI (putI kvs k dv)) (u := .dK (putK vs (.inl k) v)) ha (.inr (.inr (.inl ⟨_, h1⟩))) ⟨_, upd_same, RepKI.keep kk _ _ (h2.put x3)⟩
      exact q _ r' k'
    · rw [if_neg c] at e; cases e
  · cases e
def rIxI : R2 := fun x y H Q => ∃ a v, x = .ref a ∧ DGet H a y (some v) ∧ Q v H
def dIxI (d e : D) (S : Store) : Res D := match idOf S d, e with
  | some (_, kvs), .int k => (match atI' kvs k with
    | some v => .ok v S
    | none => .bad)
  | _, _ => .bad
theorem od_ixI {K : PySem.W.Frag} : OpD K rIxI dIxI := by
  intro G ρ H S d1 d2 v1 v2 E Q r x1 x2 h
  unfold dIxI at h
  split at h
  · rename_i n kvs k ed
    obtain ⟨rfl, eS⟩ := idOf_some ed
    obtain ⟨a, rfl, ha⟩ := x1
    cases (show v2 = .int k from x2)
    obtain ⟨vs, h1, h2⟩ := r.ob n _ a eS ha
    rcases h2.at_ k with ⟨e1, e2⟩ | ⟨d, v, e1, e2, e3⟩
    · rw [e1] at h; exact h.elim
    · rw [e1] at h
      refine ⟨a, v, rfl, ?_, h.now r e3⟩
      rw [← e2]
      exact DGet.k (k := .inl k) h1
  · exact h.elim
theorem je_ixI {a b : Expr} {pos : Pos} {ma mb : M D} (hu : X.A.units + 64 < cLine) (ha : PE X a (tE X.K cA W ma)) (hb : PE X b (tE X.K cA W mb)) (hs : NoSl b := by exact fun _ _ => rfl) : PE X (.Subscript a b pos) (tE X.K cA W (e2 dIxI ma mb)) :=
  pe_imp (pe_dget (by omega) ha hb hs) (op_read od_ixI)
def rInI (neg : Bool) : R2 := fun x y H Q => ∃ a o, y = .ref a ∧ DGet H a x o ∧ Q (.bl (if neg then !o.isSome else o.isSome)) H
theorem op_ninI (hu : X.A.units + 64 < cLine) : OpR X (compareOp .NotIn) (rInI true) := by
  intro pins s σ H x y v u Q I rx ry ⟨a, o, ey, g, q⟩
  subst ey
  cases ry
  exact d_notIn (by omega) I g rx fun s' I' => ⟨.bl (!o.isSome), H, I', rfl, q⟩
def dInI (neg : Bool) (e d : D) (S : Store) : Res D := match idOf S d, e with
  | some (_, kvs), .int k => .ok (.bl (if neg then !(atI' kvs k).isSome else (atI' kvs k).isSome)) S
  | _, _ => .bad
theorem od_inI {K : PySem.W.Frag} {neg : Bool} : OpD K (rInI neg) (dInI neg) := by
  intro G ρ H S d1 d2 v1 v2 E Q r x1 x2 h
  unfold dInI at h
  split at h
  · rename_i n kvs k ed
    obtain ⟨rfl, eS⟩ := idOf_some ed
    obtain ⟨a, rfl, ha⟩ := x2
    cases (show v1 = .int k from x1)
    obtain ⟨vs, h1, h2⟩ := r.ob n _ a eS ha
    refine ⟨a, valV vs (.inl k), rfl, DGet.k (k := .inl k) h1, ?_⟩
    have e : (valV vs (.inl k)).isSome = (atI' kvs k).isSome := by
      rcases h2.at_ k with ⟨e1, e2⟩ | ⟨d, v, e1, e2, _⟩
      · rw [e1, e2]; rfl
      · rw [e1, e2]; rfl
    rw [e]
    exact h.now r rfl
  · exact h.elim
def rLenI : List V → Hp → VK → Prop := fun xs H Q => ∃ a kvs, xs = [.ref a] ∧ H a = some (.dK kvs) ∧ Q (.int kvs.length) H
theorem cr_lenI : CallR X (.builtin "len") rLenI := by
  intro pins s σ H xs us Q I r ⟨a, kvs, e, ha, q⟩
  subst e
  rw [Vals.ref1 r]
  exact d_len I (.inl ha) fun t s' I' => ⟨.int kvs.length, H, I', ⟨t, rfl⟩, q⟩
def dLenI (ds : List D) (S : Store) : Res D := match ds with
  | [d] => (match idOf S d with
    | some (_, kvs) => .ok (.int (kvs.length : Nat)) S
    | none => .bad)
  | _ => .bad
theorem cd_lenI {K : PySem.W.Frag} : CallD K rLenI dLenI := by
  intro G ρ H S ds vs E Q r x h
  match ds, h, x with
  | [d], h, x =>
    obtain ⟨v, _, rfl, q1, rfl⟩ := x
    unfold dLenI at h
    dsimp only at h
    cases e : idOf S d with
    | none => rw [e] at h; exact h.elim
    | some nk =>
      obtain ⟨n, kvs⟩ := nk
      rw [e] at h
      obtain ⟨rfl, eS⟩ := idOf_some e
      obtain ⟨a, rfl, ha⟩ := q1
      obtain ⟨ws, h1, h2⟩ := r.ob n _ a eS ha
      exact ⟨a, ws, rfl, h1, by rw [h2.length]; exact h.now r rfl⟩
end
section
variable {β σ : Type} {u : β → D} {B : Bs} {sl : List Sl}
def kvI (u : β → D) (p : Int × β) : Int × D := (p.1, u p.2)
def fI (u : β → D) (l : List (Int × β)) : Ob := .dI (l.map (kvI u))
theorem idict_at {S : Store} {n : Nat} {l : List (Int × β)} (h : S[n]? = some (fI u l)) : idOf S (.cell n) = some (n, l.map (kvI u)) := by
  unfold idOf
  dsimp only
  rw [h]
  rfl
theorem xn_newI (u : β → D) (i : Nat) : XN B sl (sAsg eI0 (pName i)) (fun l : List (Int × β) => sl.set i (.f none (fI u l))) (.ok []) := xn_feed (fo := fI u) i fun _ _ _ => rfl
theorem putI_D (l : List (Int × β)) (k : Int) (v : β) : putI (l.map (kvI u)) k (u v) = (putKV l k v).map (kvI u) := by
  unfold putI putKV
  have e : ((l.map (kvI u)).any fun p => decide (p.1 = k)) = l.any fun p => decide (p.1 = k) := by
    rw [List.any_map]
    rfl
  rw [e]
  by_cases c : (l.any fun p => decide (p.1 = k)) = true
  · rw [if_pos c, if_pos c, List.map_map, List.map_map]
    refine List.map_congr_left fun p _ => ?_
    show (if p.1 = k then (p.1, u v) else kvI u p) = kvI u (if p.1 = k then (p.1, v) else p)
    by_cases h : p.1 = k
    · rw [if_pos h, if_pos h]; rfl
    · rw [if_neg h, if_neg h]
  · rw [if_neg c, if_neg c, List.map_append]; rfl
theorem atI_D (k : Int) : ∀ l : List (Int × β), atI' (l.map (kvI u)) k = (atKV l k).map u
  | [] => rfl
  | p :: l => by
    have ih := atI_D k l
    unfold atI' atKV at *
    rw [List.map_cons, List.find?_cons, List.find?_cons]
    show Option.map _ (match decide (p.1 = k) with | true => some (kvI u p) | false => _) = _
    by_cases c : p.1 = k
    · rw [decide_eq_true c]; rfl
    · rw [decide_eq_false c]; exact ih
theorem xn_setI {mv mi : M D} {fv : R β} {fi : R Int} {f' : R (List (Int × β))} {l : List (Int × β)} {q : Option Nat} (i : Nat) (hi : sl[i]? = some (.f q (fI u l))) (hv : XE B sl mv (vP u) fv) (hx : XE B sl mi (vP yI) fi) (e : (fv.bind fun a => fi.bind fun k => setKVR l k a) = f' := by rfl) : XN B sl (sSet mv (eVar i) mi dSetI) (fun l' => sl.set i (.f q (fI u l'))) f' := fun env S r => by
  rw [← e]
  obtain ⟨n, e1, hn, hq⟩ := r.f hi
  unfold sSet
  refine Out.thenN (env := env) r.frm (hv env S r) fun a d qa => ?_
  cases qa
  have e2 : (eVar i : M D) env S = .ok (.cell n) S := by unfold eVar; rw [e1]
  rw [e2]
  dsimp only [then_ok]
  refine Out.thenN (env := env) r.frm (hx env S r) fun k d qk => ?_
  cases qk
  unfold setKVR dSetI
  rw [idict_at hn]
  show OutN B _ _ (match (if (l.map (kvI u)).length < big then some (S.set n (.dI (putI (l.map (kvI u)) k (u a)))) else none) with | some S4 => RS.next env S4 | none => RS.bad)
  rw [List.length_map]
  by_cases hl : l.length < big
  · rw [if_pos hl, if_pos hl, putI_D]
    exact ⟨env, _, rfl, r.wrf (fI u (putKV l k a)) hi e1 hn hq⟩
  · rw [if_neg hl]; trivial
@[irreducible] def getKVR {α β : Type} [DecidableEq α] (l : List (α × β)) (k : α) : R β := match atKV l k with
  | some v => .ok v
  | none => .bad
theorem xe_ixI {mk : M D} {fk : R Int} {f' : R β} {l : List (Int × β)} {q : Option Nat} (i : Nat) (hi : sl[i]? = some (.f q (fI u l))) (hk : XE B sl mk (vP yI) fk) (e : (fk.bind fun k => getKVR l k) = f' := by rfl) : XE B sl (e2 dIxI (eVar i) mk) (vP u) f' := fun env S r => by
  rw [← e]
  obtain ⟨n, e1, hn, hq⟩ := r.f hi
  unfold e2
  rw [show (eVar i : M D) env S = .ok (.cell n) S from by unfold eVar; rw [e1]]
  dsimp only [bind_ok]
  refine Out.bind (hk env S r) fun k d qk => ?_
  cases qk
  unfold dIxI getKVR
  rw [idict_at hn]
  show Out S _ _ (match atI' (l.map (kvI u)) k with | some v => Res.ok v S | none => .bad)
  rw [atI_D]
  cases atKV l k with
  | none => trivial
  | some v => exact ⟨_, rfl, rfl⟩
theorem xe_inI {neg : Bool} {mk : M D} {fk : R Int} {f' : R Bool} {l : List (Int × β)} {q : Option Nat} (i : Nat) (hi : sl[i]? = some (.f q (fI u l))) (hk : XE B sl mk (vP yI) fk) (e : (fk.bind fun k => .ok (if neg then !(atKV l k).isSome else (atKV l k).isSome)) = f' := by rfl) : XE B sl (e2 (dInI neg) mk (eVar i)) (vP yB) f' := fun env S r => by
  rw [← e]
  obtain ⟨n, e1, hn, hq⟩ := r.f hi
  unfold e2
  refine Out.bind (hk env S r) fun k d qk => ?_
  cases qk
  rw [show (eVar i : M D) env S = .ok (.cell n) S from by unfold eVar; rw [e1]]
  dsimp only [bind_ok]
  unfold dInI
  rw [idict_at hn]
  show Out S _ _ (Res.ok (D.bl (if neg then !(atI' (l.map (kvI u)) k).isSome else (atI' (l.map (kvI u)) k).isSome)) S)
  rw [atI_D, Option.isSome_map]
  exact ⟨_, rfl, rfl⟩
theorem xe_lenI {l : List (Int × β)} {q : Option Nat} (i : Nat) (hi : sl[i]? = some (.f q (fI u l))) : XE B sl (eB dLenI (aCons (eVar i) aNil)) (vP yI) (.ok (l.length : Int)) := fun env S r => by
  obtain ⟨n, e1, hn, hq⟩ := r.f hi
  have e3 : (eB dLenI (aCons (eVar i) aNil)) env S = dLenI [.cell n] S := by unfold eB aCons aNil; rw [show (eVar i : M D) env S = .ok (.cell n) S from by unfold eVar; rw [e1]]; rfl
  rw [e3]
  unfold dLenI
  dsimp only
  rw [idict_at hn]
  dsimp only
  rw [List.length_map]
  exact ⟨_, rfl, rfl⟩
end
end Rf

namespace Rf
open PySem PySem.Spec PyProof.Rows L2
section
variable {B : Bs} {sl : List Sl} {env : En} {S : Store}
theorem SRel.n (r : SRel B sl env S) {i : Nat} {dss : List (List D)} (h : sl[i]? = some (.n dss)) : ∃ ns : List Nat, env[i]? = some (some (.lst (ns.map .cell))) ∧ ns.Nodup ∧ ns.length = dss.length ∧ ∀ (j : Nat) (n : Nat), ns[j]? = some n → ∃ ds, dss[j]? = some ds ∧ S[n]? = some (.lst ds) := by
  obtain ⟨o, e, ns, rfl, q⟩ := r.env_at h
  exact ⟨ns, e, q⟩
end
section
variable {α β γ σ : Type} {t : α → D} {u : β → D} {B : Bs} {sl : List Sl}
end
end Rf

namespace PySem
open Sem (wp)
section
variable {prog : Program} {w : World} {A : Around} {R : Result → Shared → Prop} {I ax : Addr} {items : Array Value}
end
section
variable {prog : Program} {w : World} {A : Around} {E : Value → Shared → Prop} {s : Shared}
end
end PySem
namespace Rf
open PySem PySem.Spec PyProof.Rows L2
section
variable {X : Cx} {pins : List (Addr × Obj)} {σ : L2.St} {H : Hp} {s : Shared}
end
section
variable {α : Type} {t : α → D}
end
end Rf

namespace Rf
open PySem PySem.Spec PyProof.Rows L2
section
variable {X : Cx} {cA : Nat → Addr} {Wout : WX}
end
section
variable {B : Bs} {sl : List Sl} {α β γ σ : Type} {t : α → D}
end
def dMulL (d e : D) (S : Store) : Res (List D) := match lstOf S d, e with
  | some ds, .int k => if 0 ≤ k ∧ (k ≤ 1000 ∧ ds.length ≤ 1000 ∨ k ≤ 1000000 ∧ ds.length ≤ 1) then .ok (List.replicate k.toNat ds).flatten S else .bad
  | _, _ => .bad
def fMulL (ma mb : M D) : M (List D) := fun env S => (ma env S).bind fun x S1 => (mb env S1).bind fun y S2 => dMulL x y S2
theorem rep_len {α : Type} (ys : List α) {k : Int} (h : k ≤ 1000 ∧ ys.length ≤ 1000 ∨ k ≤ 1000000 ∧ ys.length ≤ 1) : ys.length * k.toNat ≤ 1000000 := by
  rcases h with ⟨h0, hy⟩ | ⟨h0, hy⟩
  · have : ys.length * k.toNat ≤ 1000 * 1000 := Nat.mul_le_mul hy (by omega)
    omega
  · have : ys.length * k.toNat ≤ 1 * 1000000 := Nat.mul_le_mul hy (by omega)
    omega
section
variable {X : Cx} {cA : Nat → Addr} {W : WX}
theorem jf_mulL {a b : Expr} {pos : Pos} {ma mb : M D} (ha : PE X a (tE X.K cA W ma)) (hb : PE X b (tE X.K cA W mb)) : PE X (.BinOp a .Mult b pos) (tFr X.K cA W (fMulL ma mb)) := by
  refine pe_imp (pe_op op_rep ha hb) ?_
  rintro σ H Q ⟨G, ρ, env, S, hE, hS, h⟩
  unfold fMulL at h
  refine ⟨G, ρ, env, S, hE, hS, OkF.bind h fun x S1 v ρ1 H1 r1 x1 k1 h1 => ?_⟩
  refine ⟨G, ρ1, env, S1, hE.keep k1, r1, OkF.bind h1 fun y S2 u ρ2 H2 r2 x2 k2 h2 => ?_⟩
  have x3 := Rep.keep k2 x v x1
  unfold dMulL at h2
  revert h2
  cases e1 : lstOf S2 x with
  | none => exact fun h => h.elim
  | some xs =>
    cases y with
    | int k =>
      intro h
      dsimp only at h
      cases (show u = .int k from x2)
      obtain ⟨a, vs, rfl, q1, q2⟩ := rep_lst r2 x3 e1
      by_cases hl : 0 ≤ k ∧ (k ≤ 1000 ∧ xs.length ≤ 1000 ∨ k ≤ 1000000 ∧ xs.length ≤ 1)
      · rw [if_pos hl] at h
        refine ⟨a, k, vs, rfl, rfl, q1, by omega, by omega, ?_, fun p hp => h p _ ρ2 H2 r2 (q2.rep _) Keep.refl hp⟩
        rw [sizeLine_eq]
        have := rep_len vs (k := k) (by rw [q2.length]; exact hl.2)
        omega
      · rw [if_neg hl] at h; exact h.elim
    | _ => exact fun h => h.elim
end
section
variable {B : Bs} {sl : List Sl} {α β γ σ : Type} {t : α → D}
def mulLR (l : List α) (k : Int) : R (List α) := if 0 ≤ k ∧ (k ≤ 1000 ∧ l.length ≤ 1000 ∨ k ≤ 1000000 ∧ l.length ≤ 1) then .ok (List.replicate k.toNat l).flatten else .bad
theorem flat_map (t : α → D) (l : List α) : ∀ m : Nat, (List.replicate m (l.map t)).flatten = ((List.replicate m l).flatten).map t
  | 0 => rfl
  | m + 1 => by rw [List.replicate_succ, List.flatten_cons, List.replicate_succ, List.flatten_cons, List.map_append, flat_map t l m]
theorem xe_mulL {ma mb : M D} {fa : R (List α)} {fb : R Int} {f' : R (List α)} (ha : XE B sl ma (vP (yL t)) fa) (hb : XE B sl mb (vP yI) fb) (e : (fa.bind fun a => fb.bind fun b => mulLR a b) = f' := by rfl) : XE B sl (fMulL ma mb) (vP (lM t)) f' := fun env S r => by
  rw [← e]
  refine Out.bind (ha env S r) fun a d pa => Out.bind (hb env S r) fun b d' pb => ?_
  cases pa; cases pb
  show Out S (vP (lM t)) (mulLR a b) (if 0 ≤ b ∧ (b ≤ 1000 ∧ (a.map t).length ≤ 1000 ∨ b ≤ 1000000 ∧ (a.map t).length ≤ 1) then Res.ok (List.replicate b.toNat (a.map t)).flatten S else .bad)
  unfold mulLR
  rw [List.length_map]
  by_cases hl : 0 ≤ b ∧ (b ≤ 1000 ∧ a.length ≤ 1000 ∨ b ≤ 1000000 ∧ a.length ≤ 1)
  · rw [if_pos hl, if_pos hl]; exact ⟨_, rfl, flat_map t a _⟩
  · rw [if_neg hl]; trivial
end
def unOT {α : Type} : List (Option α) → R (List α)
  | [] => .ok []
  | some a :: l => (unOT l).bind fun k => .ok (a :: k)
  | none :: _ => .bad
theorem unOT_map {α : Type} {t : α → D} : ∀ (l : List (Option α)) (k : List α), unOT l = .ok k → l.map (yO t) = k.map t
  | [], k, h => by cases h; rfl
  | some a :: l, k, h => by
    unfold unOT at h
    cases e : unOT l with
    | ok k2 => rw [e] at h; cases h; show t a :: l.map (yO t) = t a :: k2.map t; rw [unOT_map l k2 e]
    | err c => rw [e] at h; cases h
    | bad => rw [e] at h; cases h
  | none :: _, k, h => by cases h
theorem unOT_err {α : Type} : ∀ (l : List (Option α)) (c : Nat), unOT l ≠ .err c
  | [], c => fun h => by cases h
  | some a :: l, c => fun h => by
    unfold unOT at h
    cases e : unOT l with
    | ok k2 => rw [e] at h; cases h
    | err c2 => exact unOT_err l c2 e
    | bad => rw [e] at h; cases h
  | none :: _, c => fun h => by cases h
theorem XE.unOT {B : Bs} {sl : List Sl} {α : Type} {t : α → D} {m : M D} {f : R (List (Option α))} {f' : R (List α)} (h : XE B sl m (vP (yT (yO t))) f) (e : (f.bind fun l => Rf.unOT l) = f' := by rfl) : XE B sl m (vP (yT t)) f' := fun env S r => by
  have q := h env S r
  rw [← e]
  cases f with
  | bad => trivial
  | err c => exact q
  | ok l =>
    obtain ⟨d, q1, rfl⟩ := q
    show Out S (vP (yT t)) (Rf.unOT l) _
    cases el : Rf.unOT l with
    | bad => trivial
    | err c => exact absurd el (unOT_err l c)
    | ok k => exact ⟨_, q1, by show D.tup (l.map (yO t)) = D.tup (k.map t); rw [unOT_map l k el]⟩
section
variable {B : Bs} {sl : List Sl} {α : Type} {t : α → D}
end
section
variable {B : Bs} {sl : List Sl} {α β : Type} {t : α → D} {u : β → D}
end
section
variable {B : Bs} {sl : List Sl} {α β : Type} {t : α → D}
end
end Rf

namespace Rf
open PySem PySem.Spec PyProof.Rows L2
structure OCls (K : PySem.W.Frag) (x : Str) (C : Addr) : Prop where
  ns : PySem.W.nsIn K mainGlobals x = some (some (.ref C))
  cl : L2.Cls K C
def putA (f : Str) (v : D) : List (Str × D) → List (Str × D)
  | [] => [(f, v)]
  | (g, x) :: r => if g = f then (g, v) :: r else (g, x) :: putA f v r
section
variable {K : PySem.W.Frag} {G : Addr → Prop} {ρ : List Addr} {H : Hp} {S : Store}
theorem RepF.put {f : Str} {d : D} {v : V} (hd : Rep K G ρ H d v) : ∀ {fs : List (Str × D)} {vs : List (Str × V)}, RepF K G ρ H fs vs → RepF K G ρ H (putA f d fs) (putF f v vs)
  | [], vs, h => by rw [show vs = [] from h]; exact ⟨v, [], rfl, hd, rfl⟩
  | (k, e) :: r, vs, h => by
    obtain ⟨u, vs', rfl, h1, h2⟩ := h
    unfold putA putF
    by_cases c : k = f
    · rw [if_pos c, if_pos c]; exact ⟨v, vs', rfl, hd, h2⟩
    · rw [if_neg c, if_neg c]; exact ⟨u, _, rfl, h1, RepF.put hd h2⟩
theorem RepF.length : ∀ {fs : List (Str × D)} {vs : List (Str × V)}, RepF K G ρ H fs vs → vs.length = fs.length
  | [], vs, h => by rw [show vs = [] from h]; rfl
  | (k, d) :: r, vs, h => by
    obtain ⟨v, vs', rfl, h1, h2⟩ := h
    show vs'.length + 1 = r.length + 1
    rw [RepF.length h2]
end
section
variable {X : Cx} {cA : Nat → Addr} {W : WX} {e o : Expr} {pos pos' apos p : Pos} {x f m : Str} {C : Addr}
structure OMk (K : PySem.W.Frag) (mg : Str → Option Value) (x : Str) (C g : Addr) : Prop where
  cls : OCls K x C
  mkd : Mk K C g
  gl : mg x = some (.ref C)
end
section
variable {P : Program} {w : World} {K : PySem.W.Frag} {mg : Str → Option Value} {base : Heap} {cA : Nat → Addr}
end
end Rf

namespace PySem
open Sem (wp)
section
variable {prog : Program} {w : World} {A : Around} {E : Value → Shared → Prop} {s : Shared}
end
end PySem

namespace Rf
open PySem PySem.Spec PyProof.Rows L2
section
variable {X : Cx} {cA : Nat → Addr} {W : WX}
end
end Rf

namespace Rf
open PySem PySem.Spec PyProof.Rows L2
section
variable {α β γ δ ρ σ : Type} {t : α → D} {u : β → D} {B : Bs} {sl : List Sl}
def ObAt (sl : List Sl) (i k : Nat) (f : Nat → List Ob) : Prop := sl[i]? = some (.q k f) ∨ sl[i]? = some (.o k f)
def CellsAt (S : Store) (n k : Nat) (l : List Ob) : Prop := l.length = k ∧ ∀ (j : Nat) (ob : Ob), l[j]? = some ob → S[n + j]? = some ob
theorem SRel.ob {env : En} {S : Store} {i k : Nat} {f : Nat → List Ob} (r : SRel B sl env S) (h : ObAt sl i k f) : ∃ n, env[i]? = some (some (.cell n)) ∧ CellsAt S n k (f n) := by
  rcases h with h | h
  · obtain ⟨o, e, n, rfl, q⟩ := r.env_at h
    exact ⟨n, e, q⟩
  · obtain ⟨o, e, n, rfl, q⟩ := r.env_at h
    exact ⟨n, e, q⟩
theorem Fr.refl {S : Store} : Fr ⟨S, []⟩ S := ⟨Nat.le_refl _, fun _ _ _ => rfl⟩
theorem Fr.more {S S' : Store} (h : Fr B S) (h' : Fr ⟨S, []⟩ S') : Fr B S' := ⟨Nat.le_trans h.len h'.len, fun i hi hq => by rw [h'.same i (Nat.lt_of_lt_of_le hi h.len) (fun z => nomatch z)]; exact h.same i hi hq⟩
theorem SRel.more {env : En} {S S' : Store} (r : SRel B sl env S) (h : Fr ⟨S, []⟩ S') : SRel B sl env S' := by
  have old : ∀ x, x < S.length → S'[x]? = S[x]? := fun x hx => h.same x hx (fun z => nomatch z)
  exact ⟨r.len, fun i s d h1 h2 => (r.at_ i s d h1 h2).same fun x hx => old x (rc_lt (r.at_ i s d h1 h2) hx), r.dis, r.own, r.frm.more h⟩
end
end Rf

namespace Rf
open PySem PySem.Spec PyProof.Rows L2
section
variable {α : Type} {t : α → D}
end
end Rf

namespace Rf
open PySem PySem.Spec PyProof.Rows L2
section
variable {X : Cx}
end
section
variable {α β : Type} {t : α → D} {u : β → D} {B : Bs} {sl : List Sl}
end
end Rf

namespace Rf
open PySem PySem.Spec PyProof.Rows L2
section
variable {X : Cx} {cA : Nat → Addr} {W : WX}
end
end Rf

namespace Rf
open PySem PySem.Spec PyProof.Rows L2
section
variable {X : Cx} {cA : Nat → Addr} {W : WX}
end
end Rf

namespace Rf
open PySem PySem.Spec PyProof.Rows L2
section
variable {κ α β γ : Type} {ek : κ → D} {et : α → D} {B : Bs} {sl : List Sl}
theorem SRel.p {env : En} {S : Store} {i m : Nat} {f : Nat → List Ob} (r : SRel B sl env S) (h : sl[i]? = some (.p m f)) : ∃ b, env[i]? = some (some (.cell (b + m))) ∧ (f b).length = m + 1 ∧ ∀ (j : Nat) (ob : Ob), (f b)[j]? = some ob → S[b + j]? = some ob := by
  obtain ⟨o, e, b, rfl, q⟩ := r.env_at h
  exact ⟨b, e, q⟩
end
end Rf

namespace Rf
open PySem PySem.Spec PyProof.Rows L2
section
variable {X : Cx} {a : Expr} {p p2 q pos : Pos} {cA : Nat → Addr} {W : WX}
end
section
variable {B : Bs} {sl : List Sl} {α β γ σ : Type} {t : α → D} {u : β → D}
end
section
variable {B : Bs} {sl : List Sl} {α β γ σ : Type} {t : α → D} {u : β → D}
end
section
variable {α β σ : Type} {t : α → D} {S0 : Store} {sl : List Sl} {q : Nat}
end
section
variable {B : Bs} {sl : List Sl} {α β γ ε : Type} {t : α → D}
end
def yE {α : Type} (t : α → D) : Option α → D
  | none => .tup []
  | some a => t a
instance {α : Type} {t : α → D} [TPu t] : TPu (yE t) := ⟨fun o => by
  cases o with
  | none => rfl
  | some a => exact TPu.pu (t := t) a⟩
section
variable {B : Bs} {sl : List Sl} {α : Type} {t : α → D}
end
end Rf

namespace Rf
open PySem PySem.Spec PyProof.Rows L2
section
variable {X : Cx} {cA : Nat → Addr} {pins : List (Addr × Obj)} {σ : L2.St}
structure MinJ (X : Cx) (pins : List (Addr × Obj)) (σ : L2.St) (G : Addr → Prop) (ρ : List Addr) (S : Store) (H : Hp) (d : D) (a It Sx : Addr) (s : Shared) : Prop where
  ex : ∃ ρ' H', Inv X pins σ H' s ∧ RelS X.K G ρ' S H' ∧ Keep G ρ H ρ' H' ∧ Rep X.K G ρ' H' d (.ref a) ∧ FpOk X pins H' It ∧ FpOk X pins H' Sx
end
section
variable {X : Cx} {cA : Nat → Addr} {W : WX}
end
section
variable {X : Cx} {cA : Nat → Addr} {W : WX}
end
section
variable {B : Bs} {sl : List Sl}
end
end Rf

namespace Rf
open PySem PySem.Spec PyProof.Rows L2
section
variable {X : Cx} {cA : Nat → Addr} {W : WX}
end
section
variable {X : Cx} {cA : Nat → Addr} {W : WX}
end
section
variable {B : Bs} {sl : List Sl} {α κ : Type} {t : κ → D} {P0 : α → D → Store → Prop}
end
end Rf

namespace L2
open PySem PySem.Spec PyProof.Rows
section
variable {w : World} {P : Program} {A : Around} {s : Shared} {E : Value → Shared → Prop}
end
end L2

namespace Rf
open PySem PySem.Spec PyProof.Rows L2
section
variable {X : Cx} {a : Expr} {p p2 q pos : Pos} {cA : Nat → Addr} {W : WX}
end
section
variable {B : Bs} {sl : List Sl}
end
end Rf

namespace Rf
open PySem PySem.Spec PyProof.Rows L2
section
variable {α β : Type} {t : α → D} {u : β → D} {B : Bs} {sl : List Sl}
end
end Rf

namespace Rf
open PySem PySem.Spec PyProof.Rows L2
section
variable {α β γ δ σ κ : Type} {t : α → D} {u : β → D} {B : Bs} {sl : List Sl}
end
end Rf

namespace Rf
open PySem PySem.Spec PyProof.Rows L2
section
variable {X : Cx} {b : Expr} {pos p2 : Pos} {cA : Nat → Addr} {W : WX}
end
section
variable {X : Cx} {e : Expr} {cA : Nat → Addr} {W : WX}
def tBad : M Bool := fun _ _ => .bad
theorem jt_bad : PT X e (tT X.K cA W tBad) := ⟨fun _ _ _ _ _ _ ⟨_, _, _, _, _, _, h⟩ => h.elim⟩
end
section
variable {α β γ δ σ κ : Type} {t : α → D} {u : β → D} {B : Bs} {sl : List Sl}
theorem xt_badA {m : M Bool} : XE B sl m bP (.bad : R Bool) := fun _ _ _ => trivial
theorem xb_badA {ρ : Type} {m : MS} {P : ρ → D → Store → Prop} : XB B sl m P (.bad : R ρ) := fun _ _ _ => trivial
end
end Rf

namespace Rf
open PySem PySem.Spec PyProof.Rows L2
theorem kit_bt {K : PySem.W.Frag} {C : Addr} {T : String} {b : Bool} (e2 : PySem.W.kitMeta T = true) (hs : PySem.W.subIn K (.ref C) (.type T) = some b) : PySem.W.kitOne K (.ref C) (.type T) = some b := by
  have e1 : (Value.ref C == Value.type T) = false := beq_eq_false_iff_ne.mpr fun z => nomatch z
  unfold PySem.W.kitOne
  rw [e1, if_neg (by decide)]
  show (if PySem.W.kitMeta T = true then PySem.W.subIn K (.ref C) (.type T) else none) = some b
  rw [if_pos e2]
  exact hs
def dSplit (d e : D) (S : Store) : Res D := match d, e with
  | .str a, .str b => if (b.length == 0) = false ∧ a.length + 2 ≤ 1000 then .ok (.lst ((Txt.split a b).map D.str)) S else .bad
  | _, _ => .bad
theorem repL_strs {K : PySem.W.Frag} {G : Addr → Prop} {ρ : List Addr} {H : Hp} : ∀ ys : List Str, RepL K G ρ H (ys.map D.str) (ys.map V.str)
  | [] => rfl
  | y :: ys => ⟨_, _, rfl, rfl, repL_strs ys⟩
def dSlT (d : D) (lo hi : Option Int) (S : Store) : Res D := match d with
  | .str z => if z.length ≤ 1000 then .ok (.str (Txt.slice z lo hi)) S else .bad
  | _ => .bad
section
variable {X : Cx} {o e a : Expr} {lo hi : Option Expr} {pos p2 apos : Pos} {cA : Nat → Addr} {W : WX}
def eSpl (mo me : M D) : M D := fun env S => (mo env S).bind fun x S1 => match x with
  | .str a => (me env S1).bind fun y S2 => dSplit (.str a) y S2
  | _ => .bad
theorem je_split {mo me : M D} (ho : PE X o (tE X.K cA W mo)) (he : PE X e (tE X.K cA W me)) (hs : starEach [e] X.env = [(false, eval e X.env)] := by rfl) (hbase : attributeBase o "split" X.env (eval o X.env) = eval o X.env := by rfl) (hline : (apos.endLine == pos.line) = true := by rfl) :
    PE X (.Call (.Attribute o "split" apos) [e] [] pos) (tE X.K cA W (eSpl mo me)) :=
  pe_imp (pe_split ho he hs hbase hline) (by
    rintro σ H Q ⟨G, ρ, env, S, hE, hS, h⟩
    refine ⟨G, ρ, env, S, hE, hS, Ok.bind h fun x S1 v ρ1 H1 r1 x1 k1 h1 => ?_⟩
    cases x with
    | str a =>
      cases (show v = .str a from x1)
      refine ⟨⟨a, rfl⟩, G, ρ1, env, S1, hE.keep k1, r1, Ok.bind h1 fun y S2 v2 ρ2 H2 r2 x2 k2 h2 => ?_⟩
      cases y with
      | str b =>
        cases (show v2 = .str b from x2)
        unfold dSplit at h2
        dsimp only at h2
        by_cases c : (b.length == 0) = false ∧ a.length + 2 ≤ 1000
        · rw [if_pos c] at h2
          refine ⟨a, b, rfl, rfl, c.1, by rw [sizeLine_eq]; omega, fun p hp => ?_⟩
          have k3 : Keep G ρ2 H2 ρ2 (upd H2 p (.lst ((Txt.split a b).map V.str))) := Keep.new hp r2.gt
          exact h2 _ ρ2 _ (r2.new hp) ⟨p, _, rfl, ⟨r2.fresh hp, r2.ngn hp, upd_same⟩, repL_strs _⟩ k3
        · rw [if_neg c] at h2; exact h2.elim
      | _ => exact h2.elim
    | _ => exact h1.elim)
theorem je_slT {ma : M D} {ml mh : M (Option Int)} (ha : PE X a (tE X.K cA W ma)) (hl : PO X lo (tOo X.K cA W ml)) (hh : PO X hi (tOo X.K cA W mh)) : PE X (.Subscript a (.Slice lo hi none p2) pos) (tE X.K cA W (eSl dSlT ma ml mh)) := by
  refine pe_imp (pe_slice C8.sl_txt ha hl hh) ?_
  rintro σ H Q ⟨G, ρ, env, S, hE, hS, h⟩
  refine ⟨G, ρ, env, S, hE, hS, Ok.bind h fun x S1 v ρ1 H1 r1 x1 k1 h1 => ?_⟩
  refine ⟨G, ρ1, env, S1, hE.keep k1, r1, Ok.bind h1 fun l S2 l' ρ2 H2 r2 x2 k2 h2 => ?_⟩
  refine ⟨G, ρ2, env, S2, (hE.keep k1).keep k2, r2, Ok.bind h2 fun u S3 u' ρ3 H3 r3 x3 k3 h3 => ?_⟩
  cases (show l' = l from x2)
  cases (show u' = u from x3)
  cases x with
  | str z =>
    cases (show v = .str z from x1)
    unfold dSlT at h3
    dsimp only at h3
    by_cases c : z.length ≤ 1000
    · rw [if_pos c] at h3
      exact ⟨z, rfl, by rw [sizeLine_eq]; omega, h3.now r3 rfl⟩
    · rw [if_neg c] at h3; exact h3.elim
  | _ => exact h3.elim
end
section
variable {α β γ δ σ κ : Type} {t : α → D} {u : β → D} {B : Bs} {sl : List Sl}
def splitR (a b : Str) : R (List Str) := if (b.length == 0) = false ∧ a.length + 2 ≤ 1000 then .ok (Txt.split a b) else .bad
theorem op_split : Op2 dSplit (vP yS) (vP yS) (vP (yL yS)) splitR := fun a b d e S h1 h2 => by
  cases h1
  cases h2
  have e2 : dSplit (yS a) (yS b) S = if (b.length == 0) = false ∧ a.length + 2 ≤ 1000 then .ok (.lst ((Txt.split a b).map D.str)) S else .bad := rfl
  rw [e2]
  unfold splitR
  by_cases c : (b.length == 0) = false ∧ a.length + 2 ≤ 1000
  · rw [if_pos c, if_pos c]; exact ⟨_, rfl, rfl⟩
  · rw [if_neg c]; trivial
theorem xe_spl {mo me : M D} {fa fb : R Str} {f' : R (List Str)} (ha : XE B sl mo (vP yS) fa) (hb : XE B sl me (vP yS) fb) (e : (fa.bind fun a => fb.bind fun b => splitR a b) = f' := by rfl) : XE B sl (eSpl mo me) (vP (yL yS)) f' := fun env S r => by
  rw [← e]
  have h1 := ha env S r
  cases fa with
  | bad => trivial
  | err c =>
    show eSpl mo me env S = _
    unfold eSpl
    rw [show mo env S = _ from h1]; rfl
  | ok a =>
    obtain ⟨d, q1, q2⟩ := h1
    cases q2
    have e3 : eSpl mo me env S = (me env S).bind fun y S2 => dSplit (.str a) y S2 := by
      unfold eSpl
      rw [q1]; rfl
    rw [R.ok_bind, e3]
    have h2 := hb env S r
    cases fb with
    | bad => trivial
    | err c =>
      show (me env S).bind _ = _
      rw [show me env S = _ from h2]; rfl
    | ok b =>
      obtain ⟨d, q1, q2⟩ := h2
      cases q2
      rw [q1]
      exact op_split a b _ _ S rfl rfl
theorem sl54 {α1 α2 α3 α4 α5 : Type} {u1 : α1 → D} {u2 : α2 → D} {u3 : α3 → D} {u4 : α4 → D} {u5 : α5 → D} {m : M D} {f : R (α1 × α2 × α3 × α4 × α5)} {f' : R (α1 × α2 × α3 × α4)} (h : XE B sl m (vP (yP5 u1 u2 u3 u4 u5)) f) (e : (f.bind fun p => .ok (p.1, p.2.1, p.2.2.1, p.2.2.2.1)) = f' := by rfl) : XE B sl (eSl dSl m oNone (oSome (eC (.int 4)))) (vP (yP4 u1 u2 u3 u4)) f' := fun env S r => by
  rw [← e]
  have := h env S r
  cases f with
  | bad => trivial
  | err c =>
    show eSl dSl m oNone (oSome (eC (.int 4))) env S = _
    unfold eSl
    rw [show m env S = _ from this]; rfl
  | ok x =>
    obtain ⟨d, q1, q2⟩ := this
    cases q2
    refine ⟨_, ?_, rfl⟩
    unfold eSl
    rw [q1]
    rfl
def slTR (x : Str) (lo hi : Option Int) : R Str := if x.length ≤ 1000 then .ok (Txt.slice x lo hi) else .bad
theorem xe_slTk {m : M D} {f f' : R Str} {ml mh : M (Option Int)} (lo hi : Option Int) (hl : ∀ env S, ml env S = .ok lo S) (hh : ∀ env S, mh env S = .ok hi S) (h : XE B sl m (vP yS) f) (e : (f.bind fun x => slTR x lo hi) = f' := by rfl) : XE B sl (eSl dSlT m ml mh) (vP yS) f' := fun env S r => by
  rw [← e]
  have := h env S r
  cases f with
  | bad => trivial
  | err c =>
    show eSl dSlT m ml mh env S = _
    unfold eSl
    rw [show m env S = _ from this]; rfl
  | ok x =>
    obtain ⟨d, q1, q2⟩ := this
    cases q2
    have e3 : eSl dSlT m ml mh env S = dSlT (yS x) lo hi S := by
      unfold eSl
      rw [q1]
      show (ml env S).bind _ = _
      rw [hl]
      show (mh env S).bind _ = _
      rw [hh]; rfl
    rw [R.ok_bind, e3]
    unfold slTR
    have e2 : dSlT (yS x) lo hi S = if x.length ≤ 1000 then .ok (.str (Txt.slice x lo hi)) S else .bad := rfl
    rw [e2]
    by_cases c : x.length ≤ 1000
    · rw [if_pos c, if_pos c]; exact ⟨_, rfl, rfl⟩
    · rw [if_neg c]; trivial
theorem xn_tryIfE {E : σ → List Sl} {c : M Bool} {ma mb : M D} {ms : MS} {ct : Nat → Option Bool} {cn : Nat → Str} {P : α → D → Store → Prop} {P' : β → D → Store → Prop} {fc : R Bool} {fa : R α} {fb : R β} {fv : σ} {fs : Nat → R σ} (i : Nat) (hc : XE B sl c bP fc) (ha : XE B sl ma P fa) (hb : XE B sl mb P' fb) (hn : XN B sl sNil E (.ok fv)) (hs : ∀ c, XN B (sl.set i (.v (yX cn c))) ms E (fs c)) (hi : ∀ s, (E s)[i]? = some .u) : XN B sl (sTry (sIf c (sExpr ma) (sExpr mb)) ct cn i ms) E (tryR ct (fc.bind fun x => if x = true then fa.bind fun _ => .ok () else fb.bind fun _ => .ok ()) (fun _ => .ok fv) fs) := by
  have one : ∀ {γ : Type} {Q : γ → D → Store → Prop} {m : M D} {f : R γ}, XE B sl m Q f → ∀ env S, SRel B sl env S → (match (f.bind fun _ => (.ok () : R Unit)) with | .ok _ => OutN B E (.ok fv) (sExpr m env S) ∧ (∀ c, (.ok fv : R σ) ≠ .err c) | .err c => sExpr m env S = .err c env S | .bad => True) := fun {γ Q m f} hm env S r => by
    have h := hm env S r
    unfold sExpr
    cases f with
    | bad => trivial
    | err c => rw [show m env S = _ from h]; rfl
    | ok a =>
      obtain ⟨d, q, _⟩ := h
      rw [q]
      exact ⟨hn env S r, fun c z => by cases z⟩
  refine xn_try0 (g := fun _ : Unit => (.ok fv : R σ)) i (fun env S r => ?_) hs hi
  have h := hc env S r
  cases fc with
  | bad => trivial
  | err k =>
    show sIf c (sExpr ma) (sExpr mb) env S = _
    unfold sIf
    rw [show c env S = _ from h]; rfl
  | ok x =>
    obtain ⟨d, q, hd⟩ := h
    cases hd
    have e0 : sIf c (sExpr ma) (sExpr mb) env S = if x = true then sExpr ma env S else sExpr mb env S := by
      unfold sIf
      rw [q]; rfl
    rw [e0, R.ok_bind]
    cases x with
    | true => simp only [if_true]; have z := one ha env S r; generalize (fa.bind fun _ => (R.ok () : R Unit)) = q at z ⊢; cases q <;> exact z
    | false => simp only [Bool.false_eq_true, if_false]; have z := one hb env S r; generalize (fb.bind fun _ => (R.ok () : R Unit)) = q at z ⊢; cases q <;> exact z
end
end Rf

namespace Rf
open PySem PySem.Spec PyProof.Rows L2
section
variable {K : PySem.W.Frag} {G : Addr → Prop} {ρ : List Addr} {H : Hp} {S : Store}
end
section
variable {X : Cx} {cA : Nat → Addr} {W : WX} {e : Expr} {pos : Pos}
end
end Rf

namespace Rf
open PySem PySem.Spec PyProof.Rows L2
section
variable {X : Cx} {pins : List (Addr × Obj)} {σ : L2.St} {H : Hp} {s : Shared}
end
section
variable {X : Cx} {cA : Nat → Addr} {W : WX}
open PySem.W (EachIs AllAlike alike dataLe)
end
def frL (f : D → Store → Option (D × Store)) : List D → Store → Option (List D × Store)
  | [], S => some ([], S)
  | d :: r, S => match f d S with
    | some (e, S1) => (match frL f r S1 with
      | some (es, S2) => some (e :: es, S2)
      | none => none)
    | none => none
def isGone (S : Store) (j : Nat) : Bool := match S[j]? with
  | some .gone => true
  | _ => false
section
variable {X : Cx} {pins : List (Addr × Obj)} {σ : L2.St} {s : Shared} {G : Addr → Prop} {ρ : List Addr}
structure Frz (X : Cx) (pins : List (Addr × Obj)) (σ : L2.St) (s : Shared) (G : Addr → Prop) (ρ : List Addr) (H : Hp) (S' : Store) (H' : Hp) : Prop where
  inv : Inv X pins σ H' s
  rel : RelS X.K G ρ S' H'
  kp : Keep G ρ H ρ H'
  old : ∀ i a, ρ[i]? = some a → isGone S' i = true ∨ H' a = H a
theorem gone_set {S : Store} {j i : Nat} (h : isGone S i = true ∨ (i = j ∧ j < S.length)) : isGone (S.set j .gone) i = true := by
  unfold isGone
  by_cases e : i = j
  · subst e
    have hl : i < S.length := by
      rcases h with h | h
      · unfold isGone at h
        cases e2 : S[i]? with
        | none => rw [e2] at h; cases h
        | some o => exact (List.getElem?_eq_some_iff.mp e2).1
      · exact h.2
    rw [List.getElem?_set_self hl]
  · rw [List.getElem?_set_ne (Ne.symm e)]
    rcases h with h | h
    · exact h
    · exact absurd h.1 e
theorem Frz.one {H : Hp} {S1 : Store} {H1 : Hp} {j : Nat} {a : Addr} {u : HO} (z : Frz X pins σ s G ρ H S1 H1) (ha : ρ[j]? = some a) (ng : isGone S1 j = false) (hu : H a = some u) (mu : Mut (some u)) (hw : (∃ vs, u = .lst vs) ∨ (∃ φ, u = .ext φ) ∨ ∃ kvs, u = .dK kvs) :
    ∃ o H2, Frz X pins σ s G ρ H (S1.set j .gone) H2 ∧ H2 a = some (.frz o u) ∧ Keep G ρ H1 ρ H2 := by
  have h1 : H1 a = some u := by
    rcases z.old j a ha with h | h
    · rw [ng] at h; cases h
    · rw [h]; exact hu
  obtain ⟨o, I⟩ := z.inv.lock h1 mu
  have hw2 : (∃ vs, H1 a = some (.lst vs)) ∨ (∃ φ, H1 a = some (.ext φ)) ∨ (∃ kvs, H1 a = some (.dK kvs)) ∨ ∃ C dx fs, H1 a = some (.ins C dx fs) := by
    rcases hw with ⟨_, rfl⟩ | ⟨_, rfl⟩ | ⟨_, rfl⟩
    · exact .inl ⟨_, h1⟩
    · exact .inr (.inl ⟨_, h1⟩)
    · exact .inr (.inr (.inl ⟨_, h1⟩))
  have ok : okO (.frz o u) := by rcases hw with ⟨_, rfl⟩ | ⟨_, rfl⟩ | ⟨_, rfl⟩ <;> trivial
  obtain ⟨r', k'⟩ := z.rel.write (o := .gone) (u := .frz o u) ha hw2 ⟨_, upd_same⟩ ok
  refine ⟨o, _, ⟨I, r', z.kp.trans k', fun i b hb => ?_⟩, upd_same, k'⟩
  by_cases e : i = j
  · subst e
    exact .inl (gone_set (.inr ⟨rfl, by rw [← z.rel.len]; exact (List.getElem?_eq_some_iff.mp ha).1⟩))
  · rcases z.old i b hb with h | h
    · exact .inl (gone_set (.inl h))
    · refine .inr ?_
      have : b ≠ a := fun q => e (by
        subst q
        obtain ⟨l1, e1⟩ := List.getElem?_eq_some_iff.mp hb
        obtain ⟨l2, e2⟩ := List.getElem?_eq_some_iff.mp ha
        exact (List.getElem_inj z.rel.nd).mp (e1.trans e2.symm))
      rw [upd_ne this]
      exact h
theorem Frz.then {H H1 H2 : Hp} {S1 S2 : Store} (z1 : Frz X pins σ s G ρ H S1 H1) (z2 : Frz X pins σ s G ρ H1 S2 H2) (mono : ∀ i, isGone S1 i = true → isGone S2 i = true) : Frz X pins σ s G ρ H S2 H2 :=
  ⟨z2.inv, z2.rel, z1.kp.trans z2.kp, fun i a ha => by
    rcases z2.old i a ha with h | h
    · exact .inl h
    · rcases z1.old i a ha with q | q
      · exact .inl (mono i q)
      · exact .inr (h.trans q)⟩
end
section
variable {X : Cx} {cA : Nat → Addr} {W : WX}
end
end Rf

namespace Rf
open PySem PySem.Spec PyProof.Rows L2
section
variable {X : Cx} {cA : Nat → Addr} {W : WX}
end
end Rf

namespace Rf
open PySem PySem.Spec PyProof.Rows L2
def yV {α β : Type} (t : α → D) (u : β → D) : List (α × β) → D := fun l => .dct 2 (l.map fun p => t p.1) (l.map fun p => u p.2)
def yJ {β : Type} (u : β → D) : List (Int × β) → D := fun l => .dct 1 (l.map fun p => .int p.1) (l.map fun p => u p.2)
section
variable {α β γ σ ρ : Type} {t : α → D} {u : β → D} {B : Bs} {sl : List Sl}
instance [TPu t] [TPu u] : TPu (yV t u) := ⟨fun l => by
  show (pureL (l.map fun p => t p.1) && pureL (l.map fun p => u p.2)) = true
  rw [pureL_map (f := fun p : α × β => t p.1) (fun x => TPu.pu (t := t) x.1) l, pureL_map (f := fun p : α × β => u p.2) (fun x => TPu.pu (t := u) x.2) l]; rfl⟩
instance [TPu u] : TPu (yJ u) := ⟨fun l => by
  show (pureL (l.map fun p => D.int p.1) && pureL (l.map fun p => u p.2)) = true
  rw [pureL_map (f := fun p : Int × β => D.int p.1) (fun x => rfl) l, pureL_map (f := fun p : Int × β => u p.2) (fun x => TPu.pu (t := u) x.2) l]; rfl⟩
end
end Rf

namespace Rf
open PySem PySem.Spec PyProof.Rows L2
abbrev Cr := (Int × Int) × (Int × Int) × Int
structure Mo where
  n : Int
  rings : List (List Int)
  ways : List ((Int × Int) × List Int)
  cross : List (Int × Cr)
def yC : Cr → D := yP3 (yP2 yI yI) (yP2 yI yI) yI
instance : TPu yC := ⟨fun _ => rfl⟩
def fsM (m : Mo) : List (Str × D) := [("n", yI m.n), ("rings", yL (yF yI) m.rings), ("ways", yV (yP2 yI yI) (yF yI) m.ways), ("cross", yJ (yP3 (yP2 yI yI) (yP2 yI yI) yI) m.cross)]
def yM (m : Mo) : D := .dct 0 [.str "n", .str "rings", .str "ways", .str "cross"] [yI m.n, yL (yF yI) m.rings, yV (yP2 yI yI) (yF yI) m.ways, yJ (yP3 (yP2 yI yI) (yP2 yI yI) yI) m.cross]
instance : TPu yM := ⟨fun m => by
  show (true && (pureD (yI m.n) && (pureD (yL (yF yI) m.rings) && (pureD (yV (yP2 yI yI) (yF yI) m.ways) && (pureD (yJ (yP3 (yP2 yI yI) (yP2 yI yI) yI) m.cross) && true))))) = true
  rw [TPu.pu (t := yI), TPu.pu (t := yL (yF yI)), TPu.pu (t := yV (yP2 yI yI) (yF yI)), TPu.pu (t := yJ (yP3 (yP2 yI yI) (yP2 yI yI) yI))]
  rfl⟩
class FM (f : Str) {α : Type} (t : outParam (α → D)) (c : outParam (Mo → α)) : Prop where
  fm : ∀ m, (fsM m).lookup f = some (t (c m))
instance : FM "n" yI Mo.n := ⟨fun _ => rfl⟩
instance : FM "rings" (yL (yF yI)) Mo.rings := ⟨fun _ => rfl⟩
instance : FM "ways" (yV (yP2 yI yI) (yF yI)) Mo.ways := ⟨fun _ => rfl⟩
instance : FM "cross" (yJ (yP3 (yP2 yI yI) (yP2 yI yI) yI)) Mo.cross := ⟨fun _ => rfl⟩
section
variable {α β σ ρ : Type} {t : α → D} {B : Bs} {sl : List Sl}
theorem Fr.some {S S' : Store} {b k : Nat} (h : Fr B S) (hl : S'.length = S.length) (hb : ∀ x ∈ List.range' b k, B.S0.length ≤ x) (hs : ∀ x, ¬ (b ≤ x ∧ x < b + k) → S'[x]? = S[x]?) : Fr B S' :=
  ⟨by rw [hl]; exact h.len, fun i hi hq => by
    rw [hs i (fun z => by have := hb i (List.mem_range'.mpr ⟨i - b, by omega, by omega⟩); omega)]
    exact h.same i hi hq⟩
end
end Rf

namespace Rf
open PySem PySem.Spec PyProof.Rows L2
section
variable {X : Cx} {a b c d : Expr} {pos : Pos} {cA : Nat → Addr} {W : WX}
theorem chain3_read {r1 r2 r3 : R2} {f g h : D → D → Store → Res D} {ma mb mc md : M D} (d1 : OpD X.K r1 f) (d2 : OpD X.K r2 g) (d3 : OpD X.K r3 h) : ∀ σ H Q, tE X.K cA W (eChain3 f g h ma mb mc md) σ H Q → tChain3 r1 r2 r3 (tE X.K cA W ma) (tE X.K cA W mb) (tE X.K cA W mc) (tE X.K cA W md) σ H Q := by
  rintro σ H Q ⟨G, ρ, env, S, hE, hS, h⟩
  refine ⟨G, ρ, env, S, hE, hS, Ok.bind h fun x S1 v ρ1 H1 r1 x1 k1 h1 => ?_⟩
  refine ⟨G, ρ1, env, S1, hE.keep k1, r1, Ok.bind h1 fun y S2 u ρ2 H2 r2 x2 k2 h2 => ?_⟩
  refine d1 G ρ2 H2 S2 x y v u (WE' cA W σ) _ r2 (Rep.keep k2 x v x1) x2 (Ok.bind h2 fun k S3 w ρ3 H3 r3 x3 k3 h3 => ?_)
  cases k with
  | bl k =>
    cases (show w = .bl k from x3)
    cases k with
    | true =>
      refine ⟨true, rfl, iteT ⟨G, ρ3, env, S3, ((hE.keep k1).keep k2).keep k3, r3, Ok.bind h3 fun z S4 t ρ4 H4 r4 x4 k4 h4 => ?_⟩⟩
      refine d2 G ρ4 H4 S4 y z u t (WE' cA W σ) _ r4 (Rep.keep (k3.trans k4) y u x2) x4 (Ok.bind h4 fun k S5 w ρ5 H5 r5 x5 k5 h5 => ?_)
      cases k with
      | bl k =>
        cases (show w = .bl k from x5)
        cases k with
        | true =>
          refine ⟨true, rfl, iteT ⟨G, ρ5, env, S5, ((((hE.keep k1).keep k2).keep k3).keep k4).keep k5, r5, Ok.bind h5 fun z2 S6 t2 ρ6 H6 r6 x6 k6 h6 => ?_⟩⟩
          exact d3 G ρ6 H6 S6 z z2 t t2 _ Q r6 (Rep.keep (k5.trans k6) z t x4) x6 h6
        | false => exact ⟨false, rfl, iteF (h5.now r5 rfl)⟩
      | _ => exact h5.elim
    | false => exact ⟨false, rfl, iteF (h3.now r3 rfl)⟩
  | _ => exact h3.elim
theorem pt_chain3 {op1 op2 op3 : CmpOp} {r1 r2 r3 : R2} {ta tb tc td : TE} (h1 : OpR X (compareOp op1) r1) (h2 : OpR X (compareOp op2) r2) (h3 : OpR X (compareOp op3) r3) (ha : PE X a ta) (hb : PE X b tb) (hc : PE X c tc) (hd : PE X d td)
    (hm : lastMarks [op1, op2, op3] [b, c, d] = false := by with_unfolding_all rfl) (he : evalEach [d] X.env = [eval d X.env] := by rfl) : PT X (.Compare a [op1, op2, op3] [b, c, d] pos) (tTest (tChain3 r1 r2 r3 ta tb tc td)) := by
  refine ⟨fun pins s σ H Q I h => ?_⟩
  refine isTrue_chain (thn (ha.run pins s σ H _ I h) fun v s1 ⟨x, H1, I1, q1, h⟩ => ?_) hm
  rw [he]
  refine test_link (thn (hb.run pins s1 σ H1 _ I1 h) fun u s2 ⟨y, H2, I2, q2, h⟩ => thn (h1 pins s2 σ H2 x y v u _ I2 q1 q2 h) fun k s3 ⟨z, H3, I3, q3, b1, e, h⟩ => ?_)
  subst e
  cases q3
  refine wpAny_truthy_bool ?_
  cases b1 with
  | false =>
    obtain ⟨k', e', q'⟩ := h
    cases e'
    exact ite_ff ⟨H3, I3, q'⟩
  | true =>
    refine ite_tt (test_link (thn (hc.run pins s3 σ H3 _ I3 h) fun u2 s4 ⟨z2, H4, I4, q4, h⟩ => thn (h2 pins s4 σ H4 y z2 u u2 _ I4 q2 q4 h) fun k s5 ⟨z3, H5, I5, q5, b2, e, h⟩ => ?_))
    subst e
    cases q5
    refine wpAny_truthy_bool ?_
    cases b2 with
    | false =>
      obtain ⟨k', e', q'⟩ := h
      cases e'
      exact ite_ff ⟨H5, I5, q'⟩
    | true =>
      refine ite_tt (test_last (thn (hd.run pins s5 σ H5 _ I5 h) fun w' s6 ⟨z4, H6, I6, q6, h⟩ => thn (h3 pins s6 σ H6 z2 z4 u2 w' _ I6 q4 q6 h) fun k s7 ⟨z5, H7, I7, q7, b3, e3, q8⟩ => ?_))
      subst e3
      cases q7
      exact wpAny_truthy_bool ⟨H7, I7, q8⟩
theorem jt_chain3 {op1 op2 op3 : CmpOp} {r1 r2 r3 : R2} {f g h : D → D → Store → Res D} {ma mb mc md : M D} (h1 : OpR X (compareOp op1) r1) (d1 : OpD X.K r1 f) (h2 : OpR X (compareOp op2) r2) (d2 : OpD X.K r2 g) (h3 : OpR X (compareOp op3) r3) (d3 : OpD X.K r3 h) (ha : PE X a (tE X.K cA W ma)) (hb : PE X b (tE X.K cA W mb)) (hc : PE X c (tE X.K cA W mc)) (hd : PE X d (tE X.K cA W md))
    (hm : lastMarks [op1, op2, op3] [b, c, d] = false := by with_unfolding_all rfl) (he : evalEach [d] X.env = [eval d X.env] := by rfl) : PT X (.Compare a [op1, op2, op3] [b, c, d] pos) (tT X.K cA W (tst (eChain3 f g h ma mb mc md))) :=
  pt_imp (pt_chain3 h1 h2 h3 ha hb hc hd hm he) fun σ H Q h => chain3_read d1 d2 d3 _ _ _ (test_read σ H Q h)
end
structure FnU (P : Program) (w : World) (K : PySem.W.Frag) (mg : Str → Option Value) (base : Heap) (CX : CXT) (k : Nat) (f : Addr) (fd : FuncData) (ps : List Str) (sp : Sp) : Prop where
  len : ∀ vs H Q E, sp vs H Q E → vs.length = ps.length
  run : ∀ (A : Around) (outer : List Env) (s : Shared) (H : Hp) (args : Args) (us : List Value) (vs : List V) (Q : VK) (E : XK), L2H.RoomH k A → Env0 P w K mg base A outer s H → BindsTo s fd args (ps.zip us) → Vals vs us → sp vs H Q E →
    codeAny (model P w) A (.call (.ref f) args) (CR CX outer P w H s Q E) s
def cxU (CX : CXT) (P : Program) (w : World) (K : PySem.W.Frag) (mg : Str → Option Value) (base : Heap) (N : List Str) (qual : Str) (scope : Scope) (f : Addr) (cd : Value) (A : Around) (outer : List Env) (s : Shared) (H : Hp) (E : XK) : Cx :=
  { cxOf CX P w K mg base N qual scope f cd A outer s H E with calm := false }
theorem inv_startU {CX : CXT} {P : Program} {w : World} {K : PySem.W.Frag} {mg : Str → Option Value} {base : Heap} {N ps : List Str} {qual : Str} {scope : Scope} {f : Addr} {cd : Value} {A : Around} {outer : List Env} {s s1 : Shared} {H : Hp} {E : XK} {us : List Value} {vs : List V}
    (S : FnScope N ps scope) (e0 : Env0 P w K mg base A outer s H) (hl : vs.length = ps.length) (r : Vals vs us)
    (x : InCallC s s.heap.objs.size (bindL (envOfC qual scope s.heap.objs.size f cd).kindOf (ps.zip us) fun _ => none) (cellsFrom (s.heap.objs.size + 1) scope.names []) (bindC (envOfC qual scope s.heap.objs.size f cd).kindOf (ps.zip us) fun _ => none) s1) :
    Inv (cxU CX P w K mg base N qual scope f cd A outer s H E) [] (L2.start N vs) H s1 := by
  have hpl : ps.length ≤ N.length := by have := congrArg List.length S.pre; rw [List.length_take] at this; omega
  obtain ⟨h1, tk, rfl, hk⟩ := x.done
  have noA : ∀ b : Addr, b ∉ (cxU CX P w K mg base N qual scope f cd A outer s H E).ex := fun b z => absurd (show b ∈ ([] : List Addr) from z) (by simp)
  refine ⟨⟨e0.mod, S.kind, rfl, rfl, Nat.le_refl _, fun y z c h1 h2 => ?_, fun y hy => ?_, fun y c _ h => ?_, (fun z => Bool.noConfusion (show false = true from z)), Around.frames_deeper e0.frames, .inr ⟨rfl, rfl⟩, fun b z => absurd z (noA b), e0.bs, e0.bsz, fun b _ _ => noA b, fun b z => absurd z (noA b), e0.funs, e0.frf⟩,
    rfl, e0.bare, Un.kept hk, ⟨_, x.toInCall.ns, fun i y v h1 h2 h3 => ?_⟩, fun y c h => ⟨_, x.cell y c h⟩, e0.hok.fresh (Nat.le_refl _), fun y c h => ?_, fun p hp => absurd (show p ∈ ([] : List (Addr × Obj)) from hp) (by simp), e0.hok.kept hk, ?_⟩
  · exact name_of_addr x.apart (PySem.mem_of_lookup h1) (PySem.mem_of_lookup h2)
  · have hy : scope.names.lookup y = some .cell ∨ scope.names.lookup y = some .free := hy
    rcases hy with hy | hy
    · exact cell_has hy
    · exact absurd rfl (S.nofree _ (PySem.mem_of_lookup hy))
  · exact Nat.le_of_lt (x.above y c (PySem.mem_of_lookup h))
  · have hi : i < vs.length := by
      unfold L2.start at h2
      by_cases hi : i < vs.length
      · exact hi
      · rw [List.getElem?_append_right (by simpa using hi)] at h2
        rw [List.getElem?_replicate] at h2
        split at h2 <;> cases h2
    have ha : vs[i]? = some v := by
      unfold L2.start at h2
      rw [List.getElem?_append_left (by simpa using hi), List.getElem?_map] at h2
      cases e : vs[i]? with
      | none => rw [e] at h2; cases h2
      | some a => rw [e] at h2; cases h2; rfl
    obtain ⟨u, hu, rv⟩ := r.get ha
    have hp : ps[i]? = some y := by
      rw [← S.pre, List.getElem?_take_of_lt (by omega)]; exact h1
    have ndP : ps.Nodup := by rw [← S.pre]; exact S.nd.sublist (List.take_sublist _ _)
    refine ⟨u, rv, ?_⟩
    rcases S.par y (List.mem_of_getElem? hp) with k | k
    · exact .inl ⟨k, bindL_get ndP hp hu k⟩
    · obtain ⟨c, e⟩ := cell_has (n := s.heap.objs.size + 1) k
      refine .inr ⟨.inl k, c, e, ?_⟩
      have q := x.cell y c e
      rw [bindC_get ndP hp hu (by show scope.names.lookup y ≠ _; rw [k]; decide)] at q
      exact q
  · exact e0.hok.fresh (Nat.le_of_lt (x.above y c (PySem.mem_of_lookup h)))
  · unfold L2.start
    show _ = N.length
    rw [List.length_append, List.length_map, List.length_replicate]
    omega
section
variable {P : Program} {w : World} {K : PySem.W.Frag} {mg : Str → Option Value} {base : Heap}
theorem fn_ofU {x qual : Str} {st : Stmt} {f : Addr} {fd : FuncData} {N ps : List Str} {k : Nat} {sp : Sp} (F : Fun K x qual st f fd) (Sc : FnScope N ps (defScope st)) (len : ∀ vs H Q E, sp vs H Q E → vs.length = ps.length)
    (hbody : ∀ (cdv : Value) (A : Around) (outer : List Env) (s : Shared) (H : Hp) (vs : List V) (Q : VK) (E : XK), L2H.RoomH k (A.deeper (envOfC qual (defScope st) s.heap.objs.size f cdv)) → sp vs H Q E →
      ∃ t, PSs (cxU (L2.CX P w) P w K mg base N qual (defScope st) f cdv A outer s H E) (defBody st) t ∧ t { nx := fun _ H' => Q .non H', rt := Q } (start N vs) H) : FnU P w K mg base (L2.CX P w) (k + 1) f fd ps sp := by
  obtain ⟨oc, od, kV, doc, pm, an, cdv, ct, osl, rfl, lk, hcd⟩ := F.ex
  refine ⟨len, fun A outer s H args us vs Q E hr e0 hb r hsp => ?_⟩
  have keep : ∀ b o, base.get? b = some o → s.heap.get? b = some o := fun b o e => (e0.bs b o e).1
  have inK := e0.mod.kin.keeps keep
  refine codeAny_call_function hr.depth (inK _ _ lk) rfl Sc.co Sc.gen rfl (PySem.W.codeRec_of inK hcd) (hb _ _ _ _ ?_)
  refine wpAny_newFunctionEnv_cells Sc.kind (fun y hy => (Sc.par y.1 (List.of_mem_zip hy).1).imp id fun q => ⟨q, PySem.W.cellsFrom_some _ _ _ (.inl q)⟩) fun env he s1 x => ?_
  subst he
  refine ⟨(e0.mod.nolimit.keeps keep).keeps x.toInCall.keep, codeAny_func ?_⟩
  obtain ⟨t, ht, hq⟩ := hbody cdv A outer s H vs Q E (hr.deeper _) hsp
  have I0 := inv_startU (CX := L2.CX P w) (qual := qual) (f := f) (cd := cdv) (E := E) Sc e0 (len _ _ _ _ hsp) r x
  refine wpAny_mono (ht.run [] s1 (start N vs) H _ I0 hq) (fun fl s2 h2 => ?_) fun _ _ h2 => h2
  cases fl with
  | ret u => obtain ⟨v, _, H', J, rv, q⟩ := h2; exact ⟨v, H', J.os, J.bare, J.base, J.hok, rv, q⟩
  | next => obtain ⟨_, H', J, q⟩ := h2; exact ⟨.non, H', J.os, J.bare, J.base, J.hok, rfl, q⟩
  | brk => obtain ⟨_, _, _, q⟩ := h2; exact q.elim
  | cont => obtain ⟨_, _, _, q⟩ := h2; exact q.elim
theorem fn_okU {cA : Nat → Addr} {x qual : Str} {st : Stmt} {f : Addr} {fd : FuncData} {N ps : List Str} {k : Nat} {md : Mode} {body : MS} (F : Fun K x qual st f fd) (Sc : FnScope N ps (defScope st))
    (hb : ∀ (cdv : Value) (A : Around) (outer : List Env) (s : Shared) (H : Hp) (E : XK), L2H.RoomH k (A.deeper (envOfC qual (defScope st) s.heap.objs.size f cdv)) →
      PSs (cxU (L2.CX P w) P w K mg base N qual (defScope st) f cdv A outer s H E) (defBody st) (tS K cA (WF E) body)) :
    FnU P w K mg base (L2.CX P w) (k + 1) f fd ps (spF K cA ps.length (runFn md N.length body)) := by
  refine fn_ofU F Sc (fun vs H Q E h => h.1) (fun cdv A outer s H vs Q E hr h => ⟨_, hb cdv A outer s H E hr, ?_⟩)
  obtain ⟨hl, G, ρ, S, ds, hS, hd, h⟩ := h
  refine ⟨G, ρ, _, S, start_rel N hd, hS, ?_⟩
  unfold runFn at h
  revert h
  cases body (ds.map some ++ List.replicate (N.length - ds.length) none) S with
  | next e S1 => exact fun h σ' ρ' H' q1 q2 q3 => fin_ok h hS q2 (show Rep K G ρ' H' .non .non from rfl) q3
  | ret d S1 => exact fun h v ρ' H' q1 q2 q3 => fin_ok h hS q1 q2 q3
  | brk e S1 => exact fun h => h.elim
  | cont e S1 => exact fun h => h.elim
  | err c e S1 =>
    intro h σ' ρ' H' q1 q2 q3
    dsimp only at h
    by_cases st : stOk S S1
    · rw [if_pos st] at h
      exact h ρ H' (hS.cut q2 q3 st) q3.cut
    · rw [if_neg st] at h
      exact h.elim
  | bad => exact fun h => h
end
section
variable {X : Cx} {CX : CXT} {k : Nat} {f : Addr} {fd : FuncData} {ps : List Str} {sp : Sp} {E : L2.St → XK} {x : Str} {p pos : Pos} {e : Expr} {es : List Expr} {t : TA}
theorem run_fnU {pins : List (Addr × Obj)} {σ : L2.St} {H : Hp} {s : Shared} {Q : VK} {us : List Value} {vs : List V} (F : FnU X.prog X.w X.K X.mg X.base CX k f fd ps sp) (hr : L2H.RoomH k X.A) (hb : Binds X.K fd ps []) (hx : PassesAt CX X σ (E σ)) (I : Inv X pins σ H s) (r : Vals vs us) (h : sp vs H Q (E σ)) :
    wpAny (model X.prog X.w) X.A (call (.ref f) us) (EP X pins σ Q) X.xe s := by
  have b := hb s us I.kIn (by rw [List.append_nil, ← r.length]; exact F.len _ _ _ _ h)
  rw [List.append_nil] at b
  refine wpAny_call (codeAny_mono (F.run X.A X.stack s H ⟨us, []⟩ us vs Q (E σ) hr I.env0 b r h) fun r s' hq => ?_)
  match r, hq with
  | .error e, hq => exact hx pins H s e s' I hq
  | .ok (.ret u), hq => exact I.after hq
theorem pe_callU (F : FnU X.prog X.w X.K X.mg X.base CX k f fd ps sp) (hr : L2H.RoomH k X.A) (hg : Gl X x) (hm : X.mg x = some (.ref f)) (hk : PySem.W.keepIn X.K (.ref f) = true) (hb : Binds X.K fd ps []) (hx : ∀ σ, PassesAt CX X σ (E σ)) (ha : PA X (e :: es) t)
    (hdb : (x == ("__debug__" : Str)) = false) (he : starEach (e :: es) X.env = (false, eval e X.env) :: starEach es X.env) (hpl : (backTo pos (starEach es X.env)).any (·.1) = false) : PE X (.Call (.Name x p) (e :: es) [] pos) (tCallS sp E t) :=
  ⟨fun pins s σ H Q I h => wpAny_Call_Name_kw (ld_glob I hg hm (PySem.W.callWith_K (h₀ := X.base) I.ok.mod.kin hk (thn (ha.run pos pins s σ H _ I h) fun us s1 ⟨vs, H1, I1, r, q⟩ => ⟨I1.kIn, run_fnU F hr hb (hx σ) I1 r q⟩) he hpl) hdb)⟩
theorem je_callU {cA : Nat → Addr} {W : WX} {n : Nat} {Fm : List D → Store → Res D} {ma : M (List D)} (F : FnU X.prog X.w X.K X.mg X.base (L2.CX X.prog X.w) k f fd ps (spF X.K cA n Fm)) (hr : L2H.RoomH k X.A) (hg : Gl X x) (hm : X.mg x = some (.ref f)) (hk : PySem.W.keepIn X.K (.ref f) = true) (hb : Binds X.K fd ps []) (tk : Takes X W)
    (ha : PA X (e :: es) (tAr X.K cA W ma)) (hdb : (x == ("__debug__" : Str)) = false := by decide) (he : starEach (e :: es) X.env = (false, eval e X.env) :: starEach es X.env := by rfl) (hpl : (backTo pos (starEach es X.env)).any (·.1) = false := by rfl) :
    PE X (.Call (.Name x p) (e :: es) [] pos) (tE X.K cA W (eCall n Fm ma)) := by
  refine pe_imp (pe_callU (E := WE W) F hr hg hm hk hb (fun σ => passAt tk σ) ha hdb he hpl) ?_
  rintro σ H Q ⟨G, ρ, env, S, hE, hS, h⟩
  refine ⟨G, ρ, env, S, hE, hS, Ok.bind h fun ds S1 vs ρ1 H1 r1 x1 k1 h1 => ?_⟩
  by_cases hl : ds.length = n
  · rw [if_pos hl] at h1
    exact ⟨by rw [x1.length]; exact hl, G, ρ1, S1, ds, r1, x1, h1⟩
  · rw [if_neg hl] at h1
    exact h1.elim
theorem takes_no {X : Cx} : Takes X (fun _ _ _ _ => False) := fun u s' ⟨_, _, _, _, _, _, _, _, _, _, _, _, _, _, _, _, w⟩ => w.elim
theorem roomU {k j : Nat} {A : Around} (r : RoomG k A) (h : j ≤ k) (a : Option Value) : L2H.RoomH j (A.mark a) := ⟨by have := r.dp; show A.depth + 3 * j + 5 < _; omega, by have := r.un; show A.units + 16 * j + 200 < _; omega⟩
end
end Rf

namespace Rf
open PySem PySem.Spec PyProof.Rows L2
theorem tuple_one (l : Addr) (items : Array Value) (n : Nat) (dd : Option Addr) (sl : Array (Option Value)) (u : Tok) :
    Meets (Builtin.«tuple.__mul__» ⟨[.ref l, .int 1 u], []⟩) (fun _ R s => s.heap.get? l = some { cls := .type "tuple", dict := dd, data := .seq items n, slots := sl } ∧ R (.ok (.ret (Value.ref l))) s) :=
  .of_wp fun prog w A R s h => by
    obtain ⟨hp, g, d, tk, os⟩ := s
    obtain ⟨hl, h⟩ := h
    have f1 := AutoSeq1.idx_int
    have c0 : (decide ((1 : Int) < -(2 ^ 63)) || decide ((1 : Int) ≥ 2 ^ 63)) = false := by decide
    have c1 : (items.isEmpty || (1 : Int) == 1) = true := by simp
    wp_walk using wpAny_loadPart' hl
    repeat (first
      | (refine wpAny_ite_false (decide_eq_false (by rw [c0]; exact Bool.false_ne_true)) ?_; wp_walk using wpAny_loadPart' hl)
      | (refine wpAny_ite_true (decide_eq_true c1) ?_; wp_walk using wpAny_loadPart' hl))
    exact ⟨_, rfl, h⟩
def rMulT1 (K : PySem.W.Frag) : R2 := fun x y H Q => rMulT K x y H Q ∨ ∃ (l : Addr) (xs : List V), x = .ref l ∧ y = .int 1 ∧ SqT K H l xs ∧ xs ≠ [] ∧ Q (.ref l) H
theorem op_mulT1 {X : Cx} : OpR X (binaryOp .Mult) (rMulT1 X.K) := by
  intro pins s σ H x y v u Q I rx ry h
  rcases h with h | ⟨l, xs, rfl, rfl, hT, hne, q⟩
  · exact op_mulT pins s σ H x y v u Q I rx ry h
  cases rx
  obtain ⟨t, rfl⟩ := ry
  obtain ⟨its, r, ⟨⟨cls, dd, data, sl⟩, ho, hc, n, hd⟩, hs⟩ := I.tuple hT
  simp only at hc hd
  subst hc hd
  refine wpAny_binaryOp_repeat_ref (T := "tuple") (U := "int") (by decide) ⟨_, ho, rfl⟩ (fun s' => typeIs_int s' 1 t) noFill_tuple_mul PySem.F.fills_int_mul PySem.F.slot_int_rmul repeat_tuple PySem.F.slot_int_index.lookup ?_
  refine call_meets PySem.F.slot_int_rmul (typeIs_int s 1 t) PySem.F.entry_int_rmul (PySem.F.args_int_rmul_2 _ _) (int_rmul_tuple 1 t l its.toArray n dd sl) ⟨ho, rfl, ⟨_, ho, rfl⟩, ?_⟩
  refine call_meets PySem.F.slot_tuple_mul ⟨_, ho, rfl⟩ PySem.F.entry_tuple_mul (PySem.F.args_tuple_mul_2 _ _) (tuple_one l its.toArray n dd sl t) ⟨ho, ?_⟩
  exact ⟨.ref l, H, I, rfl, q⟩
def dMulT1 (d e : D) (S : Store) : Res D := match d, e with
  | .tup ds, .int k => if ds ≠ [] ∧ k = 1 then .ok (.tup ds) S else dMulT (.tup ds) (.int k) S
  | _, _ => .bad
theorem od_mulT1 {K : PySem.W.Frag} : OpD K (rMulT1 K) dMulT1 := by
  intro G ρ H S d1 d2 v1 v2 E Q r x1 x2 h
  unfold dMulT1 at h
  split at h
  · rename_i ds k
    by_cases hk : ds ≠ [] ∧ k = 1
    · rw [if_pos hk] at h
      obtain ⟨a, vs, rfl, h1, h2⟩ := id x1
      cases (show v2 = .int k from x2)
      obtain ⟨hk1, rfl⟩ := hk
      have hl := h2.length
      exact .inr ⟨a, vs, rfl, rfl, .inl h1, fun e => hk1 (List.eq_nil_of_length_eq_zero (by rw [← hl, e]; rfl)), h _ ρ _ r x1 Keep.refl⟩
    · rw [if_neg hk] at h
      exact .inl (od_mulT G ρ H S _ _ v1 v2 E Q r x1 x2 h)
  · exact h.elim
section
variable {α : Type} {t : α → D}
@[irreducible] def mulT1 {α : Type} (l : List α) (k : Int) : R (List α) := if l.length ≠ 0 ∧ k = 1 then .ok l else mulT l k
theorem op_mulT1t : Op2 dMulT1 (vP (yT t)) (vP yI) (vP (yT t)) mulT1 := fun l k d e S h1 h2 => by
  unfold mulT1
  by_cases h : l.length ≠ 0 ∧ k = 1
  · rw [if_pos h]
    cases h1; cases h2
    refine ⟨_, ?_, rfl⟩
    unfold dMulT1 yT yI
    dsimp only
    rw [if_pos ⟨fun z => h.1 (by have := congrArg List.length z; simpa using this), h.2⟩]
  · rw [if_neg h]
    have := op_mulTt l k d e S h1 h2
    cases h1; cases h2
    have e2 : dMulT1 (yT t l) (yI k) S = dMulT (yT t l) (yI k) S := by
      unfold dMulT1 yT yI
      dsimp only
      rw [if_neg fun z => h ⟨fun y => z.1 (by rw [List.eq_nil_of_length_eq_zero y]; rfl), z.2⟩]
    rw [e2]
    exact this
end
end Rf

namespace Law
open PySem PySem.Spec PyProof.Rows L2 Rf
def topS (i : Nat) : Stmt := PySem.Challenge.pw_leastcross_k97_each_refusal_alone.main.body.getD i (.Pass ⟨0, 0, 0, 0⟩)
abbrev s_looked_at_must : Stmt := topS 58
theorem sc_looked_at_must : FnScope ["web"] ["web"] (defScope s_looked_at_must) := ⟨rfl, rfl, rfl, by decide +kernel, rfl, by decide +kernel, by decide +kernel⟩
abbrev s_must : Stmt := topS 65
theorem sc_must : FnScope ["web", "number", "lists", "known", "row", "pair", "rows", "turns", "some", "turn", "k"] ["web"] (defScope s_must) := ⟨rfl, rfl, rfl, by decide +kernel, rfl, by decide +kernel, by decide +kernel⟩
abbrev s_is_whole : Stmt := topS 14
theorem sc_is_whole : FnScope ["thing"] ["thing"] (defScope s_is_whole) := ⟨rfl, rfl, rfl, by decide +kernel, rfl, by decide +kernel, by decide +kernel⟩
abbrev s_is_order : Stmt := topS 100
theorem sc_is_order : FnScope ["thing", "many", "place"] ["thing", "many"] (defScope s_is_order) := ⟨rfl, rfl, rfl, by decide +kernel, rfl, by decide +kernel, by decide +kernel⟩
abbrev s_upper_looked_at : Stmt := topS 101
theorem sc_upper_looked_at : FnScope ["web", "upper"] ["web", "upper"] (defScope s_upper_looked_at) := ⟨rfl, rfl, rfl, by decide +kernel, rfl, by decide +kernel, by decide +kernel⟩
abbrev s_both_looked_at : Stmt := topS 102
theorem sc_both_looked_at : FnScope ["web", "upper", "lower"] ["web", "upper", "lower"] (defScope s_both_looked_at) := ⟨rfl, rfl, rfl, by decide +kernel, rfl, by decide +kernel, by decide +kernel⟩
abbrev s_crossed_rows : Stmt := topS 103
theorem sc_crossed_rows : FnScope ["web", "upper", "lower", "spots", "found", "a", "b", "c", "d"] ["web", "upper", "lower"] (defScope s_crossed_rows) := ⟨rfl, rfl, rfl, by decide +kernel, rfl, by decide +kernel, by decide +kernel⟩
abbrev s_tie_of : Stmt := topS 15
theorem sc_tie_of : FnScope ["thing", "n", "place"] ["thing", "n"] (defScope s_tie_of) := ⟨rfl, rfl, rfl, by decide +kernel, rfl, by decide +kernel, by decide +kernel⟩
abbrev s_web : Stmt := topS 16
theorem sc_web : FnScope ["n", "some", "ties", "one"] ["n", "some"] (defScope s_web) := ⟨rfl, rfl, rfl, by decide +kernel, rfl, by decide +kernel, by decide +kernel⟩
abbrev s_is_tie : Stmt := topS 98
theorem sc_is_tie : FnScope ["thing", "p", "q", "place"] ["thing", "p", "q"] (defScope s_is_tie) := ⟨rfl, rfl, rfl, by decide +kernel, rfl, by decide +kernel, by decide +kernel⟩
abbrev s_two : Stmt := topS 99
theorem sc_two : FnScope ["p", "q", "some", "many", "ties", "one"] ["p", "q", "some"] (defScope s_two) := ⟨rfl, rfl, rfl, by decide +kernel, rfl, by decide +kernel, by decide +kernel⟩
abbrev s_law_other : Stmt := topS 118
theorem sc_law_other : FnScope ["_law_way", "_law_n"] ["_law_way", "_law_n"] (defScope s_law_other) := ⟨rfl, rfl, rfl, by decide +kernel, rfl, by decide +kernel, by decide +kernel⟩
abbrev s_is_there : Stmt := topS 81
theorem sc_is_there : FnScope ["drawing", "tie", "place"] ["drawing", "tie"] (defScope s_is_there) := ⟨rfl, rfl, rfl, by decide +kernel, rfl, by decide +kernel, by decide +kernel⟩
abbrev s_without : Stmt := topS 82
theorem sc_without : FnScope ["drawing", "tie", "at", "n", "ties", "rings", "ways", "crossings", "new_rings", "place", "other", "one"] ["drawing", "tie"] (defScope s_without) := ⟨rfl, rfl, rfl, by decide +kernel, rfl, by decide +kernel, by decide +kernel⟩
abbrev s_is_drawing : Stmt := topS 28
theorem sc_is_drawing : FnScope ["thing", "n", "ties", "rings", "ways", "crossings", "one"] ["thing"] (defScope s_is_drawing) := ⟨rfl, rfl, rfl, by decide +kernel, rfl, by decide +kernel, by decide +kernel⟩
abbrev s_plain : Stmt := topS 31
theorem sc_plain : FnScope ["thing"] ["thing"] (defScope s_plain) := ⟨rfl, rfl, rfl, by decide +kernel, rfl, by decide +kernel, by decide +kernel⟩
abbrev s_from_least : Stmt := topS 29
theorem sc_from_least : FnScope ["ring", "at"] ["ring"] (defScope s_from_least) := ⟨rfl, rfl, rfl, by decide +kernel, rfl, by decide +kernel, by decide +kernel⟩
abbrev s_plained : Stmt := topS 30
theorem sc_plained : FnScope ["drawing", "n", "ties", "rings", "ways", "crossings", "numbers", "way", "number", "told", "crossing", "new_ways", "ring"] ["drawing"] (defScope s_plained) := ⟨rfl, rfl, rfl, by decide +kernel, rfl, by decide +kernel, by decide +kernel⟩
abbrev s_lenses_along : Stmt := topS 34
theorem sc_lenses_along : FnScope ["drawing", "one", "other", "way", "here", "found", "nearest", "number", "first", "second"] ["drawing", "one", "other"] (defScope s_lenses_along) := ⟨rfl, rfl, rfl, by decide +kernel, rfl, by decide +kernel, by decide +kernel⟩
abbrev s_lenses : Stmt := topS 35
theorem sc_lenses : FnScope ["drawing", "here", "found", "one", "other"] ["drawing"] (defScope s_lenses) := ⟨rfl, rfl, rfl, by decide +kernel, rfl, by decide +kernel, by decide +kernel⟩
abbrev s_is_lens : Stmt := topS 46
theorem sc_is_lens : FnScope ["drawing", "lens", "one"] ["drawing", "lens"] (defScope s_is_lens) := ⟨rfl, rfl, rfl, by decide +kernel, rfl, by decide +kernel, by decide +kernel⟩
abbrev s_loosened : Stmt := topS 47
theorem sc_loosened : FnScope ["drawing", "lens", "here", "n", "ties", "rings", "ways", "crossings", "one", "other", "place", "new_rings", "mine", "theirs", "runs", "tie", "way"] ["drawing", "lens"] (defScope s_loosened) := ⟨rfl, rfl, rfl, by decide +kernel, rfl, by decide +kernel, by decide +kernel⟩
abbrev s_looked_at_straight : Stmt := topS 86
theorem sc_looked_at_straight : FnScope ["n", "ties", "points", "i", "j", "place"] ["n", "ties", "points"] (defScope s_looked_at_straight) := ⟨rfl, rfl, rfl, by decide +kernel, rfl, by decide +kernel, by decide +kernel⟩
abbrev s_straight : Stmt := topS 95
theorem sc_straight : FnScope ["web", "points", "n", "ties", "crossings", "rows", "beside", "i", "j", "rings", "ways", "place", "tie", "number", "far"] ["web", "points"] (defScope s_straight) := ⟨rfl, rfl, rfl, by decide +kernel, rfl, by decide +kernel, by decide +kernel⟩
abbrev s_is_new : Stmt := topS 72
theorem sc_is_new : FnScope ["drawing", "tie", "place"] ["drawing", "tie"] (defScope s_is_new) := ⟨rfl, rfl, rfl, by decide +kernel, rfl, by decide +kernel, by decide +kernel⟩
abbrev s_is_begin : Stmt := topS 73
theorem sc_is_begin : FnScope ["ring", "place"] ["ring", "place"] (defScope s_is_begin) := ⟨rfl, rfl, rfl, by decide +kernel, rfl, by decide +kernel, by decide +kernel⟩
abbrev s_is_route : Stmt := topS 75
theorem sc_is_route : FnScope ["drawing", "tie", "route", "place", "begin"] ["drawing", "tie", "route"] (defScope s_is_route) := ⟨rfl, rfl, rfl, by decide +kernel, rfl, by decide +kernel, by decide +kernel⟩
abbrev s_put : Stmt := topS 79
theorem sc_put : FnScope ["drawing", "tie", "route", "n", "ties", "rings", "ways", "crossings", "first", "at_piece", "more", "by_tie", "other", "way", "new_rings", "new_ties", "new_ways", "found"] ["drawing", "tie", "route"] (defScope s_put) := ⟨rfl, rfl, rfl, by decide +kernel, rfl, by decide +kernel, by decide +kernel⟩
abbrev s_number_read : Stmt := topS 110
theorem sc_number_read : FnScope ["word", "sign"] ["word"] (defScope s_number_read) := ⟨rfl, rfl, rfl, by decide +kernel, rfl, by decide +kernel, by decide +kernel⟩
abbrev s_read : Stmt := topS 114
theorem sc_read : FnScope ["text", "rows", "n", "reader", "row", "found"] ["text"] (defScope s_read) := ⟨rfl, rfl, rfl, by decide +kernel, rfl, by decide +kernel, by decide +kernel⟩
abbrev s_law_bare : Stmt := topS 116
theorem sc_law_bare : FnScope ["_law_n"] ["_law_n"] (defScope s_law_bare) := ⟨rfl, rfl, rfl, by decide +kernel, rfl, by decide +kernel, by decide +kernel⟩
abbrev s_law_drawn : Stmt := topS 117
theorem sc_law_drawn : FnScope ["_law_way", "_law_n"] ["_law_way", "_law_n"] (defScope s_law_drawn) := ⟨rfl, rfl, rfl, by decide +kernel, rfl, by decide +kernel, by decide +kernel⟩
abbrev s_law_kinds : Stmt := topS 119
theorem sc_law_kinds : FnScope ["_law_e", "_law_kinds_here"] ["_law_e"] (defScope s_law_kinds) := ⟨rfl, rfl, rfl, by decide +kernel, rfl, by decide +kernel, by decide +kernel⟩
abbrev s_law_right : Stmt := topS 120
theorem sc_law_right : FnScope ["_law_way", "_law_n", "_law_kinds_here", "_law_e", "_law_k"] ["_law_way", "_law_n"] (defScope s_law_right) := ⟨rfl, rfl, rfl, by decide +kernel, rfl, by decide +kernel, by decide +kernel⟩
abbrev s_law : Stmt := topS 121
theorem sc_law : FnScope ["_law_script", "_law_cell", "_law_way"] ["_law_script"] (defScope s_law) := ⟨rfl, rfl, rfl, by decide +kernel, rfl, by decide +kernel, by decide +kernel⟩
def cn : Nat → Str
  | 0 => "TooMany"
  | 1 => "NoOrder"
  | 2 => "NoWeb"
  | 3 => "NoTie"
  | 4 => "NoDrawing"
  | 5 => "NoLens"
  | 6 => "NoPoints"
  | 7 => "NoRoute"
  | 8 => "NoText"
  | 9 => "CrossError"
  | _ => ""
def ct_CrossError : Nat → Option Bool
  | 0 => some true
  | 1 => some true
  | 2 => some true
  | 3 => some true
  | 4 => some true
  | 5 => some true
  | 6 => some true
  | 7 => some true
  | 8 => some true
  | _ => none
def tabX (x y : Str) : Option Bool := if x = ("TooMany" : Str) then (if y = ("NoDrawing" : Str) then some false else if y = ("NoLens" : Str) then some false else if y = ("NoOrder" : Str) then some false else if y = ("NoPoints" : Str) then some false else if y = ("NoRoute" : Str) then some false else if y = ("NoText" : Str) then some false else if y = ("NoTie" : Str) then some false else if y = ("NoWeb" : Str) then some false else if y = ("TooMany" : Str) then some true else none) else if x = ("NoOrder" : Str) then (if y = ("NoDrawing" : Str) then some false else if y = ("NoLens" : Str) then some false else if y = ("NoOrder" : Str) then some true else if y = ("NoPoints" : Str) then some false else if y = ("NoRoute" : Str) then some false else if y = ("NoText" : Str) then some false else if y = ("NoTie" : Str) then some false else if y = ("NoWeb" : Str) then some false else if y = ("TooMany" : Str) then some false else none) else if x = ("NoWeb" : Str) then (if y = ("NoDrawing" : Str) then some false else if y = ("NoLens" : Str) then some false else if y = ("NoOrder" : Str) then some false else if y = ("NoPoints" : Str) then some false else if y = ("NoRoute" : Str) then some false else if y = ("NoText" : Str) then some false else if y = ("NoTie" : Str) then some false else if y = ("NoWeb" : Str) then some true else if y = ("TooMany" : Str) then some false else none) else if x = ("NoTie" : Str) then (if y = ("NoDrawing" : Str) then some false else if y = ("NoLens" : Str) then some false else if y = ("NoOrder" : Str) then some false else if y = ("NoPoints" : Str) then some false else if y = ("NoRoute" : Str) then some false else if y = ("NoText" : Str) then some false else if y = ("NoTie" : Str) then some true else if y = ("NoWeb" : Str) then some false else if y = ("TooMany" : Str) then some false else none) else if x = ("NoDrawing" : Str) then (if y = ("NoDrawing" : Str) then some true else if y = ("NoLens" : Str) then some false else if y = ("NoOrder" : Str) then some false else if y = ("NoPoints" : Str) then some false else if y = ("NoRoute" : Str) then some false else if y = ("NoText" : Str) then some false else if y = ("NoTie" : Str) then some false else if y = ("NoWeb" : Str) then some false else if y = ("TooMany" : Str) then some false else none) else if x = ("NoLens" : Str) then (if y = ("NoDrawing" : Str) then some false else if y = ("NoLens" : Str) then some true else if y = ("NoOrder" : Str) then some false else if y = ("NoPoints" : Str) then some false else if y = ("NoRoute" : Str) then some false else if y = ("NoText" : Str) then some false else if y = ("NoTie" : Str) then some false else if y = ("NoWeb" : Str) then some false else if y = ("TooMany" : Str) then some false else none) else if x = ("NoPoints" : Str) then (if y = ("NoDrawing" : Str) then some false else if y = ("NoLens" : Str) then some false else if y = ("NoOrder" : Str) then some false else if y = ("NoPoints" : Str) then some true else if y = ("NoRoute" : Str) then some false else if y = ("NoText" : Str) then some false else if y = ("NoTie" : Str) then some false else if y = ("NoWeb" : Str) then some false else if y = ("TooMany" : Str) then some false else none) else if x = ("NoRoute" : Str) then (if y = ("NoDrawing" : Str) then some false else if y = ("NoLens" : Str) then some false else if y = ("NoOrder" : Str) then some false else if y = ("NoPoints" : Str) then some false else if y = ("NoRoute" : Str) then some true else if y = ("NoText" : Str) then some false else if y = ("NoTie" : Str) then some false else if y = ("NoWeb" : Str) then some false else if y = ("TooMany" : Str) then some false else none) else if x = ("NoText" : Str) then (if y = ("NoDrawing" : Str) then some false else if y = ("NoLens" : Str) then some false else if y = ("NoOrder" : Str) then some false else if y = ("NoPoints" : Str) then some false else if y = ("NoRoute" : Str) then some false else if y = ("NoText" : Str) then some true else if y = ("NoTie" : Str) then some false else if y = ("NoWeb" : Str) then some false else if y = ("TooMany" : Str) then some false else none) else none
def tbX (x : Str) (T : String) : Option Bool := if x = ("TooMany" : Str) then (if T = "ValueError" then some true else if T = "ArithmeticError" then some false else if T = "LookupError" then some false else if T = "TypeError" then some false else none) else if x = ("NoOrder" : Str) then (if T = "ValueError" then some true else if T = "ArithmeticError" then some false else if T = "LookupError" then some false else if T = "TypeError" then some false else none) else if x = ("NoWeb" : Str) then (if T = "ValueError" then some true else if T = "ArithmeticError" then some false else if T = "LookupError" then some false else if T = "TypeError" then some false else none) else if x = ("NoTie" : Str) then (if T = "ValueError" then some true else if T = "ArithmeticError" then some false else if T = "LookupError" then some false else if T = "TypeError" then some false else none) else if x = ("NoDrawing" : Str) then (if T = "ValueError" then some true else if T = "ArithmeticError" then some false else if T = "LookupError" then some false else if T = "TypeError" then some false else none) else if x = ("NoLens" : Str) then (if T = "ValueError" then some true else if T = "ArithmeticError" then some false else if T = "LookupError" then some false else if T = "TypeError" then some false else none) else if x = ("NoPoints" : Str) then (if T = "ValueError" then some true else if T = "ArithmeticError" then some false else if T = "LookupError" then some false else if T = "TypeError" then some false else none) else if x = ("NoRoute" : Str) then (if T = "ValueError" then some true else if T = "ArithmeticError" then some false else if T = "LookupError" then some false else if T = "TypeError" then some false else none) else if x = ("NoText" : Str) then (if T = "ValueError" then some true else if T = "ArithmeticError" then some false else if T = "LookupError" then some false else if T = "TypeError" then some false else none) else none
def noX (y : Str) : Bool := if y = ("NoDrawing" : Str) then true else if y = ("NoLens" : Str) then true else if y = ("NoOrder" : Str) then true else if y = ("NoPoints" : Str) then true else if y = ("NoRoute" : Str) then true else if y = ("NoText" : Str) then true else if y = ("NoTie" : Str) then true else if y = ("NoWeb" : Str) then true else if y = ("TooMany" : Str) then true else false
abbrev isx : D → D → Option Bool := isX tabX tbX noX
structure Top (P : Program) (w : World) (K : PySem.W.Frag) (mg : Str → Option Value) (base : Heap) where
  cA : Nat → Addr
  n_ArithmeticError : mg "ArithmeticError" = none
  n_LookupError : mg "LookupError" = none
  n_TypeError : mg "TypeError" = none
  n_ValueError : mg "ValueError" = none
  n_all : mg "all" = none
  n_bool : mg "bool" = none
  n_enumerate : mg "enumerate" = none
  n_int : mg "int" = none
  n_isinstance : mg "isinstance" = none
  n_len : mg "len" = none
  n_list : mg "list" = none
  n_min : mg "min" = none
  n_range : mg "range" = none
  n_set : mg "set" = none
  n_sorted : mg "sorted" = none
  n_str : mg "str" = none
  n_tuple : mg "tuple" = none
  q_TooMany : Cls K mg "TooMany" (cA 0)
  q_NoOrder : Cls K mg "NoOrder" (cA 1)
  q_NoWeb : Cls K mg "NoWeb" (cA 2)
  q_NoTie : Cls K mg "NoTie" (cA 3)
  q_NoDrawing : Cls K mg "NoDrawing" (cA 4)
  q_NoLens : Cls K mg "NoLens" (cA 5)
  q_NoPoints : Cls K mg "NoPoints" (cA 6)
  q_NoRoute : Cls K mg "NoRoute" (cA 7)
  q_NoText : Cls K mg "NoText" (cA 8)
  q_CrossError : Cls K mg "CrossError" (cA 9)
  hx_CrossError : ∀ c b, ct_CrossError c = some b → PySem.W.exmOne K (.ref (cA c)) (.ref (cA 9)) = some b
  hn_CrossError : ∀ c, ct_CrossError c = some true → PySem.W.nsIn K mainGlobals (cn c) = some (some (.ref (cA c)))
  isx : IsX K tabX tbX noX
  t_MOST_IN_ROW : Tok
  c_MOST_IN_ROW : mg "MOST_IN_ROW" = some (.int 7 t_MOST_IN_ROW)
  t_MOST_PLACES_must : Tok
  c_MOST_PLACES_must : mg "MOST_PLACES_must" = some (.int 6 t_MOST_PLACES_must)
  t_MOST_PLACES_webs : Tok
  c_MOST_PLACES_webs : mg "MOST_PLACES_webs" = some (.int 10 t_MOST_PLACES_webs)
  t_MOST_TIES : Tok
  c_MOST_TIES : mg "MOST_TIES" = some (.int 18 t_MOST_TIES)
  a_looked_at_must : Addr
  fd_looked_at_must : FuncData
  F_looked_at_must : Fun K "looked_at" "looked_at" s_looked_at_must a_looked_at_must fd_looked_at_must
  g_looked_at_must : mg "looked_at_must" = some (.ref a_looked_at_must)
  b_looked_at_must : Binds K fd_looked_at_must ["web"] []
  a_must : Addr
  fd_must : FuncData
  F_must : Fun K "must" "must" s_must a_must fd_must
  g_must : mg "must" = some (.ref a_must)
  b_must : Binds K fd_must ["web"] []
  a_is_whole : Addr
  fd_is_whole : FuncData
  F_is_whole : Fun K "is_whole" "is_whole" s_is_whole a_is_whole fd_is_whole
  g_is_whole : mg "is_whole" = some (.ref a_is_whole)
  b_is_whole : Binds K fd_is_whole ["thing"] []
  a_is_order : Addr
  fd_is_order : FuncData
  F_is_order : Fun K "is_order" "is_order" s_is_order a_is_order fd_is_order
  g_is_order : mg "is_order" = some (.ref a_is_order)
  b_is_order : Binds K fd_is_order ["thing", "many"] []
  a_upper_looked_at : Addr
  fd_upper_looked_at : FuncData
  F_upper_looked_at : Fun K "upper_looked_at" "upper_looked_at" s_upper_looked_at a_upper_looked_at fd_upper_looked_at
  g_upper_looked_at : mg "upper_looked_at" = some (.ref a_upper_looked_at)
  b_upper_looked_at : Binds K fd_upper_looked_at ["web", "upper"] []
  a_both_looked_at : Addr
  fd_both_looked_at : FuncData
  F_both_looked_at : Fun K "both_looked_at" "both_looked_at" s_both_looked_at a_both_looked_at fd_both_looked_at
  g_both_looked_at : mg "both_looked_at" = some (.ref a_both_looked_at)
  b_both_looked_at : Binds K fd_both_looked_at ["web", "upper", "lower"] []
  a_crossed_rows : Addr
  fd_crossed_rows : FuncData
  F_crossed_rows : Fun K "crossed" "crossed" s_crossed_rows a_crossed_rows fd_crossed_rows
  g_crossed_rows : mg "crossed_rows" = some (.ref a_crossed_rows)
  b_crossed_rows : Binds K fd_crossed_rows ["web", "upper", "lower"] []
  a_tie_of : Addr
  fd_tie_of : FuncData
  F_tie_of : Fun K "tie_of" "tie_of" s_tie_of a_tie_of fd_tie_of
  g_tie_of : mg "tie_of" = some (.ref a_tie_of)
  b_tie_of : Binds K fd_tie_of ["thing", "n"] []
  a_web : Addr
  fd_web : FuncData
  F_web : Fun K "web" "web" s_web a_web fd_web
  g_web : mg "web" = some (.ref a_web)
  b_web : Binds K fd_web ["n", "some"] []
  a_is_tie : Addr
  fd_is_tie : FuncData
  F_is_tie : Fun K "is_tie" "is_tie" s_is_tie a_is_tie fd_is_tie
  g_is_tie : mg "is_tie" = some (.ref a_is_tie)
  b_is_tie : Binds K fd_is_tie ["thing", "p", "q"] []
  a_two : Addr
  fd_two : FuncData
  F_two : Fun K "two" "two" s_two a_two fd_two
  g_two : mg "two" = some (.ref a_two)
  b_two : Binds K fd_two ["p", "q", "some"] []
  a_law_other : Addr
  fd_law_other : FuncData
  F_law_other : Fun K "_law_other" "_law_other" s_law_other a_law_other fd_law_other
  g_law_other : mg "_law_other" = some (.ref a_law_other)
  b_law_other : Binds K fd_law_other ["_law_way", "_law_n"] []
  a_is_there : Addr
  fd_is_there : FuncData
  F_is_there : Fun K "is_there" "is_there" s_is_there a_is_there fd_is_there
  g_is_there : mg "is_there" = some (.ref a_is_there)
  b_is_there : Binds K fd_is_there ["drawing", "tie"] []
  a_without : Addr
  fd_without : FuncData
  F_without : Fun K "without" "without" s_without a_without fd_without
  g_without : mg "without" = some (.ref a_without)
  b_without : Binds K fd_without ["drawing", "tie"] []
  a_is_drawing : Addr
  fd_is_drawing : FuncData
  F_is_drawing : Fun K "is_drawing" "is_drawing" s_is_drawing a_is_drawing fd_is_drawing
  g_is_drawing : mg "is_drawing" = some (.ref a_is_drawing)
  b_is_drawing : Binds K fd_is_drawing ["thing"] []
  a_plain : Addr
  fd_plain : FuncData
  F_plain : Fun K "plain" "plain" s_plain a_plain fd_plain
  g_plain : mg "plain" = some (.ref a_plain)
  b_plain : Binds K fd_plain ["thing"] []
  a_from_least : Addr
  fd_from_least : FuncData
  F_from_least : Fun K "from_least" "from_least" s_from_least a_from_least fd_from_least
  g_from_least : mg "from_least" = some (.ref a_from_least)
  b_from_least : Binds K fd_from_least ["ring"] []
  a_plained : Addr
  fd_plained : FuncData
  F_plained : Fun K "plained" "plained" s_plained a_plained fd_plained
  g_plained : mg "plained" = some (.ref a_plained)
  b_plained : Binds K fd_plained ["drawing"] []
  a_lenses_along : Addr
  fd_lenses_along : FuncData
  F_lenses_along : Fun K "lenses_along" "lenses_along" s_lenses_along a_lenses_along fd_lenses_along
  g_lenses_along : mg "lenses_along" = some (.ref a_lenses_along)
  b_lenses_along : Binds K fd_lenses_along ["drawing", "one", "other"] []
  a_lenses : Addr
  fd_lenses : FuncData
  F_lenses : Fun K "lenses" "lenses" s_lenses a_lenses fd_lenses
  g_lenses : mg "lenses" = some (.ref a_lenses)
  b_lenses : Binds K fd_lenses ["drawing"] []
  a_is_lens : Addr
  fd_is_lens : FuncData
  F_is_lens : Fun K "is_lens" "is_lens" s_is_lens a_is_lens fd_is_lens
  g_is_lens : mg "is_lens" = some (.ref a_is_lens)
  b_is_lens : Binds K fd_is_lens ["drawing", "lens"] []
  a_loosened : Addr
  fd_loosened : FuncData
  F_loosened : Fun K "loosened" "loosened" s_loosened a_loosened fd_loosened
  g_loosened : mg "loosened" = some (.ref a_loosened)
  b_loosened : Binds K fd_loosened ["drawing", "lens"] []
  a_looked_at_straight : Addr
  fd_looked_at_straight : FuncData
  F_looked_at_straight : Fun K "looked_at" "looked_at" s_looked_at_straight a_looked_at_straight fd_looked_at_straight
  g_looked_at_straight : mg "looked_at_straight" = some (.ref a_looked_at_straight)
  b_looked_at_straight : Binds K fd_looked_at_straight ["n", "ties", "points"] []
  a_straight : Addr
  fd_straight : FuncData
  F_straight : Fun K "straight" "straight" s_straight a_straight fd_straight
  g_straight : mg "straight" = some (.ref a_straight)
  b_straight : Binds K fd_straight ["web", "points"] []
  a_is_new : Addr
  fd_is_new : FuncData
  F_is_new : Fun K "is_new" "is_new" s_is_new a_is_new fd_is_new
  g_is_new : mg "is_new" = some (.ref a_is_new)
  b_is_new : Binds K fd_is_new ["drawing", "tie"] []
  a_is_begin : Addr
  fd_is_begin : FuncData
  F_is_begin : Fun K "is_begin" "is_begin" s_is_begin a_is_begin fd_is_begin
  g_is_begin : mg "is_begin" = some (.ref a_is_begin)
  b_is_begin : Binds K fd_is_begin ["ring", "place"] []
  a_is_route : Addr
  fd_is_route : FuncData
  F_is_route : Fun K "is_route" "is_route" s_is_route a_is_route fd_is_route
  g_is_route : mg "is_route" = some (.ref a_is_route)
  b_is_route : Binds K fd_is_route ["drawing", "tie", "route"] []
  a_put : Addr
  fd_put : FuncData
  F_put : Fun K "put" "put" s_put a_put fd_put
  g_put : mg "put" = some (.ref a_put)
  b_put : Binds K fd_put ["drawing", "tie", "route"] []
  a_number_read : Addr
  fd_number_read : FuncData
  F_number_read : Fun K "number_read" "number_read" s_number_read a_number_read fd_number_read
  g_number_read : mg "number_read" = some (.ref a_number_read)
  b_number_read : Binds K fd_number_read ["word"] []
  a_read : Addr
  fd_read : FuncData
  F_read : Fun K "read" "read" s_read a_read fd_read
  g_read : mg "read" = some (.ref a_read)
  b_read : Binds K fd_read ["text"] []
  a_law_bare : Addr
  fd_law_bare : FuncData
  F_law_bare : Fun K "_law_bare" "_law_bare" s_law_bare a_law_bare fd_law_bare
  g_law_bare : mg "_law_bare" = some (.ref a_law_bare)
  b_law_bare : Binds K fd_law_bare ["_law_n"] []
  a_law_drawn : Addr
  fd_law_drawn : FuncData
  F_law_drawn : Fun K "_law_drawn" "_law_drawn" s_law_drawn a_law_drawn fd_law_drawn
  g_law_drawn : mg "_law_drawn" = some (.ref a_law_drawn)
  b_law_drawn : Binds K fd_law_drawn ["_law_way", "_law_n"] []
  a_law_kinds : Addr
  fd_law_kinds : FuncData
  F_law_kinds : Fun K "_law_kinds" "_law_kinds" s_law_kinds a_law_kinds fd_law_kinds
  g_law_kinds : mg "_law_kinds" = some (.ref a_law_kinds)
  b_law_kinds : Binds K fd_law_kinds ["_law_e"] []
  a_law_right : Addr
  fd_law_right : FuncData
  F_law_right : Fun K "_law_right" "_law_right" s_law_right a_law_right fd_law_right
  g_law_right : mg "_law_right" = some (.ref a_law_right)
  b_law_right : Binds K fd_law_right ["_law_way", "_law_n"] []
  a_law : Addr
  fd_law : FuncData
  F_law : Fun K "law" "law" s_law a_law fd_law
  g_law : mg "law" = some (.ref a_law)
  b_law : Binds K fd_law ["_law_script"] []
noncomputable def c_looked_at_must : MS := (sIf (tst (e2 dGt (e2 dIx (eVar 0) (eC (.int 0))) (eC (.int 6)))) (sRaise 0) sNil)
noncomputable def m_looked_at_must : List D → Store → Res D := runFn .val 1 c_looked_at_must
noncomputable def c_must : MS := (sSeq (sExpr (eCall 1 m_looked_at_must (aCons (eVar 0) aNil))) (sSeq sBad (sSeq sBad (sSeq sBad (sSeq sBad (sSeq sBad (sSeq sBad (sSeq sBad sBad))))))))
noncomputable def m_must : List D → Store → Res D := runFn .val 11 c_must
noncomputable def c_is_whole : MS := (sRet (eAnd (eB dIsi (aCons (eVar 0) (aCons (eC (.ty "int")) aNil))) (eNot (eB dIsi (aCons (eVar 0) (aCons (eC (.ty "bool")) aNil))))))
noncomputable def m_is_whole : List D → Store → Res D := runFn .val 1 c_is_whole
noncomputable def c_is_order : MS := (sSeq (sIf (tOr' (tNot' (tst (eB dIsi (aCons (eVar 0) (aCons (eC (.ty "tuple")) aNil))))) (tNot' (tst (eB (dAll false) (aCons (fz (fComp (iSeq (eVar 0)) (pName 2) tYes' (eCall 1 m_is_whole (aCons (eVar 2) aNil)) [2])) aNil))))) (sRet (eC (.bl false))) sNil) (sRet (e2 dEq (fz (eB fSorted (aCons (eVar 0) aNil))) (fz (fLR1 (eVar 1))))))
noncomputable def m_is_order : List D → Store → Res D := runFn .val 3 c_is_order
noncomputable def c_upper_looked_at : MS := (sIf (tNot' (tst (eCall 2 m_is_order (aCons (eVar 1) (aCons (e2 dIx (eVar 0) (eC (.int 0))) aNil))))) (sRaise 1) sNil)
noncomputable def m_upper_looked_at : List D → Store → Res D := runFn .val 2 c_upper_looked_at
noncomputable def c_both_looked_at : MS := (sSeq (sExpr (eCall 2 m_upper_looked_at (aCons (eVar 0) (aCons (eVar 1) aNil)))) (sIf (tNot' (tst (eCall 2 m_is_order (aCons (eVar 2) (aCons (e2 dIx (eVar 0) (eC (.int 1))) aNil))))) (sRaise 1) sNil))
noncomputable def m_both_looked_at : List D → Store → Res D := runFn .val 3 c_both_looked_at
noncomputable def c_crossed_rows : MS := (sSeq (sExpr (eCall 3 m_both_looked_at (aCons (eVar 0) (aCons (eVar 1) (aCons (eVar 2) aNil))))) (sSeq sBad (sSeq sBad (sSeq sBad sBad))))
noncomputable def m_crossed_rows : List D → Store → Res D := runFn .val 9 c_crossed_rows
noncomputable def c_tie_of : MS := (sSeq sBad (sSeq sBad (sSeq sBad sBad)))
noncomputable def m_tie_of : List D → Store → Res D := runFn .val 3 c_tie_of
noncomputable def c_web : MS := (sSeq (sIf (tOr' (tNot' (tst (eCall 1 m_is_whole (aCons (eVar 0) aNil)))) (tOr' (tst (e2 dLt (eVar 0) (eC (.int 1)))) (tst (e2 dGt (eVar 0) (eC (.int 10)))))) (sRaise 2) sNil) (sSeq (sIf (tNot' (tst (eB dIsi (aCons (eVar 1) (aCons (eC (.ty "tuple")) aNil))))) (sRaise 2) sNil) (sSeq (sAsg (fz (fun env S => ((fz (fComp (iSeq (eVar 1)) (pName 3) tYes' (eCall 2 m_tie_of (aCons (eVar 3) (aCons (eVar 0) aNil))) [3])) env S).bind fun d S1 => fSortSet d S1)) (pName 2)) (sSeq (sIf (tst (e2 dGt (eB dLen (aCons (eVar 2) aNil)) (eC (.int 18)))) (sRaise 2) sNil) (sRet (eTup (aCons (eVar 0) (aCons (eB dTuple (aCons (eVar 2) aNil)) aNil))))))))
noncomputable def m_web : List D → Store → Res D := runFn .val 4 c_web
noncomputable def c_is_tie : MS := (sSeq (sIf (tOr' (tNot' (tst (eB dIsi (aCons (eVar 0) (aCons (eC (.ty "tuple")) aNil))))) (tOr' (tst (e2 dNe (eB dLen (aCons (eVar 0) aNil)) (eC (.int 2)))) (tNot' (tst (eB (dAll false) (aCons (fz (fComp (iSeq (eVar 0)) (pName 3) tYes' (eCall 1 m_is_whole (aCons (eVar 3) aNil)) [3])) aNil)))))) (sRet (eC (.bl false))) sNil) (sRet (eAnd (eChain dLe dLt (eC (.int 0)) (e2 dIx (eVar 0) (eC (.int 0))) (eVar 1)) (eChain dLe dLt (eC (.int 0)) (e2 dIx (eVar 0) (eC (.int 1))) (eVar 2)))))
noncomputable def m_is_tie : List D → Store → Res D := runFn .val 4 c_is_tie
noncomputable def c_two_b1 : MS := (sIf (tOr' (tNot' (tst (eCall 1 m_is_whole (aCons (eVar 3) aNil)))) (tOr' (tst (e2 dLt (eVar 3) (eC (.int 1)))) (tst (e2 dGt (eVar 3) (eC (.int 7)))))) (sRaise 2) sNil)
noncomputable def c_two : MS := (sSeq (sFor (iSeq (eTup (aCons (eVar 0) (aCons (eVar 1) aNil)))) (pName 3) c_two_b1 [3]) (sSeq (sIf (tOr' (tNot' (tst (eB dIsi (aCons (eVar 2) (aCons (eC (.ty "tuple")) aNil))))) (tNot' (tst (eB (dAll false) (aCons (fz (fComp (iSeq (eVar 2)) (pName 5) tYes' (eCall 3 m_is_tie (aCons (eVar 5) (aCons (eVar 0) (aCons (eVar 1) aNil)))) [5])) aNil))))) (sRaise 2) sNil) (sSeq (sAsg (fz (fun env S => ((eVar 2) env S).bind fun d S1 => fSortSet d S1)) (pName 4)) (sSeq (sIf (tst (e2 dGt (eB dLen (aCons (eVar 4) aNil)) (eC (.int 18)))) (sRaise 2) sNil) (sRet (eTup (aCons (eVar 0) (aCons (eVar 1) (aCons (eB dTuple (aCons (eVar 4) aNil)) aNil)))))))))
noncomputable def m_two : List D → Store → Res D := runFn .val 6 c_two
noncomputable def c_law_other : MS := (sSeq (sIf (tst (e2 dEq (eVar 0) (eC (.int 2)))) (sRet (eCall 3 m_crossed_rows (aCons (eCall 3 m_two (aCons (eVar 1) (aCons (eVar 1) (aCons (eTup (aCons (eTup (aCons (eC (.int 0)) (aCons (eC (.int 1)) aNil))) aNil)) aNil)))) (aCons (eB dTuple (aCons (fz (fLR1 (eVar 1))) aNil)) (aCons (eB dTuple (aCons (fz (fLR1 (e2 dSub (eVar 1) (eC (.int 1))))) aNil)) aNil))))) sNil) (sSeq (sIf (tst (e2 dEq (eVar 0) (eC (.int 7)))) (sRet (eCall 2 m_web (aCons (eC (.int 0)) (aCons (eTup aNil) aNil)))) sNil) (sRet (eCall 1 m_must (aCons (eCall 2 m_web (aCons (e2 dAdd (eVar 1) (eC (.int 5))) (aCons (eTup aNil) aNil))) aNil)))))
noncomputable def m_law_other : List D → Store → Res D := runFn .val 2 c_law_other
noncomputable def c_is_there : MS := (sRet (eAnd (e2 (dInG false) (eVar 1) (e2 dIx (eVar 0) (eC (.int 1)))) (eB (dAll false) (aCons (fz (fComp (iSeq (eVar 1)) (pName 2) tYes' (eCall 1 m_is_whole (aCons (eVar 2) aNil)) [2])) aNil))))
noncomputable def m_is_there : List D → Store → Res D := runFn .val 3 c_is_there
noncomputable def c_without : MS := (sSeq (sIf (tNot' (tst (eCall 2 m_is_there (aCons (eVar 0) (aCons (eVar 1) aNil))))) (sRaise 3) sNil) (sSeq sBad (sSeq sBad (sSeq sBad (sSeq sBad sBad)))))
noncomputable def m_without : List D → Store → Res D := runFn .val 12 c_without
noncomputable def c_is_drawing : MS := (sSeq (sIf (tOr' (tNot' (tst (eB dIsi (aCons (eVar 0) (aCons (eC (.ty "tuple")) aNil))))) (tst (e2 dNe (eB dLen (aCons (eVar 0) aNil)) (eC (.int 5))))) (sRet (eC (.bl false))) sNil) (sSeq sBad (sSeq sBad (sSeq sBad sBad))))
noncomputable def m_is_drawing : List D → Store → Res D := runFn .val 7 c_is_drawing
noncomputable def c_plain : MS := (sSeq (sIf (tNot' (tst (eCall 1 m_is_drawing (aCons (eVar 0) aNil)))) (sRaise 4) sNil) sBad)
noncomputable def m_plain : List D → Store → Res D := runFn .val 1 c_plain
noncomputable def c_from_least : MS := (sSeq (sIf (tst (e2 dEq (eVar 0) (eTup aNil))) (sRet (eTup aNil)) sNil) (sSeq (sAsg (eMt dIndex isSeqB (eVar 0) (aCons (eB (dMin2 false) (aCons (eVar 0) aNil)) aNil)) (pName 1)) (sRet (e2 dAdd (eSl dSl (eVar 0) (oSome (eVar 1)) oNone) (eSl dSl (eVar 0) oNone (oSome (eVar 1)))))))
noncomputable def m_from_least : List D → Store → Res D := runFn .val 2 c_from_least
noncomputable def c_plained_b1 : MS := (sIf (tst (e2 (dInI true) (eVar 8) (eVar 6))) (sSet (eB dLenI (aCons (eVar 6) aNil)) (eVar 6) (eVar 8) dSetI) sNil)
noncomputable def c_plained_b2 : MS := (sFor (iSeq (eVar 7)) (pName 8) c_plained_b1 [8])
noncomputable def c_plained_b3 : MS := (sSet (eVar 10) (eVar 9) (e2 dIxI (eVar 6) (eVar 8)) dSetL)
noncomputable def c_plained : MS := (sSeq (sAsg (eVar 0) (pTup 5 (pCons (pName 1) (pCons (pName 2) (pCons (pName 3) (pCons (pName 4) (pCons (pName 5) pNil))))))) (sSeq (sAsg eI0 (pName 6)) (sSeq (sFor (iSeq (eVar 4)) (pName 7) c_plained_b2 [7, 8]) (sSeq (sAsg (cel (fMulL (fz (fLst (aCons (eC .non) aNil))) (eB dLen (aCons (eVar 5) aNil)))) (pName 9)) (sSeq (sFor (iEnumM (aCons (eVar 5) aNil)) (pTup 2 (pCons (pName 8) (pCons (pName 10) pNil))) c_plained_b3 [8, 10]) (sSeq (sAsg (fz (fComp (iSeq (eVar 4)) (pName 7) tYes' (eB dTuple (aCons (fz (fComp (iSeq (eVar 7)) (pName 8) tYes' (e2 dIxI (eVar 6) (eVar 8)) [8])) aNil)) [7])) (pName 11)) (sRet (eTup (aCons (eVar 1) (aCons (eVar 2) (aCons (eB dTuple (aCons (fz (fComp (iSeq (eVar 3)) (pName 12) tYes' (eCall 1 m_from_least (aCons (eVar 12) aNil)) [12])) aNil)) (aCons (eB dTuple (aCons (eVar 11) aNil)) (aCons (eB dTuple (aCons (eVar 9) aNil)) aNil)))))))))))))
noncomputable def m_plained : List D → Store → Res D := runFn .val 13 c_plained
noncomputable def c_lenses_along : MS := (sSeq sBad (sSeq sBad (sSeq sBad (sSeq sBad sBad))))
noncomputable def m_lenses_along : List D → Store → Res D := runFn .val 10 c_lenses_along
noncomputable def c_lenses_b1 : MS := (sIf (tst (e2 dNe (eVar 3) (eVar 4))) (sExpr (eMt dExt isLst (eVar 2) (aCons (eCall 3 m_lenses_along (aCons (eVar 1) (aCons (eVar 3) (aCons (eVar 4) aNil)))) aNil))) sNil)
noncomputable def c_lenses_b2 : MS := (sFor (iSeq (e2 dIx (eVar 1) (eC (.int 1)))) (pName 4) c_lenses_b1 [4])
noncomputable def c_lenses : MS := (sSeq (sAsg (eCall 1 m_plained (aCons (eVar 0) aNil)) (pName 1)) (sSeq (sAsg (cel (fLst aNil)) (pName 2)) (sSeq (sFor (iSeq (e2 dIx (eVar 1) (eC (.int 1)))) (pName 3) c_lenses_b2 [3, 4]) (sRet (eB dTuple (aCons (fz (eB fSorted (aCons (eVar 2) aNil))) aNil))))))
noncomputable def m_lenses : List D → Store → Res D := runFn .val 5 c_lenses
noncomputable def c_is_lens : MS := (sSeq (sIf (tst (e2 (dInG true) (eVar 1) (eCall 1 m_lenses (aCons (eVar 0) aNil)))) (sRet (eC (.bl false))) sNil) sBad)
noncomputable def m_is_lens : List D → Store → Res D := runFn .val 3 c_is_lens
noncomputable def c_loosened : MS := (sSeq (sIf (tNot' (tst (eCall 2 m_is_lens (aCons (eVar 0) (aCons (eVar 1) aNil))))) (sRaise 5) sNil) (sSeq sBad (sSeq sBad (sSeq sBad (sSeq sBad (sSeq sBad (sSeq sBad (sSeq sBad (sSeq sBad (sSeq sBad (sSeq sBad (sSeq sBad (sSeq sBad sBad)))))))))))))
noncomputable def m_loosened : List D → Store → Res D := runFn .val 17 c_loosened
noncomputable def c_looked_at_straight : MS := (sSeq (sIf (tst (e2 dNe (eB dLen (aCons (eVar 2) aNil)) (eVar 0))) (sRaise 6) sNil) (sSeq sBad sBad))
noncomputable def m_looked_at_straight : List D → Store → Res D := runFn .val 6 c_looked_at_straight
noncomputable def c_straight : MS := (sSeq (sAsg (eVar 0) (pTup 2 (pCons (pName 2) (pCons (pName 3) pNil)))) (sSeq (sExpr (eCall 3 m_looked_at_straight (aCons (eVar 2) (aCons (eVar 3) (aCons (eVar 1) aNil))))) (sSeq sBad (sSeq sBad (sSeq sBad (sSeq sBad (sSeq sBad sBad)))))))
noncomputable def m_straight : List D → Store → Res D := runFn .val 15 c_straight
noncomputable def c_is_new : MS := (sSeq (sIf (tOr' (tNot' (tst (eB dIsi (aCons (eVar 1) (aCons (eC (.ty "tuple")) aNil))))) (tOr' (tst (e2 dNe (eB dLen (aCons (eVar 1) aNil)) (eC (.int 2)))) (tNot' (tst (eB (dAll false) (aCons (fz (fComp (iSeq (eVar 1)) (pName 2) tYes' (eCall 1 m_is_whole (aCons (eVar 2) aNil)) [2])) aNil)))))) (sRet (eC (.bl false))) sNil) (sSeq (sIf (tNot' (tst (eChain3 dLe dLt dLt (eC (.int 0)) (e2 dIx (eVar 1) (eC (.int 0))) (e2 dIx (eVar 1) (eC (.int 1))) (e2 dIx (eVar 0) (eC (.int 0)))))) (sRet (eC (.bl false))) sNil) (sRet (eAnd (e2 (dInG true) (eVar 1) (e2 dIx (eVar 0) (eC (.int 1)))) (e2 dLt (eB dLen (aCons (e2 dIx (eVar 0) (eC (.int 1))) aNil)) (eC (.int 18)))))))
noncomputable def m_is_new : List D → Store → Res D := runFn .val 3 c_is_new
noncomputable def c_is_begin : MS := (sSeq (sIf (tst (e2 dEq (eVar 0) (eTup aNil))) (sRet (e2 (dIsN false) (eVar 1) (eC .non))) sNil) sBad)
noncomputable def m_is_begin : List D → Store → Res D := runFn .val 2 c_is_begin
noncomputable def c_is_route_b1 : MS := (sIf (tNot' (tst (eCall 2 m_is_begin (aCons (e2 dIx (e2 dIx (eVar 0) (eC (.int 2))) (eVar 3)) (aCons (eVar 4) aNil))))) (sRet (eC (.bl false))) sNil)
noncomputable def c_is_route : MS := (sSeq (sIf (tOr' (tNot' (tst (eB dIsi (aCons (eVar 2) (aCons (eC (.ty "tuple")) aNil))))) (tst (e2 dNe (eB dLen (aCons (eVar 2) aNil)) (eC (.int 3))))) (sRet (eC (.bl false))) sNil) (sSeq (sFor (iSeq (eTup (aCons (eTup (aCons (e2 dIx (eVar 1) (eC (.int 0))) (aCons (e2 dIx (eVar 2) (eC (.int 0))) aNil))) (aCons (eTup (aCons (e2 dIx (eVar 1) (eC (.int 1))) (aCons (e2 dIx (eVar 2) (eC (.int 2))) aNil))) aNil)))) (pTup 2 (pCons (pName 3) (pCons (pName 4) pNil))) c_is_route_b1 [3, 4]) sBad))
noncomputable def m_is_route : List D → Store → Res D := runFn .val 5 c_is_route
noncomputable def c_put : MS := (sSeq (sIf (tNot' (tst (eCall 2 m_is_new (aCons (eVar 0) (aCons (eVar 1) aNil))))) (sRaise 3) sNil) (sSeq (sIf (tNot' (tst (eCall 3 m_is_route (aCons (eVar 0) (aCons (eVar 1) (aCons (eVar 2) aNil)))))) (sRaise 7) sNil) (sSeq sBad (sSeq sBad (sSeq sBad (sSeq sBad (sSeq sBad (sSeq sBad (sSeq sBad (sSeq sBad (sSeq sBad (sSeq sBad (sSeq sBad (sSeq sBad sBad))))))))))))))
noncomputable def m_put : List D → Store → Res D := runFn .val 18 c_put
noncomputable def c_number_read : MS := (sSeq (sIf (tOr' (tst (e2 dEq (eVar 0) (eC (.str "")))) (tOr' tBad tBad)) (sRet (eC .non)) sNil) (sSeq sBad sBad))
noncomputable def m_number_read : List D → Store → Res D := runFn .val 2 c_number_read
noncomputable def c_read : MS := (sSeq (sIf (tNot' (tst (eB dIsi (aCons (eVar 0) (aCons (eC (.ty "str")) aNil))))) (sRaise 8) sNil) (sSeq (sAsg (eSpl (eVar 0) (eC (.str "\n"))) (pName 1)) (sSeq (sAsg (eCall 1 m_number_read (aCons (eSl dSlT (e2 dIx (eVar 1) (eC (.int 0))) (oSome (eC (.int 7))) oNone) aNil)) (pName 2)) (sSeq (sIf (tOr' (tst (e2 dNe (eSl dSlT (e2 dIx (eVar 1) (eC (.int 0))) oNone (oSome (eC (.int 7)))) (eC (.str "places ")))) (tOr' (tst (e2 (dIsN false) (eVar 2) (eC .non))) tBad)) (sRaise 8) sNil) (sSeq sBad (sSeq sBad (sSeq sBad (sSeq sBad sBad))))))))
noncomputable def m_read : List D → Store → Res D := runFn .val 6 c_read
noncomputable def c_law_bare : MS := (sRet (eTup (aCons (eVar 0) (aCons (eTup aNil) (aCons (e2 dMulT (eTup (aCons (eTup aNil) aNil)) (eVar 0)) (aCons (eTup aNil) (aCons (eTup aNil) aNil)))))))
noncomputable def m_law_bare : List D → Store → Res D := runFn .val 1 c_law_bare
noncomputable def c_law_drawn : MS := (sSeq (sIf (tst (e2 dEq (eVar 0) (eC (.int 0)))) (sRet (eCall 1 m_plain (aCons (eSl dSl (eCall 1 m_law_bare (aCons (eVar 1) aNil)) oNone (oSome (eC (.int 4)))) aNil))) sNil) (sSeq (sIf (tst (e2 dEq (eVar 0) (eC (.int 1)))) (sRet (eCall 2 m_loosened (aCons (eCall 1 m_law_bare (aCons (eVar 1) aNil)) (aCons (eTup (aCons (eTup (aCons (eC (.int 0)) (aCons (eC (.int 1)) aNil))) (aCons (eTup (aCons (eC (.int 0)) (aCons (eC (.int 2)) aNil))) (aCons (e1 dNeg (eC (.int 1))) (aCons (eC (.int 0)) aNil))))) aNil)))) sNil) (sSeq (sIf (tst (e2 dEq (eVar 0) (eC (.int 3)))) (sRet (eCall 2 m_straight (aCons (eCall 2 m_web (aCons (eVar 1) (aCons (eTup aNil) aNil))) (aCons (e2 dMulT1 (eTup (aCons (eTup (aCons (eC (.int 0)) (aCons (eC (.int 0)) aNil))) aNil)) (e2 dSub (eVar 1) (eC (.int 1)))) aNil)))) sNil) (sSeq (sIf (tst (e2 dEq (eVar 0) (eC (.int 4)))) (sRet (eCall 3 m_put (aCons (eCall 1 m_law_bare (aCons (eVar 1) aNil)) (aCons (eTup (aCons (eC (.int 0)) (aCons (eC (.int 1)) aNil))) (aCons (eTup (aCons (eC .non) (aCons (eTup aNil) (aCons (eC (.int 0)) aNil)))) aNil))))) sNil) (sSeq (sIf (tst (e2 dEq (eVar 0) (eC (.int 5)))) (sRet (eCall 1 m_read (aCons (eC (.str "places")) aNil))) sNil) (sRet (eCall 2 m_without (aCons (eCall 1 m_law_bare (aCons (eVar 1) aNil)) (aCons (eTup (aCons (eC (.int 0)) (aCons (eC (.int 1)) aNil))) aNil)))))))))
noncomputable def m_law_drawn : List D → Store → Res D := runFn .val 2 c_law_drawn
noncomputable def c_law_kinds : MS := (sSeq (sAsg (fz (fLst (aCons (eB (dIsX isx) (aCons (eVar 0) (aCons (eC (.cl "NoDrawing")) aNil))) (aCons (eB (dIsX isx) (aCons (eVar 0) (aCons (eC (.cl "NoLens")) aNil))) (aCons (eB (dIsX isx) (aCons (eVar 0) (aCons (eC (.cl "NoOrder")) aNil))) (aCons (eB (dIsX isx) (aCons (eVar 0) (aCons (eC (.cl "NoPoints")) aNil))) aNil)))))) (pName 1)) (sSeq (sAsg (e2 dAdd (eVar 1) (fz (fLst (aCons (eB (dIsX isx) (aCons (eVar 0) (aCons (eC (.cl "NoRoute")) aNil))) (aCons (eB (dIsX isx) (aCons (eVar 0) (aCons (eC (.cl "NoText")) aNil))) (aCons (eB (dIsX isx) (aCons (eVar 0) (aCons (eC (.cl "NoTie")) aNil))) (aCons (eB (dIsX isx) (aCons (eVar 0) (aCons (eC (.cl "NoWeb")) aNil))) aNil))))))) (pName 1)) (sSeq (sAsg (e2 dAdd (eVar 1) (fz (fLst (aCons (eB (dIsX isx) (aCons (eVar 0) (aCons (eC (.cl "TooMany")) aNil))) (aCons (eNot (eB (dIsX isx) (aCons (eVar 0) (aCons (eC (.ty "ValueError")) aNil)))) aNil))))) (pName 1)) (sRet (e2 dAdd (eVar 1) (fz (fLst (aCons (eB (dIsX isx) (aCons (eVar 0) (aCons (eC (.ty "LookupError")) aNil))) (aCons (eB (dIsX isx) (aCons (eVar 0) (aCons (eC (.ty "ArithmeticError")) aNil))) (aCons (eB (dIsX isx) (aCons (eVar 0) (aCons (eC (.ty "TypeError")) aNil))) aNil))))))))))
noncomputable def m_law_kinds : List D → Store → Res D := runFn .val 2 c_law_kinds
noncomputable def c_law_right : MS := (sSeq (sAsg (fz (fLst aNil)) (pName 2)) (sSeq (sCl [3] (sTry (sIf (tst (e2 (dInG false) (eVar 0) (eTup (aCons (eC (.int 2)) (aCons (eC (.int 7)) (aCons (eC (.int 8)) aNil)))))) (sExpr (eCall 2 m_law_other (aCons (eVar 0) (aCons (eVar 1) aNil)))) (sExpr (eCall 2 m_law_drawn (aCons (eVar 0) (aCons (eVar 1) aNil))))) ct_CrossError cn 3 (sAsg (eCall 1 m_law_kinds (aCons (eVar 3) aNil)) (pName 2)))) (sRet (e2 dEq (fz (fComp (iR1 (aCons (eB dLen (aCons (eVar 2) aNil)) aNil)) (pName 4) (tst (e2 dIx (eVar 2) (eVar 4))) (eVar 4) [4])) (fz (fLst (aCons (eVar 0) aNil)))))))
noncomputable def m_law_right : List D → Store → Res D := runFn .val 5 c_law_right
noncomputable def c_law_b1 : MS := (sIf (tNot' (tst (eCall 2 m_law_right (aCons (e2 dMod (eVar 1) (eC (.int 9))) (aCons (e2 dAdd (eC (.int 2)) (e2 dMod (e2 dFdiv (eVar 1) (eC (.int 9))) (eC (.int 4)))) aNil))))) (sRet (eC (.bl false))) sNil)
noncomputable def c_law : MS := (sSeq (sFor (iSeq (eSl dSl (eVar 0) oNone (oSome (eC (.int 12))))) (pName 1) c_law_b1 [1]) (sRet (e2 dEq (fz (fComp (iR1 (aCons (eC (.int 9)) aNil)) (pName 2) (tNot' (tst (eCall 2 m_law_right (aCons (eVar 2) (aCons (eC (.int 2)) aNil))))) (eVar 2) [2])) (fz (fLst aNil)))))
noncomputable def m_law : List D → Store → Res D := runFn .val 3 c_law
section
variable {P : Program} {w : World} {K : PySem.W.Frag} {mg : Str → Option Value} {base : Heap}
theorem ok_looked_at_must (T : Top P w K mg base) : FnOkG P w K mg base (L2.CX P w) 1 T.a_looked_at_must T.fd_looked_at_must ["web"] (spF K T.cA 1 m_looked_at_must) :=
  fn_ok T.F_looked_at_must sc_looked_at_must fun cdv A outer s H E hr => by
    have nd := sc_looked_at_must.nd
    have tk : Takes (cxOf (L2.CX P w) P w K mg base ["web"] "looked_at" (defScope s_looked_at_must) T.a_looked_at_must cdv A outer s H E) (WF E) := takes_of rfl rfl rfl rfl
    have hp : PassesOwn (model P w) (cxOf (L2.CX P w) P w K mg base ["web"] "looked_at" (defScope s_looked_at_must) T.a_looked_at_must cdv A outer s H E).A (cxOf (L2.CX P w) P w K mg base ["web"] "looked_at" (defScope s_looked_at_must) T.a_looked_at_must cdv A outer s H E).env (cxOf (L2.CX P w) P w K mg base ["web"] "looked_at" (defScope s_looked_at_must) T.a_looked_at_must cdv A outer s H E).xe := passes_of rfl
    exact (js_one (js_if (jt_cmp op_gt od_gt (je_ix (je_var 0) je_int) (je_gint rfl T.c_MOST_PLACES_must) (nomark _)) (js_one (js_raise 0 rfl tk T.q_TooMany rfl)) js_nil))
theorem ok_must (T : Top P w K mg base) : FnOkG P w K mg base (L2.CX P w) 2 T.a_must T.fd_must ["web"] (spF K T.cA 1 m_must) :=
  fn_ok T.F_must sc_must fun cdv A outer s H E hr => by
    have nd := sc_must.nd
    have tk : Takes (cxOf (L2.CX P w) P w K mg base ["web", "number", "lists", "known", "row", "pair", "rows", "turns", "some", "turn", "k"] "must" (defScope s_must) T.a_must cdv A outer s H E) (WF E) := takes_of rfl rfl rfl rfl
    have hp : PassesOwn (model P w) (cxOf (L2.CX P w) P w K mg base ["web", "number", "lists", "known", "row", "pair", "rows", "turns", "some", "turn", "k"] "must" (defScope s_must) T.a_must cdv A outer s H E).A (cxOf (L2.CX P w) P w K mg base ["web", "number", "lists", "known", "row", "pair", "rows", "turns", "some", "turn", "k"] "must" (defScope s_must) T.a_must cdv A outer s H E).env (cxOf (L2.CX P w) P w K mg base ["web", "number", "lists", "known", "row", "pair", "rows", "turns", "some", "turn", "k"] "must" (defScope s_must) T.a_must cdv A outer s H E).xe := passes_of rfl
    exact (js_cons (js_expr (je_call (ok_looked_at_must T) (hr.mono (by decide)) rfl T.g_looked_at_must T.F_looked_at_must.kp T.b_looked_at_must tk (ja_cons (je_var 0) ja_nil)))
      (js_cons js_bad
      (js_cons js_bad
      (js_cons js_bad
      (js_cons js_bad
      (js_cons js_bad
      (js_cons js_bad
      (js_cons js_bad
      (js_one js_bad)))))))))
theorem ok_is_whole (T : Top P w K mg base) : FnOkG P w K mg base (L2.CX P w) 1 T.a_is_whole T.fd_is_whole ["thing"] (spF K T.cA 1 m_is_whole) :=
  fn_ok T.F_is_whole sc_is_whole fun cdv A outer s H E hr => by
    have nd := sc_is_whole.nd
    have tk : Takes (cxOf (L2.CX P w) P w K mg base ["thing"] "is_whole" (defScope s_is_whole) T.a_is_whole cdv A outer s H E) (WF E) := takes_of rfl rfl rfl rfl
    have hp : PassesOwn (model P w) (cxOf (L2.CX P w) P w K mg base ["thing"] "is_whole" (defScope s_is_whole) T.a_is_whole cdv A outer s H E).A (cxOf (L2.CX P w) P w K mg base ["thing"] "is_whole" (defScope s_is_whole) T.a_is_whole cdv A outer s H E).env (cxOf (L2.CX P w) P w K mg base ["thing"] "is_whole" (defScope s_is_whole) T.a_is_whole cdv A outer s H E).xe := passes_of rfl
    exact (js_one (js_ret (je_and (je_B call_isi cd_isi rfl T.n_isinstance (by decide +kernel) (ja_cons (je_var 0) (ja_cons (je_ty rfl T.n_int (by decide +kernel)) ja_nil))) (je_one (je_not (je_B call_isi cd_isi rfl T.n_isinstance (by decide +kernel) (ja_cons (je_var 0) (ja_cons (je_ty rfl T.n_bool (by decide +kernel)) ja_nil))))))))
theorem ok_is_order (T : Top P w K mg base) : FnOkG P w K mg base (L2.CX P w) 2 T.a_is_order T.fd_is_order ["thing", "many"] (spF K T.cA 2 m_is_order) :=
  fn_ok T.F_is_order sc_is_order fun cdv A outer s H E hr => by
    have nd := sc_is_order.nd
    have tk : Takes (cxOf (L2.CX P w) P w K mg base ["thing", "many", "place"] "is_order" (defScope s_is_order) T.a_is_order cdv A outer s H E) (WF E) := takes_of rfl rfl rfl rfl
    have hp : PassesOwn (model P w) (cxOf (L2.CX P w) P w K mg base ["thing", "many", "place"] "is_order" (defScope s_is_order) T.a_is_order cdv A outer s H E).A (cxOf (L2.CX P w) P w K mg base ["thing", "many", "place"] "is_order" (defScope s_is_order) T.a_is_order cdv A outer s H E).env (cxOf (L2.CX P w) P w K mg base ["thing", "many", "place"] "is_order" (defScope s_is_order) T.a_is_order cdv A outer s H E).xe := passes_of rfl
    exact (js_cons (js_if (PW.pt (jw_or (jt_not (jt_val (je_B call_isi cd_isi rfl T.n_isinstance (by decide +kernel) (ja_cons (je_var 0) (ja_cons (je_ty rfl T.n_tuple (by decide +kernel)) ja_nil))))) (jw_or1 (jt_not (jt_val (je_B (cr_all rfl) cd_all rfl T.n_all (by decide +kernel) (ja_cons (je_fz (jf_lc [("place", 2)] rfl nd (ji_seq (je_var 0)) (blkOk_by (N := ["thing", "many", "place"]) (sc := defScope s_is_order) (own := [("place", 2)]) (by decide +kernel)) (fun _ _ _ _ _ => (jgo_name 2 nd)) (fun _ _ _ _ _ => jts_nil) (fun _ _ _ _ _ => (je_call (ok_is_whole T) (hr.mono (by decide)) rfl T.g_is_whole T.F_is_whole.kp T.b_is_whole takes0 (ja_cons (je_var 2) ja_nil))))) ja_nil))))))) (js_one (js_ret je_bl)) js_nil)
      (js_one (js_ret (je_cmp (op_eqD hr.units) od_eq (je_fz (jf_B (cr_sortD hr.units) cf_sorted rfl T.n_sorted (by decide +kernel) (ja_cons (je_var 0) ja_nil))) (je_fz (jf_lr1 rfl rfl T.n_list rfl T.n_range (je_var 1))) (nomark _)))))
theorem ok_upper_looked_at (T : Top P w K mg base) : FnOkG P w K mg base (L2.CX P w) 3 T.a_upper_looked_at T.fd_upper_looked_at ["web", "upper"] (spF K T.cA 2 m_upper_looked_at) :=
  fn_ok T.F_upper_looked_at sc_upper_looked_at fun cdv A outer s H E hr => by
    have nd := sc_upper_looked_at.nd
    have tk : Takes (cxOf (L2.CX P w) P w K mg base ["web", "upper"] "upper_looked_at" (defScope s_upper_looked_at) T.a_upper_looked_at cdv A outer s H E) (WF E) := takes_of rfl rfl rfl rfl
    have hp : PassesOwn (model P w) (cxOf (L2.CX P w) P w K mg base ["web", "upper"] "upper_looked_at" (defScope s_upper_looked_at) T.a_upper_looked_at cdv A outer s H E).A (cxOf (L2.CX P w) P w K mg base ["web", "upper"] "upper_looked_at" (defScope s_upper_looked_at) T.a_upper_looked_at cdv A outer s H E).env (cxOf (L2.CX P w) P w K mg base ["web", "upper"] "upper_looked_at" (defScope s_upper_looked_at) T.a_upper_looked_at cdv A outer s H E).xe := passes_of rfl
    exact (js_one (js_if (jt_not (jt_val (je_call (ok_is_order T) (hr.mono (by decide)) rfl T.g_is_order T.F_is_order.kp T.b_is_order tk (ja_cons (je_var 1) (ja_cons (je_ix (je_var 0) je_int) ja_nil))))) (js_one (js_raise 1 rfl tk T.q_NoOrder rfl)) js_nil))
theorem ok_both_looked_at (T : Top P w K mg base) : FnOkG P w K mg base (L2.CX P w) 4 T.a_both_looked_at T.fd_both_looked_at ["web", "upper", "lower"] (spF K T.cA 3 m_both_looked_at) :=
  fn_ok T.F_both_looked_at sc_both_looked_at fun cdv A outer s H E hr => by
    have nd := sc_both_looked_at.nd
    have tk : Takes (cxOf (L2.CX P w) P w K mg base ["web", "upper", "lower"] "both_looked_at" (defScope s_both_looked_at) T.a_both_looked_at cdv A outer s H E) (WF E) := takes_of rfl rfl rfl rfl
    have hp : PassesOwn (model P w) (cxOf (L2.CX P w) P w K mg base ["web", "upper", "lower"] "both_looked_at" (defScope s_both_looked_at) T.a_both_looked_at cdv A outer s H E).A (cxOf (L2.CX P w) P w K mg base ["web", "upper", "lower"] "both_looked_at" (defScope s_both_looked_at) T.a_both_looked_at cdv A outer s H E).env (cxOf (L2.CX P w) P w K mg base ["web", "upper", "lower"] "both_looked_at" (defScope s_both_looked_at) T.a_both_looked_at cdv A outer s H E).xe := passes_of rfl
    exact (js_cons (js_expr (je_call (ok_upper_looked_at T) (hr.mono (by decide)) rfl T.g_upper_looked_at T.F_upper_looked_at.kp T.b_upper_looked_at tk (ja_cons (je_var 0) (ja_cons (je_var 1) ja_nil))))
      (js_one (js_if (jt_not (jt_val (je_call (ok_is_order T) (hr.mono (by decide)) rfl T.g_is_order T.F_is_order.kp T.b_is_order tk (ja_cons (je_var 2) (ja_cons (je_ix (je_var 0) je_int) ja_nil))))) (js_one (js_raise 1 rfl tk T.q_NoOrder rfl)) js_nil)))
theorem ok_crossed_rows (T : Top P w K mg base) : FnOkG P w K mg base (L2.CX P w) 5 T.a_crossed_rows T.fd_crossed_rows ["web", "upper", "lower"] (spF K T.cA 3 m_crossed_rows) :=
  fn_ok T.F_crossed_rows sc_crossed_rows fun cdv A outer s H E hr => by
    have nd := sc_crossed_rows.nd
    have tk : Takes (cxOf (L2.CX P w) P w K mg base ["web", "upper", "lower", "spots", "found", "a", "b", "c", "d"] "crossed" (defScope s_crossed_rows) T.a_crossed_rows cdv A outer s H E) (WF E) := takes_of rfl rfl rfl rfl
    have hp : PassesOwn (model P w) (cxOf (L2.CX P w) P w K mg base ["web", "upper", "lower", "spots", "found", "a", "b", "c", "d"] "crossed" (defScope s_crossed_rows) T.a_crossed_rows cdv A outer s H E).A (cxOf (L2.CX P w) P w K mg base ["web", "upper", "lower", "spots", "found", "a", "b", "c", "d"] "crossed" (defScope s_crossed_rows) T.a_crossed_rows cdv A outer s H E).env (cxOf (L2.CX P w) P w K mg base ["web", "upper", "lower", "spots", "found", "a", "b", "c", "d"] "crossed" (defScope s_crossed_rows) T.a_crossed_rows cdv A outer s H E).xe := passes_of rfl
    exact (js_cons (js_expr (je_call (ok_both_looked_at T) (hr.mono (by decide)) rfl T.g_both_looked_at T.F_both_looked_at.kp T.b_both_looked_at tk (ja_cons (je_var 0) (ja_cons (je_var 1) (ja_cons (je_var 2) ja_nil)))))
      (js_cons js_bad
      (js_cons js_bad
      (js_cons js_bad
      (js_one js_bad)))))
theorem ok_tie_of (T : Top P w K mg base) : FnOkG P w K mg base (L2.CX P w) 1 T.a_tie_of T.fd_tie_of ["thing", "n"] (spF K T.cA 2 m_tie_of) :=
  fn_ok T.F_tie_of sc_tie_of fun cdv A outer s H E hr => by
    have nd := sc_tie_of.nd
    have tk : Takes (cxOf (L2.CX P w) P w K mg base ["thing", "n", "place"] "tie_of" (defScope s_tie_of) T.a_tie_of cdv A outer s H E) (WF E) := takes_of rfl rfl rfl rfl
    have hp : PassesOwn (model P w) (cxOf (L2.CX P w) P w K mg base ["thing", "n", "place"] "tie_of" (defScope s_tie_of) T.a_tie_of cdv A outer s H E).A (cxOf (L2.CX P w) P w K mg base ["thing", "n", "place"] "tie_of" (defScope s_tie_of) T.a_tie_of cdv A outer s H E).env (cxOf (L2.CX P w) P w K mg base ["thing", "n", "place"] "tie_of" (defScope s_tie_of) T.a_tie_of cdv A outer s H E).xe := passes_of rfl
    exact (js_cons js_bad
      (js_cons js_bad
      (js_cons js_bad
      (js_one js_bad))))
theorem ok_web (T : Top P w K mg base) : FnOkG P w K mg base (L2.CX P w) 2 T.a_web T.fd_web ["n", "some"] (spF K T.cA 2 m_web) :=
  fn_ok T.F_web sc_web fun cdv A outer s H E hr => by
    have nd := sc_web.nd
    have tk : Takes (cxOf (L2.CX P w) P w K mg base ["n", "some", "ties", "one"] "web" (defScope s_web) T.a_web cdv A outer s H E) (WF E) := takes_of rfl rfl rfl rfl
    have hp : PassesOwn (model P w) (cxOf (L2.CX P w) P w K mg base ["n", "some", "ties", "one"] "web" (defScope s_web) T.a_web cdv A outer s H E).A (cxOf (L2.CX P w) P w K mg base ["n", "some", "ties", "one"] "web" (defScope s_web) T.a_web cdv A outer s H E).env (cxOf (L2.CX P w) P w K mg base ["n", "some", "ties", "one"] "web" (defScope s_web) T.a_web cdv A outer s H E).xe := passes_of rfl
    exact (js_cons (js_if (PW.pt (jw_or (jt_not (jt_val (je_call (ok_is_whole T) (hr.mono (by decide)) rfl T.g_is_whole T.F_is_whole.kp T.b_is_whole tk (ja_cons (je_var 0) ja_nil)))) (jw_or (jt_cmp (op_lt2 hr.units0) od_lt (je_var 0) je_int (nomark _)) (jw_or1 (jt_cmp op_gt od_gt (je_var 0) (je_gint rfl T.c_MOST_PLACES_webs) (nomark _)))))) (js_one (js_raise 2 rfl tk T.q_NoWeb rfl)) js_nil)
      (js_cons (js_if (jt_not (jt_val (je_B call_isi cd_isi rfl T.n_isinstance (by decide +kernel) (ja_cons (je_var 1) (ja_cons (je_ty rfl T.n_tuple (by decide +kernel)) ja_nil))))) (js_one (js_raise 2 rfl tk T.q_NoWeb rfl)) js_nil)
      (js_cons (js_set 2 nd (je_fz (jf_sortSet rfl hr.units rfl T.n_sorted rfl T.n_set (je_fz (jf_lc [("one", 3)] rfl nd (ji_seq (je_var 1)) (blkOk_by (N := ["n", "some", "ties", "one"]) (sc := defScope s_web) (own := [("one", 3)]) (by decide +kernel)) (fun _ _ _ _ _ => (jgo_name 3 nd)) (fun _ _ _ _ _ => jts_nil) (fun _ _ _ _ _ => (je_call (ok_tie_of T) (hr.mono (by decide)) rfl T.g_tie_of T.F_tie_of.kp T.b_tie_of takes0 (ja_cons (je_var 3) (ja_cons (je_var 0) ja_nil)))))))))
      (js_cons (js_if (jt_cmp op_gt od_gt (je_B call_len_seq cd_len rfl T.n_len (by decide +kernel) (ja_cons (je_var 2) ja_nil)) (je_gint rfl T.c_MOST_TIES) (nomark _)) (js_one (js_raise 2 rfl tk T.q_NoWeb rfl)) js_nil)
      (js_one (js_ret (je_tup (ja_cons (je_var 0) (ja_cons (je_Ty call_tupleZ cd_tuple rfl T.n_tuple (by decide +kernel) (ja_cons (je_var 2) ja_nil)) ja_nil)))))))))
theorem ok_is_tie (T : Top P w K mg base) : FnOkG P w K mg base (L2.CX P w) 2 T.a_is_tie T.fd_is_tie ["thing", "p", "q"] (spF K T.cA 3 m_is_tie) :=
  fn_ok T.F_is_tie sc_is_tie fun cdv A outer s H E hr => by
    have nd := sc_is_tie.nd
    have tk : Takes (cxOf (L2.CX P w) P w K mg base ["thing", "p", "q", "place"] "is_tie" (defScope s_is_tie) T.a_is_tie cdv A outer s H E) (WF E) := takes_of rfl rfl rfl rfl
    have hp : PassesOwn (model P w) (cxOf (L2.CX P w) P w K mg base ["thing", "p", "q", "place"] "is_tie" (defScope s_is_tie) T.a_is_tie cdv A outer s H E).A (cxOf (L2.CX P w) P w K mg base ["thing", "p", "q", "place"] "is_tie" (defScope s_is_tie) T.a_is_tie cdv A outer s H E).env (cxOf (L2.CX P w) P w K mg base ["thing", "p", "q", "place"] "is_tie" (defScope s_is_tie) T.a_is_tie cdv A outer s H E).xe := passes_of rfl
    exact (js_cons (js_if (PW.pt (jw_or (jt_not (jt_val (je_B call_isi cd_isi rfl T.n_isinstance (by decide +kernel) (ja_cons (je_var 0) (ja_cons (je_ty rfl T.n_tuple (by decide +kernel)) ja_nil))))) (jw_or (jt_cmp (op_neD hr.units) od_ne (je_B call_len_seq cd_len rfl T.n_len (by decide +kernel) (ja_cons (je_var 0) ja_nil)) je_int (nomark _)) (jw_or1 (jt_not (jt_val (je_B (cr_all rfl) cd_all rfl T.n_all (by decide +kernel) (ja_cons (je_fz (jf_lc [("place", 3)] rfl nd (ji_seq (je_var 0)) (blkOk_by (N := ["thing", "p", "q", "place"]) (sc := defScope s_is_tie) (own := [("place", 3)]) (by decide +kernel)) (fun _ _ _ _ _ => (jgo_name 3 nd)) (fun _ _ _ _ _ => jts_nil) (fun _ _ _ _ _ => (je_call (ok_is_whole T) (hr.mono (by decide)) rfl T.g_is_whole T.F_is_whole.kp T.b_is_whole takes0 (ja_cons (je_var 3) ja_nil))))) ja_nil)))))))) (js_one (js_ret je_bl)) js_nil)
      (js_one (js_ret (je_and (je_chain op_le od_le (op_lt2 hr.units0) od_lt je_int (je_ix (je_var 0) je_int) (je_var 1)) (je_one (je_chain op_le od_le (op_lt2 hr.units0) od_lt je_int (je_ix (je_var 0) je_int) (je_var 2)))))))
theorem ok_two (T : Top P w K mg base) : FnOkG P w K mg base (L2.CX P w) 3 T.a_two T.fd_two ["p", "q", "some"] (spF K T.cA 3 m_two) :=
  fn_ok T.F_two sc_two fun cdv A outer s H E hr => by
    have nd := sc_two.nd
    have tk : Takes (cxOf (L2.CX P w) P w K mg base ["p", "q", "some", "many", "ties", "one"] "two" (defScope s_two) T.a_two cdv A outer s H E) (WF E) := takes_of rfl rfl rfl rfl
    have hp : PassesOwn (model P w) (cxOf (L2.CX P w) P w K mg base ["p", "q", "some", "many", "ties", "one"] "two" (defScope s_two) T.a_two cdv A outer s H E).A (cxOf (L2.CX P w) P w K mg base ["p", "q", "some", "many", "ties", "one"] "two" (defScope s_two) T.a_two cdv A outer s H E).env (cxOf (L2.CX P w) P w K mg base ["p", "q", "some", "many", "ties", "one"] "two" (defScope s_two) T.a_two cdv A outer s H E).xe := passes_of rfl
    exact (js_cons (js_for [3] hp rfl (ji_seq (je_tup (ja_cons (je_var 0) (ja_cons (je_var 1) ja_nil)))) (jg_name 3 nd)
      (js_one (js_if (PW.pt (jw_or (jt_not (jt_val (je_call (ok_is_whole T) (hr.mono (by decide)) rfl T.g_is_whole T.F_is_whole.kp T.b_is_whole tk (ja_cons (je_var 3) ja_nil)))) (jw_or (jt_cmp (op_lt2 hr.units0) od_lt (je_var 3) je_int (nomark _)) (jw_or1 (jt_cmp op_gt od_gt (je_var 3) (je_gint rfl T.c_MOST_IN_ROW) (nomark _)))))) (js_one (js_raise 2 rfl tk T.q_NoWeb rfl)) js_nil)))
      (js_cons (js_if (PW.pt (jw_or (jt_not (jt_val (je_B call_isi cd_isi rfl T.n_isinstance (by decide +kernel) (ja_cons (je_var 2) (ja_cons (je_ty rfl T.n_tuple (by decide +kernel)) ja_nil))))) (jw_or1 (jt_not (jt_val (je_B (cr_all rfl) cd_all rfl T.n_all (by decide +kernel) (ja_cons (je_fz (jf_lc [("one", 5)] rfl nd (ji_seq (je_var 2)) (blkOk_by (N := ["p", "q", "some", "many", "ties", "one"]) (sc := defScope s_two) (own := [("one", 5)]) (by decide +kernel)) (fun _ _ _ _ _ => (jgo_name 5 nd)) (fun _ _ _ _ _ => jts_nil) (fun _ _ _ _ _ => (je_call (ok_is_tie T) (hr.mono (by decide)) rfl T.g_is_tie T.F_is_tie.kp T.b_is_tie takes0 (ja_cons (je_var 5) (ja_cons (je_var 0) (ja_cons (je_var 1) ja_nil))))))) ja_nil))))))) (js_one (js_raise 2 rfl tk T.q_NoWeb rfl)) js_nil)
      (js_cons (js_set 4 nd (je_fz (jf_sortSet rfl hr.units rfl T.n_sorted rfl T.n_set (je_var 2))))
      (js_cons (js_if (jt_cmp op_gt od_gt (je_B call_len_seq cd_len rfl T.n_len (by decide +kernel) (ja_cons (je_var 4) ja_nil)) (je_gint rfl T.c_MOST_TIES) (nomark _)) (js_one (js_raise 2 rfl tk T.q_NoWeb rfl)) js_nil)
      (js_one (js_ret (je_tup (ja_cons (je_var 0) (ja_cons (je_var 1) (ja_cons (je_Ty call_tupleZ cd_tuple rfl T.n_tuple (by decide +kernel) (ja_cons (je_var 4) ja_nil)) ja_nil))))))))))
theorem ok_law_other (T : Top P w K mg base) : FnOkG P w K mg base (L2.CX P w) 6 T.a_law_other T.fd_law_other ["_law_way", "_law_n"] (spF K T.cA 2 m_law_other) :=
  fn_ok T.F_law_other sc_law_other fun cdv A outer s H E hr => by
    have nd := sc_law_other.nd
    have tk : Takes (cxOf (L2.CX P w) P w K mg base ["_law_way", "_law_n"] "_law_other" (defScope s_law_other) T.a_law_other cdv A outer s H E) (WF E) := takes_of rfl rfl rfl rfl
    have hp : PassesOwn (model P w) (cxOf (L2.CX P w) P w K mg base ["_law_way", "_law_n"] "_law_other" (defScope s_law_other) T.a_law_other cdv A outer s H E).A (cxOf (L2.CX P w) P w K mg base ["_law_way", "_law_n"] "_law_other" (defScope s_law_other) T.a_law_other cdv A outer s H E).env (cxOf (L2.CX P w) P w K mg base ["_law_way", "_law_n"] "_law_other" (defScope s_law_other) T.a_law_other cdv A outer s H E).xe := passes_of rfl
    exact (js_cons (js_if (jt_cmp (op_eqD hr.units) od_eq (je_var 0) je_int (nomark _)) (js_one (js_ret (je_call (ok_crossed_rows T) (hr.mono (by decide)) rfl T.g_crossed_rows T.F_crossed_rows.kp T.b_crossed_rows tk (ja_cons (je_call (ok_two T) (hr.mono (by decide)) rfl T.g_two T.F_two.kp T.b_two tk (ja_cons (je_var 1) (ja_cons (je_var 1) (ja_cons (je_tup (ja_cons (je_tup (ja_cons je_int (ja_cons je_int ja_nil))) ja_nil)) ja_nil)))) (ja_cons (je_Ty call_tupleZ cd_tuple rfl T.n_tuple (by decide +kernel) (ja_cons (je_fz (jf_lr1 rfl rfl T.n_list rfl T.n_range (je_var 1))) ja_nil)) (ja_cons (je_Ty call_tupleZ cd_tuple rfl T.n_tuple (by decide +kernel) (ja_cons (je_fz (jf_lr1 rfl rfl T.n_list rfl T.n_range (je_op op_sub od_sub (je_var 1) je_int))) ja_nil)) ja_nil)))))) js_nil)
      (js_cons (js_if (jt_cmp (op_eqD hr.units) od_eq (je_var 0) je_int (nomark _)) (js_one (js_ret (je_call (ok_web T) (hr.mono (by decide)) rfl T.g_web T.F_web.kp T.b_web tk (ja_cons je_int (ja_cons (je_tup ja_nil) ja_nil))))) js_nil)
      (js_one (js_ret (je_call (ok_must T) (hr.mono (by decide)) rfl T.g_must T.F_must.kp T.b_must tk (ja_cons (je_call (ok_web T) (hr.mono (by decide)) rfl T.g_web T.F_web.kp T.b_web tk (ja_cons (je_op op_add3 od_add (je_var 1) je_int) (ja_cons (je_tup ja_nil) ja_nil))) ja_nil))))))
theorem ok_is_there (T : Top P w K mg base) : FnOkG P w K mg base (L2.CX P w) 2 T.a_is_there T.fd_is_there ["drawing", "tie"] (spF K T.cA 2 m_is_there) :=
  fn_ok T.F_is_there sc_is_there fun cdv A outer s H E hr => by
    have nd := sc_is_there.nd
    have tk : Takes (cxOf (L2.CX P w) P w K mg base ["drawing", "tie", "place"] "is_there" (defScope s_is_there) T.a_is_there cdv A outer s H E) (WF E) := takes_of rfl rfl rfl rfl
    have hp : PassesOwn (model P w) (cxOf (L2.CX P w) P w K mg base ["drawing", "tie", "place"] "is_there" (defScope s_is_there) T.a_is_there cdv A outer s H E).A (cxOf (L2.CX P w) P w K mg base ["drawing", "tie", "place"] "is_there" (defScope s_is_there) T.a_is_there cdv A outer s H E).env (cxOf (L2.CX P w) P w K mg base ["drawing", "tie", "place"] "is_there" (defScope s_is_there) T.a_is_there cdv A outer s H E).xe := passes_of rfl
    exact (js_one (js_ret (je_and (je_cmp (op_inU (hu65 hr)) od_in (je_var 1) (je_ix (je_var 0) je_int) (by rfl)) (je_one (je_B (cr_all rfl) cd_all rfl T.n_all (by decide +kernel) (ja_cons (je_fz (jf_lc [("place", 2)] rfl nd (ji_seq (je_var 1)) (blkOk_by (N := ["drawing", "tie", "place"]) (sc := defScope s_is_there) (own := [("place", 2)]) (by decide +kernel)) (fun _ _ _ _ _ => (jgo_name 2 nd)) (fun _ _ _ _ _ => jts_nil) (fun _ _ _ _ _ => (je_call (ok_is_whole T) (hr.mono (by decide)) rfl T.g_is_whole T.F_is_whole.kp T.b_is_whole takes0 (ja_cons (je_var 2) ja_nil))))) ja_nil))))))
theorem ok_without (T : Top P w K mg base) : FnOkG P w K mg base (L2.CX P w) 3 T.a_without T.fd_without ["drawing", "tie"] (spF K T.cA 2 m_without) :=
  fn_ok T.F_without sc_without fun cdv A outer s H E hr => by
    have nd := sc_without.nd
    have tk : Takes (cxOf (L2.CX P w) P w K mg base ["drawing", "tie", "at", "n", "ties", "rings", "ways", "crossings", "new_rings", "place", "other", "one"] "without" (defScope s_without) T.a_without cdv A outer s H E) (WF E) := takes_of rfl rfl rfl rfl
    have hp : PassesOwn (model P w) (cxOf (L2.CX P w) P w K mg base ["drawing", "tie", "at", "n", "ties", "rings", "ways", "crossings", "new_rings", "place", "other", "one"] "without" (defScope s_without) T.a_without cdv A outer s H E).A (cxOf (L2.CX P w) P w K mg base ["drawing", "tie", "at", "n", "ties", "rings", "ways", "crossings", "new_rings", "place", "other", "one"] "without" (defScope s_without) T.a_without cdv A outer s H E).env (cxOf (L2.CX P w) P w K mg base ["drawing", "tie", "at", "n", "ties", "rings", "ways", "crossings", "new_rings", "place", "other", "one"] "without" (defScope s_without) T.a_without cdv A outer s H E).xe := passes_of rfl
    exact (js_cons (js_if (jt_not (jt_val (je_call (ok_is_there T) (hr.mono (by decide)) rfl T.g_is_there T.F_is_there.kp T.b_is_there tk (ja_cons (je_var 0) (ja_cons (je_var 1) ja_nil))))) (js_one (js_raise 3 rfl tk T.q_NoTie rfl)) js_nil)
      (js_cons js_bad
      (js_cons js_bad
      (js_cons js_bad
      (js_cons js_bad
      (js_one js_bad))))))
theorem ok_is_drawing (T : Top P w K mg base) : FnOkG P w K mg base (L2.CX P w) 1 T.a_is_drawing T.fd_is_drawing ["thing"] (spF K T.cA 1 m_is_drawing) :=
  fn_ok T.F_is_drawing sc_is_drawing fun cdv A outer s H E hr => by
    have nd := sc_is_drawing.nd
    have tk : Takes (cxOf (L2.CX P w) P w K mg base ["thing", "n", "ties", "rings", "ways", "crossings", "one"] "is_drawing" (defScope s_is_drawing) T.a_is_drawing cdv A outer s H E) (WF E) := takes_of rfl rfl rfl rfl
    have hp : PassesOwn (model P w) (cxOf (L2.CX P w) P w K mg base ["thing", "n", "ties", "rings", "ways", "crossings", "one"] "is_drawing" (defScope s_is_drawing) T.a_is_drawing cdv A outer s H E).A (cxOf (L2.CX P w) P w K mg base ["thing", "n", "ties", "rings", "ways", "crossings", "one"] "is_drawing" (defScope s_is_drawing) T.a_is_drawing cdv A outer s H E).env (cxOf (L2.CX P w) P w K mg base ["thing", "n", "ties", "rings", "ways", "crossings", "one"] "is_drawing" (defScope s_is_drawing) T.a_is_drawing cdv A outer s H E).xe := passes_of rfl
    exact (js_cons (js_if (PW.pt (jw_or (jt_not (jt_val (je_B call_isi cd_isi rfl T.n_isinstance (by decide +kernel) (ja_cons (je_var 0) (ja_cons (je_ty rfl T.n_tuple (by decide +kernel)) ja_nil))))) (jw_or1 (jt_cmp (op_neD hr.units) od_ne (je_B call_len_seq cd_len rfl T.n_len (by decide +kernel) (ja_cons (je_var 0) ja_nil)) je_int (nomark _))))) (js_one (js_ret je_bl)) js_nil)
      (js_cons js_bad
      (js_cons js_bad
      (js_cons js_bad
      (js_one js_bad)))))
theorem ok_plain (T : Top P w K mg base) : FnOkG P w K mg base (L2.CX P w) 2 T.a_plain T.fd_plain ["thing"] (spF K T.cA 1 m_plain) :=
  fn_ok T.F_plain sc_plain fun cdv A outer s H E hr => by
    have nd := sc_plain.nd
    have tk : Takes (cxOf (L2.CX P w) P w K mg base ["thing"] "plain" (defScope s_plain) T.a_plain cdv A outer s H E) (WF E) := takes_of rfl rfl rfl rfl
    have hp : PassesOwn (model P w) (cxOf (L2.CX P w) P w K mg base ["thing"] "plain" (defScope s_plain) T.a_plain cdv A outer s H E).A (cxOf (L2.CX P w) P w K mg base ["thing"] "plain" (defScope s_plain) T.a_plain cdv A outer s H E).env (cxOf (L2.CX P w) P w K mg base ["thing"] "plain" (defScope s_plain) T.a_plain cdv A outer s H E).xe := passes_of rfl
    exact (js_cons (js_if (jt_not (jt_val (je_call (ok_is_drawing T) (hr.mono (by decide)) rfl T.g_is_drawing T.F_is_drawing.kp T.b_is_drawing tk (ja_cons (je_var 0) ja_nil)))) (js_one (js_raise 4 rfl tk T.q_NoDrawing rfl)) js_nil)
      (js_one js_bad))
theorem ok_from_least (T : Top P w K mg base) : FnOkG P w K mg base (L2.CX P w) 1 T.a_from_least T.fd_from_least ["ring"] (spF K T.cA 1 m_from_least) :=
  fn_ok T.F_from_least sc_from_least fun cdv A outer s H E hr => by
    have nd := sc_from_least.nd
    have tk : Takes (cxOf (L2.CX P w) P w K mg base ["ring", "at"] "from_least" (defScope s_from_least) T.a_from_least cdv A outer s H E) (WF E) := takes_of rfl rfl rfl rfl
    have hp : PassesOwn (model P w) (cxOf (L2.CX P w) P w K mg base ["ring", "at"] "from_least" (defScope s_from_least) T.a_from_least cdv A outer s H E).A (cxOf (L2.CX P w) P w K mg base ["ring", "at"] "from_least" (defScope s_from_least) T.a_from_least cdv A outer s H E).env (cxOf (L2.CX P w) P w K mg base ["ring", "at"] "from_least" (defScope s_from_least) T.a_from_least cdv A outer s H E).xe := passes_of rfl
    exact (js_cons (js_if (jt_cmp (op_eqD hr.units) od_eq (je_var 0) (je_tup ja_nil) (nomark _)) (js_one (js_ret (je_tup ja_nil))) js_nil)
      (js_cons (js_set 1 nd (je_index (hu65 hr) (je_var 0) (ja_cons (je_B (cr_mm (mx := false) rfl hr.units) cd_mm rfl T.n_min (by decide +kernel) (ja_cons (je_var 0) ja_nil)) ja_nil)))
      (js_one (js_ret (je_op op_add3 od_add (je_sl (je_var 0) (jo_some (je_var 1)) jo_none) (je_sl (je_var 0) jo_none (jo_some (je_var 1))))))))
theorem ok_plained (T : Top P w K mg base) : FnOkG P w K mg base (L2.CX P w) 2 T.a_plained T.fd_plained ["drawing"] (spF K T.cA 1 m_plained) :=
  fn_ok T.F_plained sc_plained fun cdv A outer s H E hr => by
    have nd := sc_plained.nd
    have tk : Takes (cxOf (L2.CX P w) P w K mg base ["drawing", "n", "ties", "rings", "ways", "crossings", "numbers", "way", "number", "told", "crossing", "new_ways", "ring"] "plained" (defScope s_plained) T.a_plained cdv A outer s H E) (WF E) := takes_of rfl rfl rfl rfl
    have hp : PassesOwn (model P w) (cxOf (L2.CX P w) P w K mg base ["drawing", "n", "ties", "rings", "ways", "crossings", "numbers", "way", "number", "told", "crossing", "new_ways", "ring"] "plained" (defScope s_plained) T.a_plained cdv A outer s H E).A (cxOf (L2.CX P w) P w K mg base ["drawing", "n", "ties", "rings", "ways", "crossings", "numbers", "way", "number", "told", "crossing", "new_ways", "ring"] "plained" (defScope s_plained) T.a_plained cdv A outer s H E).env (cxOf (L2.CX P w) P w K mg base ["drawing", "n", "ties", "rings", "ways", "crossings", "numbers", "way", "number", "told", "crossing", "new_ways", "ring"] "plained" (defScope s_plained) T.a_plained cdv A outer s H E).xe := passes_of rfl
    exact (js_cons (js_asg (je_var 0) (jg_tup rfl (jgs_cons (jg_name 1 nd) (jgs_cons (jg_name 2 nd) (jgs_cons (jg_name 3 nd) (jgs_cons (jg_name 4 nd) (jgs_cons (jg_name 5 nd) jgs_nil)))))))
      (js_cons (js_set 6 nd je_i0)
      (js_cons (js_for [7, 8] hp rfl (ji_seq (je_var 4)) (jg_name 7 nd)
      (js_one (js_for [8] hp rfl (ji_seq (je_var 7)) (jg_name 8 nd)
      (js_one (js_if (jt_cmp (op_ninI hr.units) od_inI (je_var 8) (je_var 6) (by rfl)) (js_one (js_sub (je_B cr_lenI cd_lenI rfl T.n_len (by decide +kernel) (ja_cons (je_var 6) ja_nil)) (je_var 6) (je_var 8) (set_di hr.units) sd_setI)) js_nil)))))
      (js_cons (js_set 9 nd (je_cel (jf_mulL (je_fz (jf_lst (ja_cons je_non ja_nil))) (je_B call_len_seq cd_len rfl T.n_len (by decide +kernel) (ja_cons (je_var 5) ja_nil)))))
      (js_cons (js_for [8, 10] hp rfl (ji_enum rfl T.n_enumerate (ja_cons (je_var 5) ja_nil)) (jg_tup rfl (jgs_cons (jg_name 8 nd) (jgs_cons (jg_name 10 nd) jgs_nil)))
      (js_one (js_sub (je_var 10) (je_var 9) (je_ixI hr.units (je_var 6) (je_var 8)) set_list sd_setL)))
      (js_cons (js_setLc 11 [("way", 7)] fz_read rfl nd (sw_true rfl rfl rfl (by decide +kernel)) (ji_seq (je_var 4)) (blkOk_by (N := ["drawing", "n", "ties", "rings", "ways", "crossings", "numbers", "way", "number", "told", "crossing", "new_ways", "ring"]) (sc := defScope s_plained) (own := [("way", 7)]) (by decide +kernel)) (fun _ _ _ _ _ => (jgo_name 7 nd)) (fun _ _ _ _ _ => jts_nil) (fun _ _ _ _ _ => (je_Ty call_tupleZ cd_tuple rfl T.n_tuple (by decide +kernel) (ja_cons (je_fz (jf_lc [("number", 8)] rfl nd (ji_seq (je_var 7)) (blkOk_by (own := [("number", 8)]) (by kernel_rfl)) (fun _ _ _ _ _ => (jgo_name 8 nd)) (fun _ _ _ _ _ => jts_nil) (fun _ _ _ _ _ => (je_ixI hr.units (je_var 6) (je_var 8))))) ja_nil))))
      (js_one (js_ret (je_tup (ja_cons (je_var 1) (ja_cons (je_var 2) (ja_cons (je_Ty call_tupleZ cd_tuple rfl T.n_tuple (by decide +kernel) (ja_cons (je_fz (jf_lc [("ring", 12)] rfl nd (ji_seq (je_var 3)) (blkOk_by (N := ["drawing", "n", "ties", "rings", "ways", "crossings", "numbers", "way", "number", "told", "crossing", "new_ways", "ring"]) (sc := defScope s_plained) (own := [("ring", 12)]) (by decide +kernel)) (fun _ _ _ _ _ => (jgo_name 12 nd)) (fun _ _ _ _ _ => jts_nil) (fun _ _ _ _ _ => (je_call (ok_from_least T) (hr.mono (by decide)) rfl T.g_from_least T.F_from_least.kp T.b_from_least takes0 (ja_cons (je_var 12) ja_nil))))) ja_nil)) (ja_cons (je_Ty call_tupleZ cd_tuple rfl T.n_tuple (by decide +kernel) (ja_cons (je_var 11) ja_nil)) (ja_cons (je_Ty call_tupleZ cd_tuple rfl T.n_tuple (by decide +kernel) (ja_cons (je_var 9) ja_nil)) ja_nil))))))))))))))
theorem ok_lenses_along (T : Top P w K mg base) : FnOkG P w K mg base (L2.CX P w) 1 T.a_lenses_along T.fd_lenses_along ["drawing", "one", "other"] (spF K T.cA 3 m_lenses_along) :=
  fn_ok T.F_lenses_along sc_lenses_along fun cdv A outer s H E hr => by
    have nd := sc_lenses_along.nd
    have tk : Takes (cxOf (L2.CX P w) P w K mg base ["drawing", "one", "other", "way", "here", "found", "nearest", "number", "first", "second"] "lenses_along" (defScope s_lenses_along) T.a_lenses_along cdv A outer s H E) (WF E) := takes_of rfl rfl rfl rfl
    have hp : PassesOwn (model P w) (cxOf (L2.CX P w) P w K mg base ["drawing", "one", "other", "way", "here", "found", "nearest", "number", "first", "second"] "lenses_along" (defScope s_lenses_along) T.a_lenses_along cdv A outer s H E).A (cxOf (L2.CX P w) P w K mg base ["drawing", "one", "other", "way", "here", "found", "nearest", "number", "first", "second"] "lenses_along" (defScope s_lenses_along) T.a_lenses_along cdv A outer s H E).env (cxOf (L2.CX P w) P w K mg base ["drawing", "one", "other", "way", "here", "found", "nearest", "number", "first", "second"] "lenses_along" (defScope s_lenses_along) T.a_lenses_along cdv A outer s H E).xe := passes_of rfl
    exact (js_cons js_bad
      (js_cons js_bad
      (js_cons js_bad
      (js_cons js_bad
      (js_one js_bad)))))
theorem ok_lenses (T : Top P w K mg base) : FnOkG P w K mg base (L2.CX P w) 3 T.a_lenses T.fd_lenses ["drawing"] (spF K T.cA 1 m_lenses) :=
  fn_ok T.F_lenses sc_lenses fun cdv A outer s H E hr => by
    have nd := sc_lenses.nd
    have tk : Takes (cxOf (L2.CX P w) P w K mg base ["drawing", "here", "found", "one", "other"] "lenses" (defScope s_lenses) T.a_lenses cdv A outer s H E) (WF E) := takes_of rfl rfl rfl rfl
    have hp : PassesOwn (model P w) (cxOf (L2.CX P w) P w K mg base ["drawing", "here", "found", "one", "other"] "lenses" (defScope s_lenses) T.a_lenses cdv A outer s H E).A (cxOf (L2.CX P w) P w K mg base ["drawing", "here", "found", "one", "other"] "lenses" (defScope s_lenses) T.a_lenses cdv A outer s H E).env (cxOf (L2.CX P w) P w K mg base ["drawing", "here", "found", "one", "other"] "lenses" (defScope s_lenses) T.a_lenses cdv A outer s H E).xe := passes_of rfl
    exact (js_cons (js_set 1 nd (je_call (ok_plained T) (hr.mono (by decide)) rfl T.g_plained T.F_plained.kp T.b_plained tk (ja_cons (je_var 0) ja_nil)))
      (js_cons (js_set 2 nd (je_cel (jf_lst ja_nil)))
      (js_cons (js_for [3, 4] hp rfl (ji_seq (je_ix (je_var 1) je_int)) (jg_name 3 nd)
      (js_one (js_for [4] hp rfl (ji_seq (je_ix (je_var 1) je_int)) (jg_name 4 nd)
      (js_one (js_if (jt_cmp (op_neD hr.units) od_ne (je_var 3) (je_var 4) (nomark _)) (js_one (js_expr (je_mt tyd_list md_ext (pe_bm PySem.F.plainAttrs_list PySem.F.slot_list_extend PySem.F.type_list_extend mt_ext2 (je_var 2) (ja_cons (je_call (ok_lenses_along T) (hr.mono (by decide)) rfl T.g_lenses_along T.F_lenses_along.kp T.b_lenses_along tk (ja_cons (je_var 1) (ja_cons (je_var 3) (ja_cons (je_var 4) ja_nil)))) ja_nil))))) js_nil)))))
      (js_one (js_ret (je_Ty call_tupleZ cd_tuple rfl T.n_tuple (by decide +kernel) (ja_cons (je_fz (jf_B (cr_sortD hr.units) cf_sorted rfl T.n_sorted (by decide +kernel) (ja_cons (je_var 2) ja_nil))) ja_nil)))))))
theorem ok_is_lens (T : Top P w K mg base) : FnOkG P w K mg base (L2.CX P w) 4 T.a_is_lens T.fd_is_lens ["drawing", "lens"] (spF K T.cA 2 m_is_lens) :=
  fn_ok T.F_is_lens sc_is_lens fun cdv A outer s H E hr => by
    have nd := sc_is_lens.nd
    have tk : Takes (cxOf (L2.CX P w) P w K mg base ["drawing", "lens", "one"] "is_lens" (defScope s_is_lens) T.a_is_lens cdv A outer s H E) (WF E) := takes_of rfl rfl rfl rfl
    have hp : PassesOwn (model P w) (cxOf (L2.CX P w) P w K mg base ["drawing", "lens", "one"] "is_lens" (defScope s_is_lens) T.a_is_lens cdv A outer s H E).A (cxOf (L2.CX P w) P w K mg base ["drawing", "lens", "one"] "is_lens" (defScope s_is_lens) T.a_is_lens cdv A outer s H E).env (cxOf (L2.CX P w) P w K mg base ["drawing", "lens", "one"] "is_lens" (defScope s_is_lens) T.a_is_lens cdv A outer s H E).xe := passes_of rfl
    exact (js_cons (js_if (jt_cmp (op_notInU (hu65 hr)) od_in (je_var 1) (je_call (ok_lenses T) (hr.mono (by decide)) rfl T.g_lenses T.F_lenses.kp T.b_lenses tk (ja_cons (je_var 0) ja_nil)) (by rfl)) (js_one (js_ret je_bl)) js_nil)
      (js_one js_bad))
theorem ok_loosened (T : Top P w K mg base) : FnOkG P w K mg base (L2.CX P w) 5 T.a_loosened T.fd_loosened ["drawing", "lens"] (spF K T.cA 2 m_loosened) :=
  fn_ok T.F_loosened sc_loosened fun cdv A outer s H E hr => by
    have nd := sc_loosened.nd
    have tk : Takes (cxOf (L2.CX P w) P w K mg base ["drawing", "lens", "here", "n", "ties", "rings", "ways", "crossings", "one", "other", "place", "new_rings", "mine", "theirs", "runs", "tie", "way"] "loosened" (defScope s_loosened) T.a_loosened cdv A outer s H E) (WF E) := takes_of rfl rfl rfl rfl
    have hp : PassesOwn (model P w) (cxOf (L2.CX P w) P w K mg base ["drawing", "lens", "here", "n", "ties", "rings", "ways", "crossings", "one", "other", "place", "new_rings", "mine", "theirs", "runs", "tie", "way"] "loosened" (defScope s_loosened) T.a_loosened cdv A outer s H E).A (cxOf (L2.CX P w) P w K mg base ["drawing", "lens", "here", "n", "ties", "rings", "ways", "crossings", "one", "other", "place", "new_rings", "mine", "theirs", "runs", "tie", "way"] "loosened" (defScope s_loosened) T.a_loosened cdv A outer s H E).env (cxOf (L2.CX P w) P w K mg base ["drawing", "lens", "here", "n", "ties", "rings", "ways", "crossings", "one", "other", "place", "new_rings", "mine", "theirs", "runs", "tie", "way"] "loosened" (defScope s_loosened) T.a_loosened cdv A outer s H E).xe := passes_of rfl
    exact (js_cons (js_if (jt_not (jt_val (je_call (ok_is_lens T) (hr.mono (by decide)) rfl T.g_is_lens T.F_is_lens.kp T.b_is_lens tk (ja_cons (je_var 0) (ja_cons (je_var 1) ja_nil))))) (js_one (js_raise 5 rfl tk T.q_NoLens rfl)) js_nil)
      (js_cons js_bad
      (js_cons js_bad
      (js_cons js_bad
      (js_cons js_bad
      (js_cons js_bad
      (js_cons js_bad
      (js_cons js_bad
      (js_cons js_bad
      (js_cons js_bad
      (js_cons js_bad
      (js_cons js_bad
      (js_cons js_bad
      (js_one js_bad))))))))))))))
theorem ok_looked_at_straight (T : Top P w K mg base) : FnOkG P w K mg base (L2.CX P w) 1 T.a_looked_at_straight T.fd_looked_at_straight ["n", "ties", "points"] (spF K T.cA 3 m_looked_at_straight) :=
  fn_ok T.F_looked_at_straight sc_looked_at_straight fun cdv A outer s H E hr => by
    have nd := sc_looked_at_straight.nd
    have tk : Takes (cxOf (L2.CX P w) P w K mg base ["n", "ties", "points", "i", "j", "place"] "looked_at" (defScope s_looked_at_straight) T.a_looked_at_straight cdv A outer s H E) (WF E) := takes_of rfl rfl rfl rfl
    have hp : PassesOwn (model P w) (cxOf (L2.CX P w) P w K mg base ["n", "ties", "points", "i", "j", "place"] "looked_at" (defScope s_looked_at_straight) T.a_looked_at_straight cdv A outer s H E).A (cxOf (L2.CX P w) P w K mg base ["n", "ties", "points", "i", "j", "place"] "looked_at" (defScope s_looked_at_straight) T.a_looked_at_straight cdv A outer s H E).env (cxOf (L2.CX P w) P w K mg base ["n", "ties", "points", "i", "j", "place"] "looked_at" (defScope s_looked_at_straight) T.a_looked_at_straight cdv A outer s H E).xe := passes_of rfl
    exact (js_cons (js_if (jt_cmp (op_neD hr.units) od_ne (je_B call_len_seq cd_len rfl T.n_len (by decide +kernel) (ja_cons (je_var 2) ja_nil)) (je_var 0) (nomark _)) (js_one (js_raise 6 rfl tk T.q_NoPoints rfl)) js_nil)
      (js_cons js_bad
      (js_one js_bad)))
theorem ok_straight (T : Top P w K mg base) : FnOkG P w K mg base (L2.CX P w) 2 T.a_straight T.fd_straight ["web", "points"] (spF K T.cA 2 m_straight) :=
  fn_ok T.F_straight sc_straight fun cdv A outer s H E hr => by
    have nd := sc_straight.nd
    have tk : Takes (cxOf (L2.CX P w) P w K mg base ["web", "points", "n", "ties", "crossings", "rows", "beside", "i", "j", "rings", "ways", "place", "tie", "number", "far"] "straight" (defScope s_straight) T.a_straight cdv A outer s H E) (WF E) := takes_of rfl rfl rfl rfl
    have hp : PassesOwn (model P w) (cxOf (L2.CX P w) P w K mg base ["web", "points", "n", "ties", "crossings", "rows", "beside", "i", "j", "rings", "ways", "place", "tie", "number", "far"] "straight" (defScope s_straight) T.a_straight cdv A outer s H E).A (cxOf (L2.CX P w) P w K mg base ["web", "points", "n", "ties", "crossings", "rows", "beside", "i", "j", "rings", "ways", "place", "tie", "number", "far"] "straight" (defScope s_straight) T.a_straight cdv A outer s H E).env (cxOf (L2.CX P w) P w K mg base ["web", "points", "n", "ties", "crossings", "rows", "beside", "i", "j", "rings", "ways", "place", "tie", "number", "far"] "straight" (defScope s_straight) T.a_straight cdv A outer s H E).xe := passes_of rfl
    exact (js_cons (js_asg (je_var 0) (jg_tup rfl (jgs_cons (jg_name 2 nd) (jgs_cons (jg_name 3 nd) jgs_nil))))
      (js_cons (js_expr (je_call (ok_looked_at_straight T) (hr.mono (by decide)) rfl T.g_looked_at_straight T.F_looked_at_straight.kp T.b_looked_at_straight tk (ja_cons (je_var 2) (ja_cons (je_var 3) (ja_cons (je_var 1) ja_nil)))))
      (js_cons js_bad
      (js_cons js_bad
      (js_cons js_bad
      (js_cons js_bad
      (js_cons js_bad
      (js_one js_bad))))))))
theorem ok_is_new (T : Top P w K mg base) : FnOkG P w K mg base (L2.CX P w) 2 T.a_is_new T.fd_is_new ["drawing", "tie"] (spF K T.cA 2 m_is_new) :=
  fn_ok T.F_is_new sc_is_new fun cdv A outer s H E hr => by
    have nd := sc_is_new.nd
    have tk : Takes (cxOf (L2.CX P w) P w K mg base ["drawing", "tie", "place"] "is_new" (defScope s_is_new) T.a_is_new cdv A outer s H E) (WF E) := takes_of rfl rfl rfl rfl
    have hp : PassesOwn (model P w) (cxOf (L2.CX P w) P w K mg base ["drawing", "tie", "place"] "is_new" (defScope s_is_new) T.a_is_new cdv A outer s H E).A (cxOf (L2.CX P w) P w K mg base ["drawing", "tie", "place"] "is_new" (defScope s_is_new) T.a_is_new cdv A outer s H E).env (cxOf (L2.CX P w) P w K mg base ["drawing", "tie", "place"] "is_new" (defScope s_is_new) T.a_is_new cdv A outer s H E).xe := passes_of rfl
    exact (js_cons (js_if (PW.pt (jw_or (jt_not (jt_val (je_B call_isi cd_isi rfl T.n_isinstance (by decide +kernel) (ja_cons (je_var 1) (ja_cons (je_ty rfl T.n_tuple (by decide +kernel)) ja_nil))))) (jw_or (jt_cmp (op_neD hr.units) od_ne (je_B call_len_seq cd_len rfl T.n_len (by decide +kernel) (ja_cons (je_var 1) ja_nil)) je_int (nomark _)) (jw_or1 (jt_not (jt_val (je_B (cr_all rfl) cd_all rfl T.n_all (by decide +kernel) (ja_cons (je_fz (jf_lc [("place", 2)] rfl nd (ji_seq (je_var 1)) (blkOk_by (N := ["drawing", "tie", "place"]) (sc := defScope s_is_new) (own := [("place", 2)]) (by decide +kernel)) (fun _ _ _ _ _ => (jgo_name 2 nd)) (fun _ _ _ _ _ => jts_nil) (fun _ _ _ _ _ => (je_call (ok_is_whole T) (hr.mono (by decide)) rfl T.g_is_whole T.F_is_whole.kp T.b_is_whole takes0 (ja_cons (je_var 2) ja_nil))))) ja_nil)))))))) (js_one (js_ret je_bl)) js_nil)
      (js_cons (js_if (jt_not (jt_chain3 op_le od_le (op_lt2 hr.units0) od_lt (op_lt2 hr.units0) od_lt je_int (je_ix (je_var 1) je_int) (je_ix (je_var 1) je_int) (je_ix (je_var 0) je_int))) (js_one (js_ret je_bl)) js_nil)
      (js_one (js_ret (je_and (je_cmp (op_notInU (hu65 hr)) od_in (je_var 1) (je_ix (je_var 0) je_int) (by rfl)) (je_one (je_cmp (op_lt2 hr.units0) od_lt (je_B call_len_seq cd_len rfl T.n_len (by decide +kernel) (ja_cons (je_ix (je_var 0) je_int) ja_nil)) (je_gint rfl T.c_MOST_TIES) (nomark _))))))))
theorem ok_is_begin (T : Top P w K mg base) : FnOkG P w K mg base (L2.CX P w) 1 T.a_is_begin T.fd_is_begin ["ring", "place"] (spF K T.cA 2 m_is_begin) :=
  fn_ok T.F_is_begin sc_is_begin fun cdv A outer s H E hr => by
    have nd := sc_is_begin.nd
    have tk : Takes (cxOf (L2.CX P w) P w K mg base ["ring", "place"] "is_begin" (defScope s_is_begin) T.a_is_begin cdv A outer s H E) (WF E) := takes_of rfl rfl rfl rfl
    have hp : PassesOwn (model P w) (cxOf (L2.CX P w) P w K mg base ["ring", "place"] "is_begin" (defScope s_is_begin) T.a_is_begin cdv A outer s H E).A (cxOf (L2.CX P w) P w K mg base ["ring", "place"] "is_begin" (defScope s_is_begin) T.a_is_begin cdv A outer s H E).env (cxOf (L2.CX P w) P w K mg base ["ring", "place"] "is_begin" (defScope s_is_begin) T.a_is_begin cdv A outer s H E).xe := passes_of rfl
    exact (js_cons (js_if (jt_cmp (op_eqD hr.units) od_eq (je_var 0) (je_tup ja_nil) (nomark _)) (js_one (js_ret (je_cmp op_isN od_isN (je_var 1) je_non (nomark _)))) js_nil)
      (js_one js_bad))
theorem ok_is_route (T : Top P w K mg base) : FnOkG P w K mg base (L2.CX P w) 2 T.a_is_route T.fd_is_route ["drawing", "tie", "route"] (spF K T.cA 3 m_is_route) :=
  fn_ok T.F_is_route sc_is_route fun cdv A outer s H E hr => by
    have nd := sc_is_route.nd
    have tk : Takes (cxOf (L2.CX P w) P w K mg base ["drawing", "tie", "route", "place", "begin"] "is_route" (defScope s_is_route) T.a_is_route cdv A outer s H E) (WF E) := takes_of rfl rfl rfl rfl
    have hp : PassesOwn (model P w) (cxOf (L2.CX P w) P w K mg base ["drawing", "tie", "route", "place", "begin"] "is_route" (defScope s_is_route) T.a_is_route cdv A outer s H E).A (cxOf (L2.CX P w) P w K mg base ["drawing", "tie", "route", "place", "begin"] "is_route" (defScope s_is_route) T.a_is_route cdv A outer s H E).env (cxOf (L2.CX P w) P w K mg base ["drawing", "tie", "route", "place", "begin"] "is_route" (defScope s_is_route) T.a_is_route cdv A outer s H E).xe := passes_of rfl
    exact (js_cons (js_if (PW.pt (jw_or (jt_not (jt_val (je_B call_isi cd_isi rfl T.n_isinstance (by decide +kernel) (ja_cons (je_var 2) (ja_cons (je_ty rfl T.n_tuple (by decide +kernel)) ja_nil))))) (jw_or1 (jt_cmp (op_neD hr.units) od_ne (je_B call_len_seq cd_len rfl T.n_len (by decide +kernel) (ja_cons (je_var 2) ja_nil)) je_int (nomark _))))) (js_one (js_ret je_bl)) js_nil)
      (js_cons (js_for [3, 4] hp rfl (ji_seq (je_tup (ja_cons (je_tup (ja_cons (je_ix (je_var 1) je_int) (ja_cons (je_ix (je_var 2) je_int) ja_nil))) (ja_cons (je_tup (ja_cons (je_ix (je_var 1) je_int) (ja_cons (je_ix (je_var 2) je_int) ja_nil))) ja_nil)))) (jg_tup rfl (jgs_cons (jg_name 3 nd) (jgs_cons (jg_name 4 nd) jgs_nil)))
      (js_one (js_if (jt_not (jt_val (je_call (ok_is_begin T) (hr.mono (by decide)) rfl T.g_is_begin T.F_is_begin.kp T.b_is_begin tk (ja_cons (je_ix (je_ix (je_var 0) je_int) (je_var 3)) (ja_cons (je_var 4) ja_nil))))) (js_one (js_ret je_bl)) js_nil)))
      (js_one js_bad)))
theorem ok_put (T : Top P w K mg base) : FnOkG P w K mg base (L2.CX P w) 3 T.a_put T.fd_put ["drawing", "tie", "route"] (spF K T.cA 3 m_put) :=
  fn_ok T.F_put sc_put fun cdv A outer s H E hr => by
    have nd := sc_put.nd
    have tk : Takes (cxOf (L2.CX P w) P w K mg base ["drawing", "tie", "route", "n", "ties", "rings", "ways", "crossings", "first", "at_piece", "more", "by_tie", "other", "way", "new_rings", "new_ties", "new_ways", "found"] "put" (defScope s_put) T.a_put cdv A outer s H E) (WF E) := takes_of rfl rfl rfl rfl
    have hp : PassesOwn (model P w) (cxOf (L2.CX P w) P w K mg base ["drawing", "tie", "route", "n", "ties", "rings", "ways", "crossings", "first", "at_piece", "more", "by_tie", "other", "way", "new_rings", "new_ties", "new_ways", "found"] "put" (defScope s_put) T.a_put cdv A outer s H E).A (cxOf (L2.CX P w) P w K mg base ["drawing", "tie", "route", "n", "ties", "rings", "ways", "crossings", "first", "at_piece", "more", "by_tie", "other", "way", "new_rings", "new_ties", "new_ways", "found"] "put" (defScope s_put) T.a_put cdv A outer s H E).env (cxOf (L2.CX P w) P w K mg base ["drawing", "tie", "route", "n", "ties", "rings", "ways", "crossings", "first", "at_piece", "more", "by_tie", "other", "way", "new_rings", "new_ties", "new_ways", "found"] "put" (defScope s_put) T.a_put cdv A outer s H E).xe := passes_of rfl
    exact (js_cons (js_if (jt_not (jt_val (je_call (ok_is_new T) (hr.mono (by decide)) rfl T.g_is_new T.F_is_new.kp T.b_is_new tk (ja_cons (je_var 0) (ja_cons (je_var 1) ja_nil))))) (js_one (js_raise 3 rfl tk T.q_NoTie rfl)) js_nil)
      (js_cons (js_if (jt_not (jt_val (je_call (ok_is_route T) (hr.mono (by decide)) rfl T.g_is_route T.F_is_route.kp T.b_is_route tk (ja_cons (je_var 0) (ja_cons (je_var 1) (ja_cons (je_var 2) ja_nil)))))) (js_one (js_raise 7 rfl tk T.q_NoRoute rfl)) js_nil)
      (js_cons js_bad
      (js_cons js_bad
      (js_cons js_bad
      (js_cons js_bad
      (js_cons js_bad
      (js_cons js_bad
      (js_cons js_bad
      (js_cons js_bad
      (js_cons js_bad
      (js_cons js_bad
      (js_cons js_bad
      (js_cons js_bad
      (js_one js_bad)))))))))))))))
theorem ok_number_read (T : Top P w K mg base) : FnOkG P w K mg base (L2.CX P w) 1 T.a_number_read T.fd_number_read ["word"] (spF K T.cA 1 m_number_read) :=
  fn_ok T.F_number_read sc_number_read fun cdv A outer s H E hr => by
    have nd := sc_number_read.nd
    have tk : Takes (cxOf (L2.CX P w) P w K mg base ["word", "sign"] "number_read" (defScope s_number_read) T.a_number_read cdv A outer s H E) (WF E) := takes_of rfl rfl rfl rfl
    have hp : PassesOwn (model P w) (cxOf (L2.CX P w) P w K mg base ["word", "sign"] "number_read" (defScope s_number_read) T.a_number_read cdv A outer s H E).A (cxOf (L2.CX P w) P w K mg base ["word", "sign"] "number_read" (defScope s_number_read) T.a_number_read cdv A outer s H E).env (cxOf (L2.CX P w) P w K mg base ["word", "sign"] "number_read" (defScope s_number_read) T.a_number_read cdv A outer s H E).xe := passes_of rfl
    exact (js_cons (js_if (PW.pt (jw_or (jt_cmp (op_eqD hr.units) od_eq (je_var 0) je_str (nomark _)) (jw_or jt_bad (jw_or1 jt_bad)))) (js_one (js_ret je_non)) js_nil)
      (js_cons js_bad
      (js_one js_bad)))
theorem ok_read (T : Top P w K mg base) : FnOkG P w K mg base (L2.CX P w) 2 T.a_read T.fd_read ["text"] (spF K T.cA 1 m_read) :=
  fn_ok T.F_read sc_read fun cdv A outer s H E hr => by
    have nd := sc_read.nd
    have tk : Takes (cxOf (L2.CX P w) P w K mg base ["text", "rows", "n", "reader", "row", "found"] "read" (defScope s_read) T.a_read cdv A outer s H E) (WF E) := takes_of rfl rfl rfl rfl
    have hp : PassesOwn (model P w) (cxOf (L2.CX P w) P w K mg base ["text", "rows", "n", "reader", "row", "found"] "read" (defScope s_read) T.a_read cdv A outer s H E).A (cxOf (L2.CX P w) P w K mg base ["text", "rows", "n", "reader", "row", "found"] "read" (defScope s_read) T.a_read cdv A outer s H E).env (cxOf (L2.CX P w) P w K mg base ["text", "rows", "n", "reader", "row", "found"] "read" (defScope s_read) T.a_read cdv A outer s H E).xe := passes_of rfl
    exact (js_cons (js_if (jt_not (jt_val (je_B call_isi cd_isi rfl T.n_isinstance (by decide +kernel) (ja_cons (je_var 0) (ja_cons (je_ty rfl T.n_str (by decide +kernel)) ja_nil))))) (js_one (js_raise 8 rfl tk T.q_NoText rfl)) js_nil)
      (js_cons (js_set 1 nd (je_split (je_var 0) je_str))
      (js_cons (js_set 2 nd (je_call (ok_number_read T) (hr.mono (by decide)) rfl T.g_number_read T.F_number_read.kp T.b_number_read tk (ja_cons (je_slT (je_ix (je_var 1) je_int) (jo_some je_int) jo_none) ja_nil)))
      (js_cons (js_if (PW.pt (jw_or (jt_cmp (op_neD hr.units) od_ne (je_slT (je_ix (je_var 1) je_int) jo_none (jo_some je_int)) je_str (nomark _)) (jw_or (jt_cmp op_isN od_isN (je_var 2) je_non (nomark _)) (jw_or1 jt_bad)))) (js_one (js_raise 8 rfl tk T.q_NoText rfl)) js_nil)
      (js_cons js_bad
      (js_cons js_bad
      (js_cons js_bad
      (js_cons js_bad
      (js_one js_bad)))))))))
theorem ok_law_bare (T : Top P w K mg base) : FnOkG P w K mg base (L2.CX P w) 1 T.a_law_bare T.fd_law_bare ["_law_n"] (spF K T.cA 1 m_law_bare) :=
  fn_ok T.F_law_bare sc_law_bare fun cdv A outer s H E hr => by
    have nd := sc_law_bare.nd
    have tk : Takes (cxOf (L2.CX P w) P w K mg base ["_law_n"] "_law_bare" (defScope s_law_bare) T.a_law_bare cdv A outer s H E) (WF E) := takes_of rfl rfl rfl rfl
    have hp : PassesOwn (model P w) (cxOf (L2.CX P w) P w K mg base ["_law_n"] "_law_bare" (defScope s_law_bare) T.a_law_bare cdv A outer s H E).A (cxOf (L2.CX P w) P w K mg base ["_law_n"] "_law_bare" (defScope s_law_bare) T.a_law_bare cdv A outer s H E).env (cxOf (L2.CX P w) P w K mg base ["_law_n"] "_law_bare" (defScope s_law_bare) T.a_law_bare cdv A outer s H E).xe := passes_of rfl
    exact (js_one (js_ret (je_tup (ja_cons (je_var 0) (ja_cons (je_tup ja_nil) (ja_cons (je_op op_mulT od_mulT (je_tup (ja_cons (je_tup ja_nil) ja_nil)) (je_var 0)) (ja_cons (je_tup ja_nil) (ja_cons (je_tup ja_nil) ja_nil))))))))
theorem ok_law_drawn (T : Top P w K mg base) : FnOkG P w K mg base (L2.CX P w) 6 T.a_law_drawn T.fd_law_drawn ["_law_way", "_law_n"] (spF K T.cA 2 m_law_drawn) :=
  fn_ok T.F_law_drawn sc_law_drawn fun cdv A outer s H E hr => by
    have nd := sc_law_drawn.nd
    have tk : Takes (cxOf (L2.CX P w) P w K mg base ["_law_way", "_law_n"] "_law_drawn" (defScope s_law_drawn) T.a_law_drawn cdv A outer s H E) (WF E) := takes_of rfl rfl rfl rfl
    have hp : PassesOwn (model P w) (cxOf (L2.CX P w) P w K mg base ["_law_way", "_law_n"] "_law_drawn" (defScope s_law_drawn) T.a_law_drawn cdv A outer s H E).A (cxOf (L2.CX P w) P w K mg base ["_law_way", "_law_n"] "_law_drawn" (defScope s_law_drawn) T.a_law_drawn cdv A outer s H E).env (cxOf (L2.CX P w) P w K mg base ["_law_way", "_law_n"] "_law_drawn" (defScope s_law_drawn) T.a_law_drawn cdv A outer s H E).xe := passes_of rfl
    exact (js_cons (js_if (jt_cmp (op_eqD hr.units) od_eq (je_var 0) je_int (nomark _)) (js_one (js_ret (je_call (ok_plain T) (hr.mono (by decide)) rfl T.g_plain T.F_plain.kp T.b_plain tk (ja_cons (je_sl (je_call (ok_law_bare T) (hr.mono (by decide)) rfl T.g_law_bare T.F_law_bare.kp T.b_law_bare tk (ja_cons (je_var 1) ja_nil)) jo_none (jo_some je_int)) ja_nil)))) js_nil)
      (js_cons (js_if (jt_cmp (op_eqD hr.units) od_eq (je_var 0) je_int (nomark _)) (js_one (js_ret (je_call (ok_loosened T) (hr.mono (by decide)) rfl T.g_loosened T.F_loosened.kp T.b_loosened tk (ja_cons (je_call (ok_law_bare T) (hr.mono (by decide)) rfl T.g_law_bare T.F_law_bare.kp T.b_law_bare tk (ja_cons (je_var 1) ja_nil)) (ja_cons (je_tup (ja_cons (je_tup (ja_cons je_int (ja_cons je_int ja_nil))) (ja_cons (je_tup (ja_cons je_int (ja_cons je_int ja_nil))) (ja_cons (je_un un_neg ud_neg je_int) (ja_cons je_int ja_nil))))) ja_nil))))) js_nil)
      (js_cons (js_if (jt_cmp (op_eqD hr.units) od_eq (je_var 0) je_int (nomark _)) (js_one (js_ret (je_call (ok_straight T) (hr.mono (by decide)) rfl T.g_straight T.F_straight.kp T.b_straight tk (ja_cons (je_call (ok_web T) (hr.mono (by decide)) rfl T.g_web T.F_web.kp T.b_web tk (ja_cons (je_var 1) (ja_cons (je_tup ja_nil) ja_nil))) (ja_cons (je_op op_mulT1 od_mulT1 (je_tup (ja_cons (je_tup (ja_cons je_int (ja_cons je_int ja_nil))) ja_nil)) (je_op op_sub od_sub (je_var 1) je_int)) ja_nil))))) js_nil)
      (js_cons (js_if (jt_cmp (op_eqD hr.units) od_eq (je_var 0) je_int (nomark _)) (js_one (js_ret (je_call (ok_put T) (hr.mono (by decide)) rfl T.g_put T.F_put.kp T.b_put tk (ja_cons (je_call (ok_law_bare T) (hr.mono (by decide)) rfl T.g_law_bare T.F_law_bare.kp T.b_law_bare tk (ja_cons (je_var 1) ja_nil)) (ja_cons (je_tup (ja_cons je_int (ja_cons je_int ja_nil))) (ja_cons (je_tup (ja_cons je_non (ja_cons (je_tup ja_nil) (ja_cons je_int ja_nil)))) ja_nil)))))) js_nil)
      (js_cons (js_if (jt_cmp (op_eqD hr.units) od_eq (je_var 0) je_int (nomark _)) (js_one (js_ret (je_call (ok_read T) (hr.mono (by decide)) rfl T.g_read T.F_read.kp T.b_read tk (ja_cons je_str ja_nil)))) js_nil)
      (js_one (js_ret (je_call (ok_without T) (hr.mono (by decide)) rfl T.g_without T.F_without.kp T.b_without tk (ja_cons (je_call (ok_law_bare T) (hr.mono (by decide)) rfl T.g_law_bare T.F_law_bare.kp T.b_law_bare tk (ja_cons (je_var 1) ja_nil)) (ja_cons (je_tup (ja_cons je_int (ja_cons je_int ja_nil))) ja_nil))))))))))
theorem okU_law_kinds (T : Top P w K mg base) : FnU P w K mg base (L2.CX P w) 1 T.a_law_kinds T.fd_law_kinds ["_law_e"] (spF K T.cA 1 m_law_kinds) :=
  fn_okU T.F_law_kinds sc_law_kinds fun cdv A outer s H E hr => by
    have nd := sc_law_kinds.nd
    have tk : Takes (cxU (L2.CX P w) P w K mg base ["_law_e", "_law_kinds_here"] "_law_kinds" (defScope s_law_kinds) T.a_law_kinds cdv A outer s H E) (WF E) := takes_of rfl rfl rfl rfl
    exact (js_cons (js_set 1 nd (je_fz (jf_lst (ja_cons (je_B call_isX (cd_isX T.isx) rfl T.n_isinstance (by decide +kernel) (ja_cons (je_var 0) (ja_cons (je_cls rfl T.q_NoDrawing) ja_nil))) (ja_cons (je_B call_isX (cd_isX T.isx) rfl T.n_isinstance (by decide +kernel) (ja_cons (je_var 0) (ja_cons (je_cls rfl T.q_NoLens) ja_nil))) (ja_cons (je_B call_isX (cd_isX T.isx) rfl T.n_isinstance (by decide +kernel) (ja_cons (je_var 0) (ja_cons (je_cls rfl T.q_NoOrder) ja_nil))) (ja_cons (je_B call_isX (cd_isX T.isx) rfl T.n_isinstance (by decide +kernel) (ja_cons (je_var 0) (ja_cons (je_cls rfl T.q_NoPoints) ja_nil))) ja_nil)))))))
      (js_cons (js_set 1 nd (je_op op_add3 od_add (je_var 1) (je_fz (jf_lst (ja_cons (je_B call_isX (cd_isX T.isx) rfl T.n_isinstance (by decide +kernel) (ja_cons (je_var 0) (ja_cons (je_cls rfl T.q_NoRoute) ja_nil))) (ja_cons (je_B call_isX (cd_isX T.isx) rfl T.n_isinstance (by decide +kernel) (ja_cons (je_var 0) (ja_cons (je_cls rfl T.q_NoText) ja_nil))) (ja_cons (je_B call_isX (cd_isX T.isx) rfl T.n_isinstance (by decide +kernel) (ja_cons (je_var 0) (ja_cons (je_cls rfl T.q_NoTie) ja_nil))) (ja_cons (je_B call_isX (cd_isX T.isx) rfl T.n_isinstance (by decide +kernel) (ja_cons (je_var 0) (ja_cons (je_cls rfl T.q_NoWeb) ja_nil))) ja_nil))))))))
      (js_cons (js_set 1 nd (je_op op_add3 od_add (je_var 1) (je_fz (jf_lst (ja_cons (je_B call_isX (cd_isX T.isx) rfl T.n_isinstance (by decide +kernel) (ja_cons (je_var 0) (ja_cons (je_cls rfl T.q_TooMany) ja_nil))) (ja_cons (je_not (je_B call_isX (cd_isX T.isx) rfl T.n_isinstance (by decide +kernel) (ja_cons (je_var 0) (ja_cons (je_ty rfl T.n_ValueError (by decide +kernel)) ja_nil)))) ja_nil))))))
      (js_one (js_ret (je_op op_add3 od_add (je_var 1) (je_fz (jf_lst (ja_cons (je_B call_isX (cd_isX T.isx) rfl T.n_isinstance (by decide +kernel) (ja_cons (je_var 0) (ja_cons (je_ty rfl T.n_LookupError (by decide +kernel)) ja_nil))) (ja_cons (je_B call_isX (cd_isX T.isx) rfl T.n_isinstance (by decide +kernel) (ja_cons (je_var 0) (ja_cons (je_ty rfl T.n_ArithmeticError (by decide +kernel)) ja_nil))) (ja_cons (je_B call_isX (cd_isX T.isx) rfl T.n_isinstance (by decide +kernel) (ja_cons (je_var 0) (ja_cons (je_ty rfl T.n_TypeError (by decide +kernel)) ja_nil))) ja_nil)))))))))))
theorem ok_law_right (T : Top P w K mg base) : FnOkG P w K mg base (L2.CX P w) 7 T.a_law_right T.fd_law_right ["_law_way", "_law_n"] (spF K T.cA 2 m_law_right) :=
  fn_ok T.F_law_right sc_law_right fun cdv A outer s H E hr => by
    have nd := sc_law_right.nd
    have tk : Takes (cxOf (L2.CX P w) P w K mg base ["_law_way", "_law_n", "_law_kinds_here", "_law_e", "_law_k"] "_law_right" (defScope s_law_right) T.a_law_right cdv A outer s H E) (WF E) := takes_of rfl rfl rfl rfl
    have hp : PassesOwn (model P w) (cxOf (L2.CX P w) P w K mg base ["_law_way", "_law_n", "_law_kinds_here", "_law_e", "_law_k"] "_law_right" (defScope s_law_right) T.a_law_right cdv A outer s H E).A (cxOf (L2.CX P w) P w K mg base ["_law_way", "_law_n", "_law_kinds_here", "_law_e", "_law_k"] "_law_right" (defScope s_law_right) T.a_law_right cdv A outer s H E).env (cxOf (L2.CX P w) P w K mg base ["_law_way", "_law_n", "_law_kinds_here", "_law_e", "_law_k"] "_law_right" (defScope s_law_right) T.a_law_right cdv A outer s H E).xe := passes_of rfl
    exact (js_cons (js_set 2 nd (je_fz (jf_lst ja_nil)))
      (js_cons (js_cl [3] (js_try rfl rfl nd rfl rfl (names_own rfl T.q_CrossError) tk T.hx_CrossError T.hn_CrossError (fun W pn xe tk hp => (js_one (js_if (jt_cmp (op_inU (hu65 hr)) od_in (je_var 0) (je_tup (ja_cons je_int (ja_cons je_int (ja_cons je_int ja_nil)))) (by rfl)) (js_one (js_expr (je_call (ok_law_other T) (hr.mono (by decide)) rfl T.g_law_other T.F_law_other.kp T.b_law_other tk (ja_cons (je_var 0) (ja_cons (je_var 1) ja_nil))))) (js_one (js_expr (je_call (ok_law_drawn T) (hr.mono (by decide)) rfl T.g_law_drawn T.F_law_drawn.kp T.b_law_drawn tk (ja_cons (je_var 0) (ja_cons (je_var 1) ja_nil)))))))) (fun a pn => (js_one (js_set 2 nd (je_callU (okU_law_kinds T) (roomU hr (by decide) _) rfl T.g_law_kinds T.F_law_kinds.kp T.b_law_kinds takes_no (ja_cons (je_var 3) ja_nil)))))))
      (js_one (js_ret (je_cmp (op_eqD hr.units) od_eq (je_fz (jf_lc [("_law_k", 4)] rfl nd (ji_range1 rfl T.n_range (ja_cons (je_B call_len_seq cd_len rfl T.n_len (by decide +kernel) (ja_cons (je_var 2) ja_nil)) ja_nil)) (blkOk_by (N := ["_law_way", "_law_n", "_law_kinds_here", "_law_e", "_law_k"]) (sc := defScope s_law_right) (own := [("_law_k", 4)]) (by decide +kernel)) (fun _ _ _ _ _ => (jgo_name 4 nd)) (fun _ _ _ _ _ => (jts_one (jt_val (je_ix (je_var 2) (je_var 4))))) (fun _ _ _ _ _ => (je_var 4)))) (je_fz (jf_lst (ja_cons (je_var 0) ja_nil))) (nomark _))))))
theorem ok_law (T : Top P w K mg base) : FnOkG P w K mg base (L2.CX P w) 8 T.a_law T.fd_law ["_law_script"] (spF K T.cA 1 m_law) :=
  fn_ok T.F_law sc_law fun cdv A outer s H E hr => by
    have nd := sc_law.nd
    have tk : Takes (cxOf (L2.CX P w) P w K mg base ["_law_script", "_law_cell", "_law_way"] "law" (defScope s_law) T.a_law cdv A outer s H E) (WF E) := takes_of rfl rfl rfl rfl
    have hp : PassesOwn (model P w) (cxOf (L2.CX P w) P w K mg base ["_law_script", "_law_cell", "_law_way"] "law" (defScope s_law) T.a_law cdv A outer s H E).A (cxOf (L2.CX P w) P w K mg base ["_law_script", "_law_cell", "_law_way"] "law" (defScope s_law) T.a_law cdv A outer s H E).env (cxOf (L2.CX P w) P w K mg base ["_law_script", "_law_cell", "_law_way"] "law" (defScope s_law) T.a_law cdv A outer s H E).xe := passes_of rfl
    exact (js_cons (js_for [1] hp rfl (ji_seq (je_sl (je_var 0) jo_none (jo_some je_int))) (jg_name 1 nd)
      (js_one (js_if (jt_not (jt_val (je_call (ok_law_right T) (hr.mono (by decide)) rfl T.g_law_right T.F_law_right.kp T.b_law_right tk (ja_cons (je_op op_mod od_mod (je_var 1) je_int) (ja_cons (je_op op_add3 od_add je_int (je_op op_mod od_mod (je_op op_fdivY od_fdiv (je_var 1) je_int) je_int)) ja_nil))))) (js_one (js_ret je_bl)) js_nil)))
      (js_one (js_ret (je_cmp (op_eqD hr.units) od_eq (je_fz (jf_lc [("_law_way", 2)] rfl nd (ji_range1 rfl T.n_range (ja_cons je_int ja_nil)) (blkOk_by (N := ["_law_script", "_law_cell", "_law_way"]) (sc := defScope s_law) (own := [("_law_way", 2)]) (by decide +kernel)) (fun _ _ _ _ _ => (jgo_name 2 nd)) (fun _ _ _ _ _ => (jts_one (jt_not (jt_val (je_call (ok_law_right T) (hr.mono (by decide)) rfl T.g_law_right T.F_law_right.kp T.b_law_right takes0 (ja_cons (je_var 2) (ja_cons je_int ja_nil))))))) (fun _ _ _ _ _ => (je_var 2)))) (je_fz (jf_lst ja_nil)) (nomark _)))))
end

noncomputable def F_looked_at_must (x_web : (Int × (List (Int × Int)))) : R Unit :=
  (R.bind (R.ok (decide ((6 : Int) < x_web.1))) fun b_1 => if b_1 = true then (.err 0) else
  (.ok ()))
theorem ff_looked_at_must : ∀ (x_web : (Int × (List (Int × Int)))) d0 S, vP (yP2 yI (yT (yP2 yI yI))) x_web d0 S → Out S (vP yN) (F_looked_at_must x_web) (m_looked_at_must [d0] S) := fun x_web d0 S h0 => by
  unfold m_looked_at_must
  refine fn_v (N := 1) (body := c_looked_at_must) (ss := [.v ((yP2 yI (yT (yP2 yI yI))) x_web)]) (.cons h0 .nil) (by first | exact Nat.le_refl _ | exact Nat.zero_le _) ?_
  unfold c_looked_at_must F_looked_at_must
  exact (xb_if (xt_tst (xe_e2t op_gtI (xe_ixct ixp_2_0 (xe_var (t := (yP2 yI (yT (yP2 yI yI)))) (a := x_web) 0 rfl)) (xe_c (t := yI) (6) rfl))) (xb_raise 0)
  xb_end)
noncomputable def F_must (x_web : (Int × (List (Int × Int)))) : R Int :=
  (R.bind (R.bind (F_looked_at_must x_web) fun _ => .ok ()) fun w_2 =>
  .bad)
theorem ff_must : ∀ (x_web : (Int × (List (Int × Int)))) d0 S, vP (yP2 yI (yT (yP2 yI yI))) x_web d0 S → Out S (vP yI) (F_must x_web) (m_must [d0] S) := fun x_web d0 S h0 => by
  unfold m_must
  refine fn_v (N := 11) (body := c_must) (ss := [.v ((yP2 yI (yT (yP2 yI yI))) x_web)]) (.cons h0 .nil) (by first | exact Nat.le_refl _ | exact Nat.zero_le _) ?_
  unfold c_must F_must
  exact (xb_seq (xn_expr (β := Unit) (xe_call1t ff_looked_at_must (xe_var (t := (yP2 yI (yT (yP2 yI yI)))) (a := x_web) 0 rfl))) fun w_2 =>
  xb_badA)
noncomputable def F_is_whole (x_thing : PD) : R Bool :=
  (R.bind (isiA "int" x_thing) fun b => if b = true then (R.bind (isiA "bool" x_thing) fun b => .ok (!b)) else .ok false)
theorem ff_is_whole : ∀ (x_thing : PD) d0 S, vP yA x_thing d0 S → Out S (vP yB) (F_is_whole x_thing) (m_is_whole [d0] S) := fun x_thing d0 S h0 => by
  unfold m_is_whole
  refine fn_v (N := 1) (body := c_is_whole) (ss := [.v (yA x_thing)]) (.cons h0 .nil) (by first | exact Nat.le_refl _ | exact Nat.zero_le _) ?_
  unfold c_is_whole F_is_whole
  exact (xb_ret (xe_and (xe_isiAt (xe_var (t := yA) (a := x_thing) 0 rfl)) (xe_not (xe_isiAt (xe_var (t := yA) (a := x_thing) 0 rfl)))))
noncomputable def F_is_order (x_thing : (List Int)) (x_many : Int) : R Bool :=
  (R.bind (R.bind (R.ok (!true)) fun b => if b = true then .ok true else (R.bind (R.bind (compB (fun _ => .ok true) (fun x_i_3 => F_is_whole (toA yI x_i_3)) x_thing) fun y0_4 => .ok (y0_4.all id)) fun b => .ok (!b))) fun b_6 => if b_6 = true then (R.ok false) else
  (R.bind (sortR leI x_thing) fun ya_5 => R.bind (lrR x_many) fun yb_5 => .ok (decide (ya_5 = yb_5))))
theorem ff_is_order : ∀ (x_thing : (List Int)) (x_many : Int) d0 d1 S, vP (yT yI) x_thing d0 S → vP yI x_many d1 S → Out S (vP yB) (F_is_order x_thing x_many) (m_is_order [d0, d1] S) := fun x_thing x_many d0 d1 S h0 h1 => by
  unfold m_is_order
  refine fn_v (N := 3) (body := c_is_order) (ss := [.v ((yT yI) x_thing), .v (yI x_many)]) (.cons h0 (.cons h1 .nil)) (by first | exact Nat.le_refl _ | exact Nat.zero_le _) ?_
  unfold c_is_order F_is_order
  exact (xb_push (xb_if (xt_or (xt_not (xt_tst (xe_isit (b := true) (fun a d S h => by cases h; exact ⟨_, rfl, rfl⟩) (xe_var (t := (yT yI)) (a := x_thing) 0 rfl)))) (xt_not (xt_tst (xe_B1 bf_all (XE.asL (xe_fz (xe_comp (XE.toP (xi_T (xe_var (t := (yT yI)) (a := x_thing) 0 rfl))) (xp_name 2) (fun _ => xe_yes) fun x_i_3 => (xe_call1t ff_is_whole (XE.conv (xe_var (t := yI) (a := x_i_3) 2 rfl) (toA yI) asA))))))))) (xb_skip (ends_ret _) (xb_ret (xe_c (t := yB) false rfl)))
  (xb_nil (xb_ret (xe_e2 op_eq' (xe_fz (xe_B1t bf_sorted (XE.asT (xe_var (t := (yT yI)) (a := x_thing) 0 rfl)))) (xe_fz (xe_lr1t  (xe_var (t := yI) (a := x_many) 1 rfl))))))))
noncomputable def F_upper_looked_at (x_web : (Int × Int × (List (Int × Int)))) (x_upper : (List Int)) : R Unit :=
  (R.bind (R.bind (F_is_order x_upper x_web.1) fun b => .ok (!b)) fun b_7 => if b_7 = true then (.err 1) else
  (.ok ()))
theorem ff_upper_looked_at : ∀ (x_web : (Int × Int × (List (Int × Int)))) (x_upper : (List Int)) d0 d1 S, vP (yP3 yI yI (yT (yP2 yI yI))) x_web d0 S → vP (yT yI) x_upper d1 S → Out S (vP yN) (F_upper_looked_at x_web x_upper) (m_upper_looked_at [d0, d1] S) := fun x_web x_upper d0 d1 S h0 h1 => by
  unfold m_upper_looked_at
  refine fn_v (N := 2) (body := c_upper_looked_at) (ss := [.v ((yP3 yI yI (yT (yP2 yI yI))) x_web), .v ((yT yI) x_upper)]) (.cons h0 (.cons h1 .nil)) (by first | exact Nat.le_refl _ | exact Nat.zero_le _) ?_
  unfold c_upper_looked_at F_upper_looked_at
  exact (xb_if (xt_not (xt_tst (xe_call2t ff_is_order (xe_var (t := (yT yI)) (a := x_upper) 1 rfl) (xe_ixct ixp_3_0 (xe_var (t := (yP3 yI yI (yT (yP2 yI yI)))) (a := x_web) 0 rfl))))) (xb_raise 1)
  xb_end)
noncomputable def F_both_looked_at (x_web : (Int × Int × (List (Int × Int)))) (x_upper : (List Int)) (x_lower : (List Int)) : R Unit :=
  (R.bind (R.bind (F_upper_looked_at x_web x_upper) fun _ => .ok ()) fun w_8 =>
  (R.bind (R.bind (F_is_order x_lower x_web.2.1) fun b => .ok (!b)) fun b_9 => if b_9 = true then (.err 1) else
  (.ok ())))
theorem ff_both_looked_at : ∀ (x_web : (Int × Int × (List (Int × Int)))) (x_upper : (List Int)) (x_lower : (List Int)) d0 d1 d2 S, vP (yP3 yI yI (yT (yP2 yI yI))) x_web d0 S → vP (yT yI) x_upper d1 S → vP (yT yI) x_lower d2 S → Out S (vP yN) (F_both_looked_at x_web x_upper x_lower) (m_both_looked_at [d0, d1, d2] S) := fun x_web x_upper x_lower d0 d1 d2 S h0 h1 h2 => by
  unfold m_both_looked_at
  refine fn_v (N := 3) (body := c_both_looked_at) (ss := [.v ((yP3 yI yI (yT (yP2 yI yI))) x_web), .v ((yT yI) x_upper), .v ((yT yI) x_lower)]) (.cons h0 (.cons h1 (.cons h2 .nil))) (by first | exact Nat.le_refl _ | exact Nat.zero_le _) ?_
  unfold c_both_looked_at F_both_looked_at
  exact (xb_seq (xn_expr (β := Unit) (xe_call2t ff_upper_looked_at (xe_var (t := (yP3 yI yI (yT (yP2 yI yI)))) (a := x_web) 0 rfl) (xe_var (t := (yT yI)) (a := x_upper) 1 rfl))) fun w_8 =>
  (xb_if (xt_not (xt_tst (xe_call2t ff_is_order (xe_var (t := (yT yI)) (a := x_lower) 2 rfl) (xe_ixct ixp_3_1 (xe_var (t := (yP3 yI yI (yT (yP2 yI yI)))) (a := x_web) 0 rfl))))) (xb_raise 1)
  xb_end))
noncomputable def F_crossed_rows (x_web : (Int × Int × (List (Int × Int)))) (x_upper : (List Int)) (x_lower : (List Int)) : R Int :=
  (R.bind (R.bind (F_both_looked_at x_web x_upper x_lower) fun _ => .ok ()) fun w_10 =>
  .bad)
theorem ff_crossed_rows : ∀ (x_web : (Int × Int × (List (Int × Int)))) (x_upper : (List Int)) (x_lower : (List Int)) d0 d1 d2 S, vP (yP3 yI yI (yT (yP2 yI yI))) x_web d0 S → vP (yT yI) x_upper d1 S → vP (yT yI) x_lower d2 S → Out S (vP yI) (F_crossed_rows x_web x_upper x_lower) (m_crossed_rows [d0, d1, d2] S) := fun x_web x_upper x_lower d0 d1 d2 S h0 h1 h2 => by
  unfold m_crossed_rows
  refine fn_v (N := 9) (body := c_crossed_rows) (ss := [.v ((yP3 yI yI (yT (yP2 yI yI))) x_web), .v ((yT yI) x_upper), .v ((yT yI) x_lower)]) (.cons h0 (.cons h1 (.cons h2 .nil))) (by first | exact Nat.le_refl _ | exact Nat.zero_le _) ?_
  unfold c_crossed_rows F_crossed_rows
  exact (xb_seq (xn_expr (β := Unit) (xe_call3t ff_both_looked_at (xe_var (t := (yP3 yI yI (yT (yP2 yI yI)))) (a := x_web) 0 rfl) (xe_var (t := (yT yI)) (a := x_upper) 1 rfl) (xe_var (t := (yT yI)) (a := x_lower) 2 rfl))) fun w_10 =>
  xb_badA)
noncomputable def F_tie_of (x_thing : (Int × Int)) (x_n : Int) : R (Int × Int) :=
  .bad
theorem ff_tie_of : ∀ (x_thing : (Int × Int)) (x_n : Int) d0 d1 S, vP (yP2 yI yI) x_thing d0 S → vP yI x_n d1 S → Out S (vP (yP2 yI yI)) (F_tie_of x_thing x_n) (m_tie_of [d0, d1] S) := fun x_thing x_n d0 d1 S h0 h1 => by
  unfold m_tie_of
  refine fn_v (N := 3) (body := c_tie_of) (ss := [.v ((yP2 yI yI) x_thing), .v (yI x_n)]) (.cons h0 (.cons h1 .nil)) (by first | exact Nat.le_refl _ | exact Nat.zero_le _) ?_
  unfold c_tie_of F_tie_of
  exact xb_badA
noncomputable def F_web (x_n : Int) (x_some : (List (Int × Int))) : R (Int × (List (Int × Int))) :=
  (R.bind (R.bind (R.bind (F_is_whole (toA yI x_n)) fun b => .ok (!b)) fun b => if b = true then .ok true else (R.ok ((decide (x_n < (1 : Int))) || (decide ((10 : Int) < x_n))))) fun b_16 => if b_16 = true then (.err 2) else
  (R.bind (R.ok (!true)) fun b_15 => if b_15 = true then (.err 2) else
  (R.bind (R.bind (compB (fun _ => .ok true) (fun x_i_12 => F_tie_of x_i_12 x_n) x_some) fun y0_13 => (sSR ((yL (yP2 yI yI)) y0_13))) fun x_ties_11 =>
  (R.bind (R.ok (decide ((18 : Int) < (x_ties_11.length : Int)))) fun b_14 => if b_14 = true then (.err 2) else
  (R.ok (x_n, x_ties_11))))))
theorem ff_web : ∀ (x_n : Int) (x_some : (List (Int × Int))) d0 d1 S, vP yI x_n d0 S → vP (yT (yP2 yI yI)) x_some d1 S → Out S (vP (yP2 yI (yT (yP2 yI yI)))) (F_web x_n x_some) (m_web [d0, d1] S) := fun x_n x_some d0 d1 S h0 h1 => by
  unfold m_web
  refine fn_v (N := 4) (body := c_web) (ss := [.v (yI x_n), .v ((yT (yP2 yI yI)) x_some)]) (.cons h0 (.cons h1 .nil)) (by first | exact Nat.le_refl _ | exact Nat.zero_le _) ?_
  unfold c_web F_web
  exact (xb_push (xb_if (xt_or (xt_not (xt_tst (xe_call1t ff_is_whole (XE.conv (xe_var (t := yI) (a := x_n) 0 rfl) (toA yI) asA)))) (xt_ort (xt_tst (xe_e2t op_ltI (xe_var (t := yI) (a := x_n) 0 rfl) (xe_c (t := yI) (1) rfl))) (xt_tst (xe_e2t op_gtI (xe_var (t := yI) (a := x_n) 0 rfl) (xe_c (t := yI) (10) rfl))))) (xb_skip (ends_rs 2) (xb_raise 2))
  (xb_nil (xb_push (xb_if (xt_not (xt_tst (xe_isit (b := true) (fun a d S h => by cases h; exact ⟨_, rfl, rfl⟩) (xe_var (t := (yT (yP2 yI yI))) (a := x_some) 1 rfl)))) (xb_skip (ends_rs 2) (xb_raise 2))
  (xb_nil (xb_seq (xn_asg 2 (xe_fz (xe_sS1 (xe_fz (xe_comp (XE.toP (xi_T (xe_var (t := (yT (yP2 yI yI))) (a := x_some) 1 rfl))) (xp_name 3) (fun _ => xe_yes) fun x_i_12 => (xe_call2t ff_tie_of (xe_var (t := (yP2 yI yI)) (a := x_i_12) 3 rfl) (xe_var (t := yI) (a := x_n) 0 rfl))))))) fun x_ties_11 =>
  (xb_push (xb_if (xt_tst (xe_e2t op_gtI (xe_B1t bf_len (XE.asL (xe_var (t := (yL (yP2 yI yI))) (a := x_ties_11) 2 rfl))) (xe_c (t := yI) (18) rfl))) (xb_skip (ends_rs 2) (xb_raise 2))
  (xb_nil (xb_ret (xe_P2t (xe_var (t := yI) (a := x_n) 0 rfl) (xe_B1t bf_tuple (XE.asL (xe_var (t := (yL (yP2 yI yI))) (a := x_ties_11) 2 rfl)))))))))))))))
noncomputable def F_is_tie (x_thing : PD) (x_p : PD) (x_q : PD) : R Bool :=
  (R.bind (R.bind (R.bind (isiA "tuple" x_thing) fun b => .ok (!b)) fun b => if b = true then .ok true else (R.bind (R.bind (lenA x_thing) fun ya_17 => R.bind (R.ok (2 : Int)) fun yb_17 => .ok (!decide (ya_17 = yb_17))) fun b => if b = true then .ok true else (R.bind (R.bind (R.bind (itemsA x_thing) fun l => compB (fun _ => .ok true) (fun x_i_18 => F_is_whole x_i_18) l) fun y0_19 => .ok (y0_19.all id)) fun b => .ok (!b)))) fun b_22 => if b_22 = true then (R.ok false) else
  (R.bind (R.bind (R.ok (0 : Int)) fun ya_20 => R.bind (R.bind (ixA x_thing (0 : Int)) fun p => intA p) fun yb_20 => if decide (ya_20 ≤ yb_20) = true then R.bind (intA x_p) fun yc_20 => .ok (decide (yb_20 < yc_20)) else .ok false) fun b => if b = true then (R.bind (R.ok (0 : Int)) fun ya_21 => R.bind (R.bind (ixA x_thing (1 : Int)) fun p => intA p) fun yb_21 => if decide (ya_21 ≤ yb_21) = true then R.bind (intA x_q) fun yc_21 => .ok (decide (yb_21 < yc_21)) else .ok false) else .ok false))
theorem ff_is_tie : ∀ (x_thing : PD) (x_p : PD) (x_q : PD) d0 d1 d2 S, vP yA x_thing d0 S → vP yA x_p d1 S → vP yA x_q d2 S → Out S (vP yB) (F_is_tie x_thing x_p x_q) (m_is_tie [d0, d1, d2] S) := fun x_thing x_p x_q d0 d1 d2 S h0 h1 h2 => by
  unfold m_is_tie
  refine fn_v (N := 4) (body := c_is_tie) (ss := [.v (yA x_thing), .v (yA x_p), .v (yA x_q)]) (.cons h0 (.cons h1 (.cons h2 .nil))) (by first | exact Nat.le_refl _ | exact Nat.zero_le _) ?_
  unfold c_is_tie F_is_tie
  exact (xb_push (xb_if (xt_or (xt_not (xt_tst (xe_isiAt (xe_var (t := yA) (a := x_thing) 0 rfl)))) (xt_or (xt_tst (xe_e2 op_neI (xe_B1t bf_lenA (xe_var (t := yA) (a := x_thing) 0 rfl)) (xe_c (t := yI) (2) rfl))) (xt_not (xt_tst (xe_B1 bf_all (XE.asL (xe_fz (xe_comp (XE.toP (xi_A (xe_var (t := yA) (a := x_thing) 0 rfl))) (xp_name 3) (fun _ => xe_yes) fun x_i_18 => (xe_call1t ff_is_whole (xe_var (t := yA) (a := x_i_18) 3 rfl)))))))))) (xb_skip (ends_ret _) (xb_ret (xe_c (t := yB) false rfl)))
  (xb_nil (xb_ret (xe_and (xe_chain2 op_leI op_ltI (xe_c (t := yI) (0) rfl) (XE.toI (xe_e2t op_ixA (xe_var (t := yA) (a := x_thing) 0 rfl) (xe_c (t := yI) (0) rfl))) (XE.toI (xe_var (t := yA) (a := x_p) 1 rfl))) (xe_chain2 op_leI op_ltI (xe_c (t := yI) (0) rfl) (XE.toI (xe_e2t op_ixA (xe_var (t := yA) (a := x_thing) 0 rfl) (xe_c (t := yI) (1) rfl))) (XE.toI (xe_var (t := yA) (a := x_q) 2 rfl))))))))
noncomputable def F_two (x_p : PD) (x_q : PD) (x_some : PD) : R (Int × Int × (List (Int × Int))) :=
  (R.bind (R.bind (R.ok [(x_p, x_q).1, (x_p, x_q).2]) fun l_29 => forL (fun (s_23 : Unit) (x_25 : PD) =>
  (R.bind (R.bind (R.bind (F_is_whole x_25) fun b => .ok (!b)) fun b => if b = true then .ok true else (R.bind (R.bind (intA x_25) fun u_26 => .ok (decide (u_26 < (1 : Int)))) fun b => if b = true then .ok true else (R.bind (intA x_25) fun u_27 => .ok (decide ((7 : Int) < u_27))))) fun b_28 => if b_28 = true then (.err 2) else
  (.ok (.go ())))) l_29 ()) fun r_30 => Lp.fin r_30 fun s_24 =>
  (R.bind (R.bind (R.bind (isiA "tuple" x_some) fun b => .ok (!b)) fun b => if b = true then .ok true else (R.bind (R.bind (R.bind (itemsA x_some) fun l => compB (fun _ => .ok true) (fun x_i_31 => F_is_tie x_i_31 x_p x_q) l) fun y0_32 => .ok (y0_32.all id)) fun b => .ok (!b))) fun b_36 => if b_36 = true then (.err 2) else
  (R.bind (sSR (yA x_some)) fun x_ties_33 =>
  (R.bind (R.ok (decide ((18 : Int) < (x_ties_33.length : Int)))) fun b_35 => if b_35 = true then (.err 2) else
  (R.bind (intA x_p) fun y0_34 => R.bind (intA x_q) fun y1_34 => R.bind (R.ok x_ties_33) fun y2_34 => .ok (y0_34, y1_34, y2_34))))))
theorem ff_two : ∀ (x_p : PD) (x_q : PD) (x_some : PD) d0 d1 d2 S, vP yA x_p d0 S → vP yA x_q d1 S → vP yA x_some d2 S → Out S (vP (yP3 yI yI (yT (yP2 yI yI)))) (F_two x_p x_q x_some) (m_two [d0, d1, d2] S) := fun x_p x_q x_some d0 d1 d2 S h0 h1 h2 => by
  unfold m_two
  refine fn_v (N := 6) (body := c_two) (ss := [.v (yA x_p), .v (yA x_q), .v (yA x_some)]) (.cons h0 (.cons h1 (.cons h2 .nil))) (by first | exact Nat.le_refl _ | exact Nat.zero_le _) ?_
  unfold c_two F_two
  exact (xb_seqL (xl_for (E := (fun s : Unit => ([.v (yA x_p), .v (yA x_q), .v (yA x_some), .u, .u, .u] : List Sl))) (E2 := (fun s : Unit => ([.v (yA x_p), .v (yA x_q), .v (yA x_some), .u, .u, .u] : List Sl))) () (xi_T (XE.conv (xe_P2t (xe_var (t := yA) (a := x_p) 0 rfl) (xe_var (t := yA) (a := x_q) 1 rfl)) (fun p => [p.1, p.2]) (fun p d S h => by cases h; rfl))) rfl (fun s_23 => (xp_name 3)) (fun s_23 x_25 =>
  (xl_if (xt_or (xt_not (xt_tst (xe_call1t ff_is_whole (xe_var (t := yA) (a := x_25) 3 rfl)))) (xt_or (xt_tst (xe_e2t (op_i2A op_ltI trivial) (xe_var (t := yA) (a := x_25) 3 rfl) (xe_c (t := yI) (1) rfl))) (xt_tst (xe_e2t (op_i2A op_gtI trivial) (xe_var (t := yA) (a := x_25) 3 rfl) (xe_c (t := yI) (7) rfl))))) (xl_raise 2)
  (xl_god () [3] rfl))) (fun _ => rfl)) fun s_24 =>
  (xb_push (xb_if (xt_or (xt_not (xt_tst (xe_isiAt (xe_var (t := yA) (a := x_some) 2 rfl)))) (xt_not (xt_tst (xe_B1 bf_all (XE.asL (xe_fz (xe_comp (XE.toP (xi_A (xe_var (t := yA) (a := x_some) 2 rfl))) (xp_name 5) (fun _ => xe_yes) fun x_i_31 => (xe_call3t ff_is_tie (xe_var (t := yA) (a := x_i_31) 5 rfl) (xe_var (t := yA) (a := x_p) 0 rfl) (xe_var (t := yA) (a := x_q) 1 rfl))))))))) (xb_skip (ends_rs 2) (xb_raise 2))
  (xb_nil (xb_seq (xn_asg 4 (xe_fz (xe_sS1t (xe_var (t := yA) (a := x_some) 2 rfl)))) fun x_ties_33 =>
  (xb_push (xb_if (xt_tst (xe_e2t op_gtI (xe_B1t bf_len (XE.asL (xe_var (t := (yL (yP2 yI yI))) (a := x_ties_33) 4 rfl))) (xe_c (t := yI) (18) rfl))) (xb_skip (ends_rs 2) (xb_raise 2))
  (xb_nil (xb_ret (xe_P3 (XE.toI (xe_var (t := yA) (a := x_p) 0 rfl)) (XE.toI (xe_var (t := yA) (a := x_q) 1 rfl)) (xe_B1t bf_tuple (XE.asL (xe_var (t := (yL (yP2 yI yI))) (a := x_ties_33) 4 rfl)))))))))))))
noncomputable def F_law_other (x_law_way : Int) (x_law_n : Int) : R PD :=
  (R.bind (R.ok (decide (x_law_way = (2 : Int)))) fun b_42 => if b_42 = true then (R.bind (R.bind (F_two (toA yI x_law_n) (toA yI x_law_n) (toA (yP1 (yP2 yI yI)) (((0 : Int), (1 : Int))))) fun y0_39 => R.bind (R.bind (lrR x_law_n) fun y0_37 => .ok y0_37) fun y1_39 => R.bind (R.bind (lrR (x_law_n - (1 : Int))) fun y0_38 => .ok y0_38) fun y2_39 => F_crossed_rows y0_39 y1_39 y2_39) fun p => .ok (toA yI p)) else
  (R.bind (R.ok (decide (x_law_way = (7 : Int)))) fun b_41 => if b_41 = true then (R.bind (F_web (0 : Int) ([] : List (Int × Int))) fun p => .ok (toA (yP2 yI (yT (yP2 yI yI))) p)) else
  (R.bind (R.bind (F_web (x_law_n + (5 : Int)) ([] : List (Int × Int))) fun y0_40 => F_must y0_40) fun p => .ok (toA yI p))))
theorem ff_law_other : ∀ (x_law_way : Int) (x_law_n : Int) d0 d1 S, vP yI x_law_way d0 S → vP yI x_law_n d1 S → Out S (vP yA) (F_law_other x_law_way x_law_n) (m_law_other [d0, d1] S) := fun x_law_way x_law_n d0 d1 S h0 h1 => by
  unfold m_law_other
  refine fn_v (N := 2) (body := c_law_other) (ss := [.v (yI x_law_way), .v (yI x_law_n)]) (.cons h0 (.cons h1 .nil)) (by first | exact Nat.le_refl _ | exact Nat.zero_le _) ?_
  unfold c_law_other F_law_other
  exact (xb_push (xb_if (xt_tst (xe_e2t op_eqI (xe_var (t := yI) (a := x_law_way) 0 rfl) (xe_c (t := yI) (2) rfl))) (xb_skip (ends_ret _) (xb_ret (XE.conv (xe_call3 ff_crossed_rows (xe_call3t ff_two (XE.conv (xe_var (t := yI) (a := x_law_n) 1 rfl) (toA yI) asA) (XE.conv (xe_var (t := yI) (a := x_law_n) 1 rfl) (toA yI) asA) (XE.conv (xe_P1t (xe_P2t (xe_c (t := yI) (0) rfl) (xe_c (t := yI) (1) rfl))) (toA (yP1 (yP2 yI yI))) asA)) (xe_B1 bf_tuple (XE.asL (xe_fz (xe_lr1t  (xe_var (t := yI) (a := x_law_n) 1 rfl))))) (xe_B1 bf_tuple (XE.asL (xe_fz (xe_lr1t  (xe_e2t op_sub' (xe_var (t := yI) (a := x_law_n) 1 rfl) (xe_c (t := yI) (1) rfl))))))) (toA yI) asA)))
  (xb_nil (xb_push (xb_if (xt_tst (xe_e2t op_eqI (xe_var (t := yI) (a := x_law_way) 0 rfl) (xe_c (t := yI) (7) rfl))) (xb_skip (ends_ret _) (xb_ret (XE.conv (xe_call2t ff_web (xe_c (t := yI) (0) rfl) (xe_T0 (t := (yP2 yI yI)))) (toA (yP2 yI (yT (yP2 yI yI)))) asA)))
  (xb_nil (xb_ret (XE.conv (xe_call1 ff_must (xe_call2t ff_web (xe_e2t op_add (xe_var (t := yI) (a := x_law_n) 1 rfl) (xe_c (t := yI) (5) rfl)) (xe_T0 (t := (yP2 yI yI))))) (toA yI) asA))))))))
noncomputable def F_is_there (x_drawing : (Int × (List (Int × Int)) × (List (List Int)) × (List (List Int)) × (List ((Int × Int) × (Int × Int) × Int)))) (x_tie : (Int × Int)) : R Bool :=
  (R.bind (R.ok (memB x_tie x_drawing.2.1)) fun b => if b = true then (R.bind (compB (fun _ => .ok true) (fun x_i_43 => F_is_whole (toA yI x_i_43)) [x_tie.1, x_tie.2]) fun y0_44 => .ok (y0_44.all id)) else .ok false)
theorem ff_is_there : ∀ (x_drawing : (Int × (List (Int × Int)) × (List (List Int)) × (List (List Int)) × (List ((Int × Int) × (Int × Int) × Int)))) (x_tie : (Int × Int)) d0 d1 S, vP (yP5 yI (yT (yP2 yI yI)) (yT (yT yI)) (yT (yT yI)) (yT (yP3 (yP2 yI yI) (yP2 yI yI) yI))) x_drawing d0 S → vP (yP2 yI yI) x_tie d1 S → Out S (vP yB) (F_is_there x_drawing x_tie) (m_is_there [d0, d1] S) := fun x_drawing x_tie d0 d1 S h0 h1 => by
  unfold m_is_there
  refine fn_v (N := 3) (body := c_is_there) (ss := [.v ((yP5 yI (yT (yP2 yI yI)) (yT (yT yI)) (yT (yT yI)) (yT (yP3 (yP2 yI yI) (yP2 yI yI) yI))) x_drawing), .v ((yP2 yI yI) x_tie)]) (.cons h0 (.cons h1 .nil)) (by first | exact Nat.le_refl _ | exact Nat.zero_le _) ?_
  unfold c_is_there F_is_there
  exact (xb_ret (xe_and (xe_e2t op_in' (xe_var (t := (yP2 yI yI)) (a := x_tie) 1 rfl) (XE.asT (xe_ixct ixp_5_1 (xe_var (t := (yP5 yI (yT (yP2 yI yI)) (yT (yT yI)) (yT (yT yI)) (yT (yP3 (yP2 yI yI) (yP2 yI yI) yI)))) (a := x_drawing) 0 rfl)))) (xe_B1 bf_all (XE.asL (xe_fz (xe_comp (XE.toP (xi_T (XE.conv (xe_var (t := (yP2 yI yI)) (a := x_tie) 1 rfl) (fun p => [p.1, p.2]) (fun p d S h => by cases h; rfl)))) (xp_name 2) (fun _ => xe_yes) fun x_i_43 => (xe_call1t ff_is_whole (XE.conv (xe_var (t := yI) (a := x_i_43) 2 rfl) (toA yI) asA))))))))
noncomputable def F_without (x_drawing : (Int × (List (Int × Int)) × (List (List Int)) × (List (List Int)) × (List ((Int × Int) × (Int × Int) × Int)))) (x_tie : (Int × Int)) : R (Int × (List (Int × Int)) × (List (List Int)) × (List (List Int)) × (List ((Int × Int) × (Int × Int) × Int))) :=
  (R.bind (R.bind (F_is_there x_drawing x_tie) fun b => .ok (!b)) fun b_45 => if b_45 = true then (.err 3) else
  .bad)
theorem ff_without : ∀ (x_drawing : (Int × (List (Int × Int)) × (List (List Int)) × (List (List Int)) × (List ((Int × Int) × (Int × Int) × Int)))) (x_tie : (Int × Int)) d0 d1 S, vP (yP5 yI (yT (yP2 yI yI)) (yT (yT yI)) (yT (yT yI)) (yT (yP3 (yP2 yI yI) (yP2 yI yI) yI))) x_drawing d0 S → vP (yP2 yI yI) x_tie d1 S → Out S (vP (yP5 yI (yT (yP2 yI yI)) (yT (yT yI)) (yT (yT yI)) (yT (yP3 (yP2 yI yI) (yP2 yI yI) yI)))) (F_without x_drawing x_tie) (m_without [d0, d1] S) := fun x_drawing x_tie d0 d1 S h0 h1 => by
  unfold m_without
  refine fn_v (N := 12) (body := c_without) (ss := [.v ((yP5 yI (yT (yP2 yI yI)) (yT (yT yI)) (yT (yT yI)) (yT (yP3 (yP2 yI yI) (yP2 yI yI) yI))) x_drawing), .v ((yP2 yI yI) x_tie)]) (.cons h0 (.cons h1 .nil)) (by first | exact Nat.le_refl _ | exact Nat.zero_le _) ?_
  unfold c_without F_without
  exact (xb_push (xb_if (xt_not (xt_tst (xe_call2t ff_is_there (xe_var (t := (yP5 yI (yT (yP2 yI yI)) (yT (yT yI)) (yT (yT yI)) (yT (yP3 (yP2 yI yI) (yP2 yI yI) yI)))) (a := x_drawing) 0 rfl) (xe_var (t := (yP2 yI yI)) (a := x_tie) 1 rfl)))) (xb_skip (ends_rs 3) (xb_raise 3))
  (xb_nil xb_badA)))
noncomputable def F_is_drawing (x_thing : (Int × (List (Int × Int)) × (List (List Int)) × (List (List Int)))) : R Bool :=
  (R.bind (R.ok ((!true) || (!decide ((4 : Int) = (5 : Int))))) fun b_46 => if b_46 = true then (R.ok false) else
  .bad)
theorem ff_is_drawing : ∀ (x_thing : (Int × (List (Int × Int)) × (List (List Int)) × (List (List Int)))) d0 S, vP (yP4 yI (yT (yP2 yI yI)) (yT (yT yI)) (yT (yT yI))) x_thing d0 S → Out S (vP yB) (F_is_drawing x_thing) (m_is_drawing [d0] S) := fun x_thing d0 S h0 => by
  unfold m_is_drawing
  refine fn_v (N := 7) (body := c_is_drawing) (ss := [.v ((yP4 yI (yT (yP2 yI yI)) (yT (yT yI)) (yT (yT yI))) x_thing)]) (.cons h0 .nil) (by first | exact Nat.le_refl _ | exact Nat.zero_le _) ?_
  unfold c_is_drawing F_is_drawing
  exact (xb_push (xb_if (xt_ort (xt_not (xt_tst (xe_isit (b := true) (fun a d S h => by cases h; exact ⟨_, rfl, rfl⟩) (xe_var (t := (yP4 yI (yT (yP2 yI yI)) (yT (yT yI)) (yT (yT yI)))) (a := x_thing) 0 rfl)))) (xt_tst (xe_e2t op_neI (xe_B1t (bf_lenP 4 (fun a => ⟨_, rfl, rfl⟩)) (xe_var (t := (yP4 yI (yT (yP2 yI yI)) (yT (yT yI)) (yT (yT yI)))) (a := x_thing) 0 rfl)) (xe_c (t := yI) (5) rfl)))) (xb_skip (ends_ret _) (xb_ret (xe_c (t := yB) false rfl)))
  (xb_nil xb_badA)))
noncomputable def F_plain (x_thing : (Int × (List (Int × Int)) × (List (List Int)) × (List (List Int)))) : R (Int × (List (Int × Int)) × (List (List Int)) × (List (List Int)) × (List ((Int × Int) × (Int × Int) × Int))) :=
  (R.bind (R.bind (F_is_drawing x_thing) fun b => .ok (!b)) fun b_47 => if b_47 = true then (.err 4) else
  .bad)
theorem ff_plain : ∀ (x_thing : (Int × (List (Int × Int)) × (List (List Int)) × (List (List Int)))) d0 S, vP (yP4 yI (yT (yP2 yI yI)) (yT (yT yI)) (yT (yT yI))) x_thing d0 S → Out S (vP (yP5 yI (yT (yP2 yI yI)) (yT (yT yI)) (yT (yT yI)) (yT (yP3 (yP2 yI yI) (yP2 yI yI) yI)))) (F_plain x_thing) (m_plain [d0] S) := fun x_thing d0 S h0 => by
  unfold m_plain
  refine fn_v (N := 1) (body := c_plain) (ss := [.v ((yP4 yI (yT (yP2 yI yI)) (yT (yT yI)) (yT (yT yI))) x_thing)]) (.cons h0 .nil) (by first | exact Nat.le_refl _ | exact Nat.zero_le _) ?_
  unfold c_plain F_plain
  exact (xb_push (xb_if (xt_not (xt_tst (xe_call1t ff_is_drawing (xe_var (t := (yP4 yI (yT (yP2 yI yI)) (yT (yT yI)) (yT (yT yI)))) (a := x_thing) 0 rfl)))) (xb_skip (ends_rs 4) (xb_raise 4))
  (xb_nil xb_badA)))
noncomputable def F_from_least (x_ring : (List Int)) : R (List Int) :=
  (R.bind (R.ok (decide (x_ring = ([] : List Int)))) fun b_50 => if b_50 = true then (R.ok ([] : List Int)) else
  (R.bind (R.bind (R.ok x_ring) fun l_49 => R.bind (minR x_ring) fun a_49 => indexR l_49 a_49) fun x_at_48 =>
  catR (cutL x_ring (some x_at_48) none) (cutL x_ring none (some x_at_48))))
theorem ff_from_least : ∀ (x_ring : (List Int)) d0 S, vP (yT yI) x_ring d0 S → Out S (vP (yT yI)) (F_from_least x_ring) (m_from_least [d0] S) := fun x_ring d0 S h0 => by
  unfold m_from_least
  refine fn_v (N := 2) (body := c_from_least) (ss := [.v ((yT yI) x_ring)]) (.cons h0 .nil) (by first | exact Nat.le_refl _ | exact Nat.zero_le _) ?_
  unfold c_from_least F_from_least
  exact (xb_push (xb_if (xt_tst (xe_e2t op_eq' (xe_var (t := (yT yI)) (a := x_ring) 0 rfl) (xe_T0 (t := yI)))) (xb_skip (ends_ret _) (xb_ret (xe_T0 (t := yI))))
  (xb_nil (xb_seq (xn_asg 1 (xe_index (XE.asT (xe_var (t := (yT yI)) (a := x_ring) 0 rfl)) (xe_B1t bf_min (XE.asT (xe_var (t := (yT yI)) (a := x_ring) 0 rfl))))) fun x_at_48 =>
  (xb_ret (xe_e2t op_catT (xe_slT (xe_var (t := (yT yI)) (a := x_ring) 0 rfl) (xo_some (xe_var (t := yI) (a := x_at_48) 1 rfl)) xo_none) (xe_slT (xe_var (t := (yT yI)) (a := x_ring) 0 rfl) xo_none (xo_some (xe_var (t := yI) (a := x_at_48) 1 rfl)))))))))
noncomputable def F_plained (x_drawing : (Int × (List (Int × Int)) × (List (List Int)) × (List (List Int)) × (List ((Int × Int) × (Int × Int) × Int)))) : R (Int × (List (Int × Int)) × (List (List Int)) × (List (List Int)) × (List ((Int × Int) × (Int × Int) × Int))) :=
  (R.bind (R.ok x_drawing) fun p_51 =>
  (R.bind (R.ok ([] : (List (Int × Int)))) fun x_numbers_52 =>
  (R.bind (R.bind (R.ok p_51.2.2.2.1) fun l_64 => forR (fun (s_53 : ((List (Int × Int)))) (x_55 : (List Int)) =>
  (R.bind (R.bind (R.ok x_55) fun l_63 => forR (fun (s_56 : ((List (Int × Int)))) (x_58 : Int) =>
  (R.bind (R.bind (R.ok (!(atKV s_56 x_58).isSome)) fun b_61 => if b_61 = true then (R.bind (setKVR s_56 x_58 (s_56.length : Int)) fun x_numbers_60 => .ok x_numbers_60) else (.ok s_56)) fun s_62 => .ok s_62)) l_63 s_53) fun s_57 => .ok s_57)) l_64 x_numbers_52) fun s_54 =>
  (R.bind (mulLR [(none : Option ((Int × Int) × (Int × Int) × Int))] (p_51.2.2.2.2.length : Int)) fun x_told_65 =>
  (R.bind (R.bind (R.ok (enumL 0 p_51.2.2.2.2)) fun l_73 => forR (fun (s_66 : ((List (Option ((Int × Int) × (Int × Int) × Int))))) (x_68 : (Int × ((Int × Int) × (Int × Int) × Int))) =>
  (R.bind (R.bind (R.ok (some x_68.2)) fun a_71 => R.bind (getKVR s_54 x_68.1) fun k_72 => setR s_66 k_72 a_71) fun x_told_69 => .ok x_told_69)) l_73 x_told_65) fun s_67 =>
  (R.bind (compB (fun _ => .ok true) (fun x_i_75 => (R.bind (compB (fun _ => .ok true) (fun x_i_76 => (getKVR s_54 x_i_76)) x_i_75) fun y0_78 => .ok y0_78)) p_51.2.2.2.1) fun x_new_ways_74 =>
  (R.bind (R.ok p_51.1) fun y0_81 => R.bind (R.ok p_51.2.1) fun y1_81 => R.bind (R.bind (compB (fun _ => .ok true) (fun x_i_79 => F_from_least x_i_79) p_51.2.2.1) fun y0_80 => .ok y0_80) fun y2_81 => R.bind (R.ok x_new_ways_74) fun y3_81 => R.bind (unOT s_67) fun y4_81 => .ok (y0_81, y1_81, y2_81, y3_81, y4_81))))))))
theorem ff_plained : ∀ (x_drawing : (Int × (List (Int × Int)) × (List (List Int)) × (List (List Int)) × (List ((Int × Int) × (Int × Int) × Int)))) d0 S, vP (yP5 yI (yT (yP2 yI yI)) (yT (yT yI)) (yT (yT yI)) (yT (yP3 (yP2 yI yI) (yP2 yI yI) yI))) x_drawing d0 S → Out S (vP (yP5 yI (yT (yP2 yI yI)) (yT (yT yI)) (yT (yT yI)) (yT (yP3 (yP2 yI yI) (yP2 yI yI) yI)))) (F_plained x_drawing) (m_plained [d0] S) := fun x_drawing d0 S h0 => by
  unfold m_plained
  refine fn_v (N := 13) (body := c_plained) (ss := [.v ((yP5 yI (yT (yP2 yI yI)) (yT (yT yI)) (yT (yT yI)) (yT (yP3 (yP2 yI yI) (yP2 yI yI) yI))) x_drawing)]) (.cons h0 .nil) (by first | exact Nat.le_refl _ | exact Nat.zero_le _) ?_
  unfold c_plained F_plained
  exact (xb_seq (xn_asgP (xe_var (t := (yP5 yI (yT (yP2 yI yI)) (yT (yT yI)) (yT (yT yI)) (yT (yP3 (yP2 yI yI) (yP2 yI yI) yI)))) (a := x_drawing) 0 rfl) (xp_t5 (xp_name 1) (fun _ => (xp_name 2)) (fun _ _ => (xp_name 3)) (fun _ _ _ => (xp_name 4)) (fun _ _ _ _ => (xp_name 5)))) fun p_51 =>
  (xb_seq (xn_newI yI 6) fun x_numbers_52 =>
  (xb_seq (xn_for (E := (fun s : ((List (Int × Int))) => ([.v ((yP5 yI (yT (yP2 yI yI)) (yT (yT yI)) (yT (yT yI)) (yT (yP3 (yP2 yI yI) (yP2 yI yI) yI))) x_drawing), .v (yI p_51.1), .v ((yT (yP2 yI yI)) p_51.2.1), .v ((yT (yT yI)) p_51.2.2.1), .v ((yT (yT yI)) p_51.2.2.2.1), .v ((yT (yP3 (yP2 yI yI) (yP2 yI yI) yI)) p_51.2.2.2.2), .f none (fI yI s), .u, .u, .u, .u, .u, .u] : List Sl))) (E2 := (fun s : ((List (Int × Int))) => ([.v ((yP5 yI (yT (yP2 yI yI)) (yT (yT yI)) (yT (yT yI)) (yT (yP3 (yP2 yI yI) (yP2 yI yI) yI))) x_drawing), .v (yI p_51.1), .v ((yT (yP2 yI yI)) p_51.2.1), .v ((yT (yT yI)) p_51.2.2.1), .v ((yT (yT yI)) p_51.2.2.2.1), .v ((yT (yP3 (yP2 yI yI) (yP2 yI yI) yI)) p_51.2.2.2.2), .f none (fI yI s), .u, .u, .u, .u, .u, .u] : List Sl))) x_numbers_52 (xi_T (xe_var (t := (yT (yT yI))) (a := p_51.2.2.2.1) 4 rfl)) rfl (fun s_53 => (xp_name 7)) (fun s_53 x_55 =>
  (xn_end (fun s_57 => s_57) [7] (xn_for (E := (fun s : ((List (Int × Int))) => ([.v ((yP5 yI (yT (yP2 yI yI)) (yT (yT yI)) (yT (yT yI)) (yT (yP3 (yP2 yI yI) (yP2 yI yI) yI))) x_drawing), .v (yI p_51.1), .v ((yT (yP2 yI yI)) p_51.2.1), .v ((yT (yT yI)) p_51.2.2.1), .v ((yT (yT yI)) p_51.2.2.2.1), .v ((yT (yP3 (yP2 yI yI) (yP2 yI yI) yI)) p_51.2.2.2.2), .f none (fI yI s), .v ((yT yI) x_55), .u, .u, .u, .u, .u] : List Sl))) (E2 := (fun s : ((List (Int × Int))) => ([.v ((yP5 yI (yT (yP2 yI yI)) (yT (yT yI)) (yT (yT yI)) (yT (yP3 (yP2 yI yI) (yP2 yI yI) yI))) x_drawing), .v (yI p_51.1), .v ((yT (yP2 yI yI)) p_51.2.1), .v ((yT (yT yI)) p_51.2.2.1), .v ((yT (yT yI)) p_51.2.2.2.1), .v ((yT (yP3 (yP2 yI yI) (yP2 yI yI) yI)) p_51.2.2.2.2), .f none (fI yI s), .v ((yT yI) x_55), .u, .u, .u, .u, .u] : List Sl))) s_53 (xi_T (xe_var (t := (yT yI)) (a := x_55) 7 rfl)) rfl (fun s_56 => (xp_name 8)) (fun s_56 x_58 =>
  (xn_end (fun s_62 => s_62) [8] (xn_if (E := (fun s : ((List (Int × Int))) => ([.v ((yP5 yI (yT (yP2 yI yI)) (yT (yT yI)) (yT (yT yI)) (yT (yP3 (yP2 yI yI) (yP2 yI yI) yI))) x_drawing), .v (yI p_51.1), .v ((yT (yP2 yI yI)) p_51.2.1), .v ((yT (yT yI)) p_51.2.2.1), .v ((yT (yT yI)) p_51.2.2.2.1), .v ((yT (yP3 (yP2 yI yI) (yP2 yI yI) yI)) p_51.2.2.2.2), .f none (fI yI s), .v ((yT yI) x_55), .v (yI x_58), .u, .u, .u, .u] : List Sl))) (xt_tst (xe_inI (neg := true) (u := yI) (l := s_56) 6 rfl (xe_var (t := yI) (a := x_58) 8 rfl))) (xn_end (fun x_numbers_60 => x_numbers_60) [] (xn_setI (u := yI) (l := s_56) 6 rfl (xe_lenI (u := yI) (l := s_56) 6 rfl) (xe_var (t := yI) (a := x_58) 8 rfl)) (fun _ => rfl)) (xn_nild s_56 [] rfl)) (fun _ => rfl))) (fun _ => rfl)) (fun _ => rfl))) (fun _ => rfl)) fun s_54 =>
  (xb_seq (xn_new 9 (xe_mulL (xe_fz (xe_l1t (xe_c (t := (yO (yP3 (yP2 yI yI) (yP2 yI yI) yI))) none rfl))) (xe_B1t bf_len (XE.asT (xe_var (t := (yT (yP3 (yP2 yI yI) (yP2 yI yI) yI))) (a := p_51.2.2.2.2) 5 rfl))))) fun x_told_65 =>
  (xb_seq (xn_for (E := (fun s : ((List (Option ((Int × Int) × (Int × Int) × Int)))) => ([.v ((yP5 yI (yT (yP2 yI yI)) (yT (yT yI)) (yT (yT yI)) (yT (yP3 (yP2 yI yI) (yP2 yI yI) yI))) x_drawing), .v (yI p_51.1), .v ((yT (yP2 yI yI)) p_51.2.1), .v ((yT (yT yI)) p_51.2.2.1), .v ((yT (yT yI)) p_51.2.2.2.1), .v ((yT (yP3 (yP2 yI yI) (yP2 yI yI) yI)) p_51.2.2.2.2), .f none (fI yI s_54), .u, .u, .c (s.map (yO (yP3 (yP2 yI yI) (yP2 yI yI) yI))), .u, .u, .u] : List Sl))) (E2 := (fun s : ((List (Option ((Int × Int) × (Int × Int) × Int)))) => ([.v ((yP5 yI (yT (yP2 yI yI)) (yT (yT yI)) (yT (yT yI)) (yT (yP3 (yP2 yI yI) (yP2 yI yI) yI))) x_drawing), .v (yI p_51.1), .v ((yT (yP2 yI yI)) p_51.2.1), .v ((yT (yT yI)) p_51.2.2.1), .v ((yT (yT yI)) p_51.2.2.2.1), .v ((yT (yP3 (yP2 yI yI) (yP2 yI yI) yI)) p_51.2.2.2.2), .f none (fI yI s_54), .u, .u, .c (s.map (yO (yP3 (yP2 yI yI) (yP2 yI yI) yI))), .u, .u, .u] : List Sl))) x_told_65 (xi_enumT (xe_var (t := (yT (yP3 (yP2 yI yI) (yP2 yI yI) yI))) (a := p_51.2.2.2.2) 5 rfl)) rfl (fun s_66 => (xp_t2 (xp_name 8) (fun _ => (xp_name 10)))) (fun s_66 x_68 =>
  (xn_end (fun x_told_69 => x_told_69) [8, 10] (xn_set (t := (yO (yP3 (yP2 yI yI) (yP2 yI yI) yI))) (l := s_66) 9 rfl (XE.conv (xe_var (t := (yP3 (yP2 yI yI) (yP2 yI yI) yI)) (a := x_68.2) 10 rfl) (fun p => some p) (fun p d S h => h)) (xe_ixI (u := yI) (l := s_54) 6 rfl (xe_var (t := yI) (a := x_68.1) 8 rfl))) (fun _ => rfl))) (fun _ => rfl)) fun s_67 =>
  (xb_seq (xn_asg 11 (xe_fz (xe_comp (XE.toP (xi_T (xe_var (t := (yT (yT yI))) (a := p_51.2.2.2.1) 4 rfl))) (xp_name 7) (fun _ => xe_yes) fun x_i_75 => (xe_B1 bf_tuple (XE.asL (xe_fz (xe_comp (XE.toP (xi_T (xe_var (t := (yT yI)) (a := x_i_75) 7 rfl))) (xp_name 8) (fun _ => xe_yes) fun x_i_76 => (xe_ixI (u := yI) (l := s_54) 6 rfl (xe_var (t := yI) (a := x_i_76) 8 rfl))))))))) fun x_new_ways_74 =>
  (xb_ret (xe_P5 (xe_var (t := yI) (a := p_51.1) 1 rfl) (xe_var (t := (yT (yP2 yI yI))) (a := p_51.2.1) 2 rfl) (xe_B1 bf_tuple (XE.asL (xe_fz (xe_comp (XE.toP (xi_T (xe_var (t := (yT (yT yI))) (a := p_51.2.2.1) 3 rfl))) (xp_name 12) (fun _ => xe_yes) fun x_i_79 => (xe_call1t ff_from_least (xe_var (t := (yT yI)) (a := x_i_79) 12 rfl)))))) (xe_B1t bf_tuple (XE.asL (xe_var (t := (yL (yT yI))) (a := x_new_ways_74) 11 rfl))) (XE.unOT (xe_B1t bf_tuple (xe_vc (t := (yO (yP3 (yP2 yI yI) (yP2 yI yI) yI))) (l := s_67) 9 rfl)))))))))))
noncomputable def F_lenses_along (x_drawing : (Int × (List (Int × Int)) × (List (List Int)) × (List (List Int)) × (List ((Int × Int) × (Int × Int) × Int)))) (x_one : (Int × Int)) (x_other : (Int × Int)) : R (List ((Int × Int) × (Int × Int) × Int × Int)) :=
  .bad
theorem ff_lenses_along : ∀ (x_drawing : (Int × (List (Int × Int)) × (List (List Int)) × (List (List Int)) × (List ((Int × Int) × (Int × Int) × Int)))) (x_one : (Int × Int)) (x_other : (Int × Int)) d0 d1 d2 S, vP (yP5 yI (yT (yP2 yI yI)) (yT (yT yI)) (yT (yT yI)) (yT (yP3 (yP2 yI yI) (yP2 yI yI) yI))) x_drawing d0 S → vP (yP2 yI yI) x_one d1 S → vP (yP2 yI yI) x_other d2 S → Out S (vP (yL (yP4 (yP2 yI yI) (yP2 yI yI) yI yI))) (F_lenses_along x_drawing x_one x_other) (m_lenses_along [d0, d1, d2] S) := fun x_drawing x_one x_other d0 d1 d2 S h0 h1 h2 => by
  unfold m_lenses_along
  refine fn_L (N := 10) (body := c_lenses_along) (ss := [.v ((yP5 yI (yT (yP2 yI yI)) (yT (yT yI)) (yT (yT yI)) (yT (yP3 (yP2 yI yI) (yP2 yI yI) yI))) x_drawing), .v ((yP2 yI yI) x_one), .v ((yP2 yI yI) x_other)]) (.cons h0 (.cons h1 (.cons h2 .nil))) (by first | exact Nat.le_refl _ | exact Nat.zero_le _) ?_
  unfold c_lenses_along F_lenses_along
  exact xb_badA
noncomputable def F_lenses (x_drawing : (Int × (List (Int × Int)) × (List (List Int)) × (List (List Int)) × (List ((Int × Int) × (Int × Int) × Int)))) : R (List ((Int × Int) × (Int × Int) × Int × Int)) :=
  (R.bind (F_plained x_drawing) fun x_here_82 =>
  (R.bind (R.ok ([] : List ((Int × Int) × (Int × Int) × Int × Int))) fun x_found_83 =>
  (R.bind (R.bind (R.ok x_here_82.2.1) fun l_97 => forR (fun (s_84 : ((List ((Int × Int) × (Int × Int) × Int × Int)))) (x_86 : (Int × Int)) =>
  (R.bind (R.bind (R.ok x_here_82.2.1) fun l_96 => forR (fun (s_87 : ((List ((Int × Int) × (Int × Int) × Int × Int)))) (x_89 : (Int × Int)) =>
  (R.bind (R.bind (R.ok (!decide (x_86 = x_89))) fun b_94 => if b_94 = true then (R.bind (R.bind (F_lenses_along x_here_82 x_86 x_89) fun b_93 => extR s_87 b_93) fun x_found_92 => .ok x_found_92) else (.ok s_87)) fun s_95 => .ok s_95)) l_96 s_84) fun s_88 => .ok s_88)) l_97 x_found_83) fun s_85 =>
  (R.bind (sortR (leK (kP4 (kP2 kI kI) (kP2 kI kI) kI kI)) s_85) fun y0_98 => .ok y0_98))))
theorem ff_lenses : ∀ (x_drawing : (Int × (List (Int × Int)) × (List (List Int)) × (List (List Int)) × (List ((Int × Int) × (Int × Int) × Int)))) d0 S, vP (yP5 yI (yT (yP2 yI yI)) (yT (yT yI)) (yT (yT yI)) (yT (yP3 (yP2 yI yI) (yP2 yI yI) yI))) x_drawing d0 S → Out S (vP (yT (yP4 (yP2 yI yI) (yP2 yI yI) yI yI))) (F_lenses x_drawing) (m_lenses [d0] S) := fun x_drawing d0 S h0 => by
  unfold m_lenses
  refine fn_v (N := 5) (body := c_lenses) (ss := [.v ((yP5 yI (yT (yP2 yI yI)) (yT (yT yI)) (yT (yT yI)) (yT (yP3 (yP2 yI yI) (yP2 yI yI) yI))) x_drawing)]) (.cons h0 .nil) (by first | exact Nat.le_refl _ | exact Nat.zero_le _) ?_
  unfold c_lenses F_lenses
  exact (xb_seq (xn_asg 1 (xe_call1t ff_plained (xe_var (t := (yP5 yI (yT (yP2 yI yI)) (yT (yT yI)) (yT (yT yI)) (yT (yP3 (yP2 yI yI) (yP2 yI yI) yI)))) (a := x_drawing) 0 rfl))) fun x_here_82 =>
  (xb_seq (xn_new 2 (xe_l0 (t := (yP4 (yP2 yI yI) (yP2 yI yI) yI yI)))) fun x_found_83 =>
  (xb_seq (xn_for (E := (fun s : ((List ((Int × Int) × (Int × Int) × Int × Int))) => ([.v ((yP5 yI (yT (yP2 yI yI)) (yT (yT yI)) (yT (yT yI)) (yT (yP3 (yP2 yI yI) (yP2 yI yI) yI))) x_drawing), .v ((yP5 yI (yT (yP2 yI yI)) (yT (yT yI)) (yT (yT yI)) (yT (yP3 (yP2 yI yI) (yP2 yI yI) yI))) x_here_82), .c (s.map (yP4 (yP2 yI yI) (yP2 yI yI) yI yI)), .u, .u] : List Sl))) (E2 := (fun s : ((List ((Int × Int) × (Int × Int) × Int × Int))) => ([.v ((yP5 yI (yT (yP2 yI yI)) (yT (yT yI)) (yT (yT yI)) (yT (yP3 (yP2 yI yI) (yP2 yI yI) yI))) x_drawing), .v ((yP5 yI (yT (yP2 yI yI)) (yT (yT yI)) (yT (yT yI)) (yT (yP3 (yP2 yI yI) (yP2 yI yI) yI))) x_here_82), .c (s.map (yP4 (yP2 yI yI) (yP2 yI yI) yI yI)), .u, .u] : List Sl))) x_found_83 (xi_T (xe_ixct ixp_5_1 (xe_var (t := (yP5 yI (yT (yP2 yI yI)) (yT (yT yI)) (yT (yT yI)) (yT (yP3 (yP2 yI yI) (yP2 yI yI) yI)))) (a := x_here_82) 1 rfl))) rfl (fun s_84 => (xp_name 3)) (fun s_84 x_86 =>
  (xn_end (fun s_88 => s_88) [3] (xn_for (E := (fun s : ((List ((Int × Int) × (Int × Int) × Int × Int))) => ([.v ((yP5 yI (yT (yP2 yI yI)) (yT (yT yI)) (yT (yT yI)) (yT (yP3 (yP2 yI yI) (yP2 yI yI) yI))) x_drawing), .v ((yP5 yI (yT (yP2 yI yI)) (yT (yT yI)) (yT (yT yI)) (yT (yP3 (yP2 yI yI) (yP2 yI yI) yI))) x_here_82), .c (s.map (yP4 (yP2 yI yI) (yP2 yI yI) yI yI)), .v ((yP2 yI yI) x_86), .u] : List Sl))) (E2 := (fun s : ((List ((Int × Int) × (Int × Int) × Int × Int))) => ([.v ((yP5 yI (yT (yP2 yI yI)) (yT (yT yI)) (yT (yT yI)) (yT (yP3 (yP2 yI yI) (yP2 yI yI) yI))) x_drawing), .v ((yP5 yI (yT (yP2 yI yI)) (yT (yT yI)) (yT (yT yI)) (yT (yP3 (yP2 yI yI) (yP2 yI yI) yI))) x_here_82), .c (s.map (yP4 (yP2 yI yI) (yP2 yI yI) yI yI)), .v ((yP2 yI yI) x_86), .u] : List Sl))) s_84 (xi_T (xe_ixct ixp_5_1 (xe_var (t := (yP5 yI (yT (yP2 yI yI)) (yT (yT yI)) (yT (yT yI)) (yT (yP3 (yP2 yI yI) (yP2 yI yI) yI)))) (a := x_here_82) 1 rfl))) rfl (fun s_87 => (xp_name 4)) (fun s_87 x_89 =>
  (xn_end (fun s_95 => s_95) [4] (xn_if (E := (fun s : ((List ((Int × Int) × (Int × Int) × Int × Int))) => ([.v ((yP5 yI (yT (yP2 yI yI)) (yT (yT yI)) (yT (yT yI)) (yT (yP3 (yP2 yI yI) (yP2 yI yI) yI))) x_drawing), .v ((yP5 yI (yT (yP2 yI yI)) (yT (yT yI)) (yT (yT yI)) (yT (yP3 (yP2 yI yI) (yP2 yI yI) yI))) x_here_82), .c (s.map (yP4 (yP2 yI yI) (yP2 yI yI) yI yI)), .v ((yP2 yI yI) x_86), .v ((yP2 yI yI) x_89)] : List Sl))) (xt_tst (xe_e2t op_ne' (xe_var (t := (yP2 yI yI)) (a := x_86) 3 rfl) (xe_var (t := (yP2 yI yI)) (a := x_89) 4 rfl))) (xn_end (fun x_found_92 => x_found_92) [] (xn_ext (t := (yP4 (yP2 yI yI) (yP2 yI yI) yI yI)) (l := s_87) 2 rfl (XE.eL (xe_call3t ff_lenses_along (xe_var (t := (yP5 yI (yT (yP2 yI yI)) (yT (yT yI)) (yT (yT yI)) (yT (yP3 (yP2 yI yI) (yP2 yI yI) yI)))) (a := x_here_82) 1 rfl) (xe_var (t := (yP2 yI yI)) (a := x_86) 3 rfl) (xe_var (t := (yP2 yI yI)) (a := x_89) 4 rfl)))) (fun _ => rfl)) (xn_nild s_87 [] rfl)) (fun _ => rfl))) (fun _ => rfl)) (fun _ => rfl))) (fun _ => rfl)) fun s_85 =>
  (xb_ret (xe_B1 bf_tuple (XE.asL (xe_fz (xe_B1t bf_sorted (xe_vc (t := (yP4 (yP2 yI yI) (yP2 yI yI) yI yI)) (l := s_85) 2 rfl)))))))))
noncomputable def F_is_lens (x_drawing : (Int × (List (Int × Int)) × (List (List Int)) × (List (List Int)) × (List ((Int × Int) × (Int × Int) × Int)))) (x_lens : ((Int × Int) × (Int × Int) × Int × Int)) : R Bool :=
  (R.bind (R.bind (R.ok x_lens) fun ya_99 => R.bind (F_lenses x_drawing) fun yb_99 => .ok (!memB ya_99 yb_99)) fun b_100 => if b_100 = true then (R.ok false) else
  .bad)
theorem ff_is_lens : ∀ (x_drawing : (Int × (List (Int × Int)) × (List (List Int)) × (List (List Int)) × (List ((Int × Int) × (Int × Int) × Int)))) (x_lens : ((Int × Int) × (Int × Int) × Int × Int)) d0 d1 S, vP (yP5 yI (yT (yP2 yI yI)) (yT (yT yI)) (yT (yT yI)) (yT (yP3 (yP2 yI yI) (yP2 yI yI) yI))) x_drawing d0 S → vP (yP4 (yP2 yI yI) (yP2 yI yI) yI yI) x_lens d1 S → Out S (vP yB) (F_is_lens x_drawing x_lens) (m_is_lens [d0, d1] S) := fun x_drawing x_lens d0 d1 S h0 h1 => by
  unfold m_is_lens
  refine fn_v (N := 3) (body := c_is_lens) (ss := [.v ((yP5 yI (yT (yP2 yI yI)) (yT (yT yI)) (yT (yT yI)) (yT (yP3 (yP2 yI yI) (yP2 yI yI) yI))) x_drawing), .v ((yP4 (yP2 yI yI) (yP2 yI yI) yI yI) x_lens)]) (.cons h0 (.cons h1 .nil)) (by first | exact Nat.le_refl _ | exact Nat.zero_le _) ?_
  unfold c_is_lens F_is_lens
  exact (xb_push (xb_if (xt_tst (xe_e2 op_nin' (xe_var (t := (yP4 (yP2 yI yI) (yP2 yI yI) yI yI)) (a := x_lens) 1 rfl) (XE.asT (xe_call1t ff_lenses (xe_var (t := (yP5 yI (yT (yP2 yI yI)) (yT (yT yI)) (yT (yT yI)) (yT (yP3 (yP2 yI yI) (yP2 yI yI) yI)))) (a := x_drawing) 0 rfl))))) (xb_skip (ends_ret _) (xb_ret (xe_c (t := yB) false rfl)))
  (xb_nil xb_badA)))
noncomputable def F_loosened (x_drawing : (Int × (List (Int × Int)) × (List (List Int)) × (List (List Int)) × (List ((Int × Int) × (Int × Int) × Int)))) (x_lens : ((Int × Int) × (Int × Int) × Int × Int)) : R (Int × (List (Int × Int)) × (List (List Int)) × (List (List Int)) × (List ((Int × Int) × (Int × Int) × Int))) :=
  (R.bind (R.bind (F_is_lens x_drawing x_lens) fun b => .ok (!b)) fun b_101 => if b_101 = true then (.err 5) else
  .bad)
theorem ff_loosened : ∀ (x_drawing : (Int × (List (Int × Int)) × (List (List Int)) × (List (List Int)) × (List ((Int × Int) × (Int × Int) × Int)))) (x_lens : ((Int × Int) × (Int × Int) × Int × Int)) d0 d1 S, vP (yP5 yI (yT (yP2 yI yI)) (yT (yT yI)) (yT (yT yI)) (yT (yP3 (yP2 yI yI) (yP2 yI yI) yI))) x_drawing d0 S → vP (yP4 (yP2 yI yI) (yP2 yI yI) yI yI) x_lens d1 S → Out S (vP (yP5 yI (yT (yP2 yI yI)) (yT (yT yI)) (yT (yT yI)) (yT (yP3 (yP2 yI yI) (yP2 yI yI) yI)))) (F_loosened x_drawing x_lens) (m_loosened [d0, d1] S) := fun x_drawing x_lens d0 d1 S h0 h1 => by
  unfold m_loosened
  refine fn_v (N := 17) (body := c_loosened) (ss := [.v ((yP5 yI (yT (yP2 yI yI)) (yT (yT yI)) (yT (yT yI)) (yT (yP3 (yP2 yI yI) (yP2 yI yI) yI))) x_drawing), .v ((yP4 (yP2 yI yI) (yP2 yI yI) yI yI) x_lens)]) (.cons h0 (.cons h1 .nil)) (by first | exact Nat.le_refl _ | exact Nat.zero_le _) ?_
  unfold c_loosened F_loosened
  exact (xb_push (xb_if (xt_not (xt_tst (xe_call2t ff_is_lens (xe_var (t := (yP5 yI (yT (yP2 yI yI)) (yT (yT yI)) (yT (yT yI)) (yT (yP3 (yP2 yI yI) (yP2 yI yI) yI)))) (a := x_drawing) 0 rfl) (xe_var (t := (yP4 (yP2 yI yI) (yP2 yI yI) yI yI)) (a := x_lens) 1 rfl)))) (xb_skip (ends_rs 5) (xb_raise 5))
  (xb_nil xb_badA)))
noncomputable def F_looked_at_straight (x_n : Int) (x_ties : (List (Int × Int))) (x_points : (List (Int × Int))) : R Unit :=
  (R.bind (R.ok (!decide ((x_points.length : Int) = x_n))) fun b_102 => if b_102 = true then (.err 6) else
  .bad)
theorem ff_looked_at_straight : ∀ (x_n : Int) (x_ties : (List (Int × Int))) (x_points : (List (Int × Int))) d0 d1 d2 S, vP yI x_n d0 S → vP (yT (yP2 yI yI)) x_ties d1 S → vP (yT (yP2 yI yI)) x_points d2 S → Out S (vP yN) (F_looked_at_straight x_n x_ties x_points) (m_looked_at_straight [d0, d1, d2] S) := fun x_n x_ties x_points d0 d1 d2 S h0 h1 h2 => by
  unfold m_looked_at_straight
  refine fn_v (N := 6) (body := c_looked_at_straight) (ss := [.v (yI x_n), .v ((yT (yP2 yI yI)) x_ties), .v ((yT (yP2 yI yI)) x_points)]) (.cons h0 (.cons h1 (.cons h2 .nil))) (by first | exact Nat.le_refl _ | exact Nat.zero_le _) ?_
  unfold c_looked_at_straight F_looked_at_straight
  exact (xb_push (xb_if (xt_tst (xe_e2t op_neI (xe_B1t bf_len (XE.asT (xe_var (t := (yT (yP2 yI yI))) (a := x_points) 2 rfl))) (xe_var (t := yI) (a := x_n) 0 rfl))) (xb_skip (ends_rs 6) (xb_raise 6))
  (xb_nil xb_badA)))
noncomputable def F_straight (x_web : (Int × (List (Int × Int)))) (x_points : (List (Int × Int))) : R (Int × (List (Int × Int)) × (List (List Int)) × (List (List Int)) × (List ((Int × Int) × (Int × Int) × Int))) :=
  (R.bind (R.ok x_web) fun p_103 =>
  (R.bind (R.bind (F_looked_at_straight p_103.1 p_103.2 x_points) fun _ => .ok ()) fun w_104 =>
  .bad))
theorem ff_straight : ∀ (x_web : (Int × (List (Int × Int)))) (x_points : (List (Int × Int))) d0 d1 S, vP (yP2 yI (yT (yP2 yI yI))) x_web d0 S → vP (yT (yP2 yI yI)) x_points d1 S → Out S (vP (yP5 yI (yT (yP2 yI yI)) (yT (yT yI)) (yT (yT yI)) (yT (yP3 (yP2 yI yI) (yP2 yI yI) yI)))) (F_straight x_web x_points) (m_straight [d0, d1] S) := fun x_web x_points d0 d1 S h0 h1 => by
  unfold m_straight
  refine fn_v (N := 15) (body := c_straight) (ss := [.v ((yP2 yI (yT (yP2 yI yI))) x_web), .v ((yT (yP2 yI yI)) x_points)]) (.cons h0 (.cons h1 .nil)) (by first | exact Nat.le_refl _ | exact Nat.zero_le _) ?_
  unfold c_straight F_straight
  exact (xb_seq (xn_asgP (xe_var (t := (yP2 yI (yT (yP2 yI yI)))) (a := x_web) 0 rfl) (xp_t2 (xp_name 2) (fun _ => (xp_name 3)))) fun p_103 =>
  (xb_seq (xn_expr (β := Unit) (xe_call3t ff_looked_at_straight (xe_var (t := yI) (a := p_103.1) 2 rfl) (xe_var (t := (yT (yP2 yI yI))) (a := p_103.2) 3 rfl) (xe_var (t := (yT (yP2 yI yI))) (a := x_points) 1 rfl))) fun w_104 =>
  xb_badA))
noncomputable def F_is_new (x_drawing : (Int × (List (Int × Int)) × (List (List Int)) × (List (List Int)) × (List ((Int × Int) × (Int × Int) × Int)))) (x_tie : (Int × Int)) : R Bool :=
  (R.bind (R.bind (R.ok (!true)) fun b => if b = true then .ok true else (R.bind (R.ok (!decide ((2 : Int) = (2 : Int)))) fun b => if b = true then .ok true else (R.bind (R.bind (compB (fun _ => .ok true) (fun x_i_105 => F_is_whole (toA yI x_i_105)) [x_tie.1, x_tie.2]) fun y0_106 => .ok (y0_106.all id)) fun b => .ok (!b)))) fun b_108 => if b_108 = true then (R.ok false) else
  (R.bind (R.ok (!(decide ((0 : Int) ≤ x_tie.1) && (decide (x_tie.1 < x_tie.2) && decide (x_tie.2 < x_drawing.1))))) fun b_107 => if b_107 = true then (R.ok false) else
  (R.ok ((!memB x_tie x_drawing.2.1) && (decide ((x_drawing.2.1.length : Int) < (18 : Int)))))))
theorem ff_is_new : ∀ (x_drawing : (Int × (List (Int × Int)) × (List (List Int)) × (List (List Int)) × (List ((Int × Int) × (Int × Int) × Int)))) (x_tie : (Int × Int)) d0 d1 S, vP (yP5 yI (yT (yP2 yI yI)) (yT (yT yI)) (yT (yT yI)) (yT (yP3 (yP2 yI yI) (yP2 yI yI) yI))) x_drawing d0 S → vP (yP2 yI yI) x_tie d1 S → Out S (vP yB) (F_is_new x_drawing x_tie) (m_is_new [d0, d1] S) := fun x_drawing x_tie d0 d1 S h0 h1 => by
  unfold m_is_new
  refine fn_v (N := 3) (body := c_is_new) (ss := [.v ((yP5 yI (yT (yP2 yI yI)) (yT (yT yI)) (yT (yT yI)) (yT (yP3 (yP2 yI yI) (yP2 yI yI) yI))) x_drawing), .v ((yP2 yI yI) x_tie)]) (.cons h0 (.cons h1 .nil)) (by first | exact Nat.le_refl _ | exact Nat.zero_le _) ?_
  unfold c_is_new F_is_new
  exact (xb_push (xb_if (xt_or (xt_not (xt_tst (xe_isit (b := true) (fun a d S h => by cases h; exact ⟨_, rfl, rfl⟩) (xe_var (t := (yP2 yI yI)) (a := x_tie) 1 rfl)))) (xt_or (xt_tst (xe_e2t op_neI (xe_B1t (bf_lenP 2 (fun a => ⟨_, rfl, rfl⟩)) (xe_var (t := (yP2 yI yI)) (a := x_tie) 1 rfl)) (xe_c (t := yI) (2) rfl))) (xt_not (xt_tst (xe_B1 bf_all (XE.asL (xe_fz (xe_comp (XE.toP (xi_T (XE.conv (xe_var (t := (yP2 yI yI)) (a := x_tie) 1 rfl) (fun p => [p.1, p.2]) (fun p d S h => by cases h; rfl)))) (xp_name 2) (fun _ => xe_yes) fun x_i_105 => (xe_call1t ff_is_whole (XE.conv (xe_var (t := yI) (a := x_i_105) 2 rfl) (toA yI) asA)))))))))) (xb_skip (ends_ret _) (xb_ret (xe_c (t := yB) false rfl)))
  (xb_nil (xb_push (xb_if (xt_not (xt_tst (xe_chain3t op_leI op_ltI op_ltI (xe_c (t := yI) (0) rfl) (xe_ixct ixp_2_0 (xe_var (t := (yP2 yI yI)) (a := x_tie) 1 rfl)) (xe_ixct ixp_2_1 (xe_var (t := (yP2 yI yI)) (a := x_tie) 1 rfl)) (xe_ixct ixp_5_0 (xe_var (t := (yP5 yI (yT (yP2 yI yI)) (yT (yT yI)) (yT (yT yI)) (yT (yP3 (yP2 yI yI) (yP2 yI yI) yI)))) (a := x_drawing) 0 rfl))))) (xb_skip (ends_ret _) (xb_ret (xe_c (t := yB) false rfl)))
  (xb_nil (xb_ret (xe_andt (xe_e2t op_nin' (xe_var (t := (yP2 yI yI)) (a := x_tie) 1 rfl) (XE.asT (xe_ixct ixp_5_1 (xe_var (t := (yP5 yI (yT (yP2 yI yI)) (yT (yT yI)) (yT (yT yI)) (yT (yP3 (yP2 yI yI) (yP2 yI yI) yI)))) (a := x_drawing) 0 rfl)))) (xe_e2t op_ltI (xe_B1t bf_len (XE.asT (xe_ixct ixp_5_1 (xe_var (t := (yP5 yI (yT (yP2 yI yI)) (yT (yT yI)) (yT (yT yI)) (yT (yP3 (yP2 yI yI) (yP2 yI yI) yI)))) (a := x_drawing) 0 rfl)))) (xe_c (t := yI) (18) rfl))))))))))
noncomputable def F_is_begin (x_ring : (List Int)) (x_place : (Option Int)) : R Bool :=
  (R.bind (R.ok (decide (x_ring = ([] : List Int)))) fun b_109 => if b_109 = true then (R.ok x_place.isNone) else
  .bad)
theorem ff_is_begin : ∀ (x_ring : (List Int)) (x_place : (Option Int)) d0 d1 S, vP (yT yI) x_ring d0 S → vP (yO yI) x_place d1 S → Out S (vP yB) (F_is_begin x_ring x_place) (m_is_begin [d0, d1] S) := fun x_ring x_place d0 d1 S h0 h1 => by
  unfold m_is_begin
  refine fn_v (N := 2) (body := c_is_begin) (ss := [.v ((yT yI) x_ring), .v ((yO yI) x_place)]) (.cons h0 (.cons h1 .nil)) (by first | exact Nat.le_refl _ | exact Nat.zero_le _) ?_
  unfold c_is_begin F_is_begin
  exact (xb_push (xb_if (xt_tst (xe_e2t op_eq' (xe_var (t := (yT yI)) (a := x_ring) 0 rfl) (xe_T0 (t := yI)))) (xb_skip (ends_ret _) (xb_ret (xe_krt (op_isN (by intro _ h; cases h)) (xe_var (t := (yO yI)) (a := x_place) 1 rfl))))
  (xb_nil xb_badA)))
noncomputable def F_is_route (x_drawing : (Int × (List (Int × Int)) × (List (List Int)) × (List (List Int)) × (List ((Int × Int) × (Int × Int) × Int)))) (x_tie : (Int × Int)) (x_route : ((Option Int) × (List (Int × Int × Int)) × (Option Int))) : R Bool :=
  (R.bind (R.ok ((!true) || (!decide ((3 : Int) = (3 : Int))))) fun b_117 => if b_117 = true then (R.ok false) else
  (R.bind (R.bind (R.ok [((x_tie.1, x_route.1), (x_tie.2, x_route.2.2)).1, ((x_tie.1, x_route.1), (x_tie.2, x_route.2.2)).2]) fun l_115 => forL (fun (s_110 : Unit) (x_112 : (Int × (Option Int))) =>
  (R.bind (R.bind (R.bind (ixR x_drawing.2.2.1 x_112.1) fun y0_113 => R.bind (R.ok x_112.2) fun y1_113 => F_is_begin y0_113 y1_113) fun b => .ok (!b)) fun b_114 => if b_114 = true then (.ok (.out false)) else
  (.ok (.go ())))) l_115 ()) fun r_116 => Lp.fin r_116 fun s_111 =>
  .bad))
theorem ff_is_route : ∀ (x_drawing : (Int × (List (Int × Int)) × (List (List Int)) × (List (List Int)) × (List ((Int × Int) × (Int × Int) × Int)))) (x_tie : (Int × Int)) (x_route : ((Option Int) × (List (Int × Int × Int)) × (Option Int))) d0 d1 d2 S, vP (yP5 yI (yT (yP2 yI yI)) (yT (yT yI)) (yT (yT yI)) (yT (yP3 (yP2 yI yI) (yP2 yI yI) yI))) x_drawing d0 S → vP (yP2 yI yI) x_tie d1 S → vP (yP3 (yO yI) (yT (yP3 yI yI yI)) (yO yI)) x_route d2 S → Out S (vP yB) (F_is_route x_drawing x_tie x_route) (m_is_route [d0, d1, d2] S) := fun x_drawing x_tie x_route d0 d1 d2 S h0 h1 h2 => by
  unfold m_is_route
  refine fn_v (N := 5) (body := c_is_route) (ss := [.v ((yP5 yI (yT (yP2 yI yI)) (yT (yT yI)) (yT (yT yI)) (yT (yP3 (yP2 yI yI) (yP2 yI yI) yI))) x_drawing), .v ((yP2 yI yI) x_tie), .v ((yP3 (yO yI) (yT (yP3 yI yI yI)) (yO yI)) x_route)]) (.cons h0 (.cons h1 (.cons h2 .nil))) (by first | exact Nat.le_refl _ | exact Nat.zero_le _) ?_
  unfold c_is_route F_is_route
  exact (xb_push (xb_if (xt_ort (xt_not (xt_tst (xe_isit (b := true) (fun a d S h => by cases h; exact ⟨_, rfl, rfl⟩) (xe_var (t := (yP3 (yO yI) (yT (yP3 yI yI yI)) (yO yI))) (a := x_route) 2 rfl)))) (xt_tst (xe_e2t op_neI (xe_B1t (bf_lenP 3 (fun a => ⟨_, rfl, rfl⟩)) (xe_var (t := (yP3 (yO yI) (yT (yP3 yI yI yI)) (yO yI))) (a := x_route) 2 rfl)) (xe_c (t := yI) (3) rfl)))) (xb_skip (ends_ret _) (xb_ret (xe_c (t := yB) false rfl)))
  (xb_nil (xb_seqL (xl_for (E := (fun s : Unit => ([.v ((yP5 yI (yT (yP2 yI yI)) (yT (yT yI)) (yT (yT yI)) (yT (yP3 (yP2 yI yI) (yP2 yI yI) yI))) x_drawing), .v ((yP2 yI yI) x_tie), .v ((yP3 (yO yI) (yT (yP3 yI yI yI)) (yO yI)) x_route), .u, .u] : List Sl))) (E2 := (fun s : Unit => ([.v ((yP5 yI (yT (yP2 yI yI)) (yT (yT yI)) (yT (yT yI)) (yT (yP3 (yP2 yI yI) (yP2 yI yI) yI))) x_drawing), .v ((yP2 yI yI) x_tie), .v ((yP3 (yO yI) (yT (yP3 yI yI yI)) (yO yI)) x_route), .u, .u] : List Sl))) () (xi_T (XE.conv (xe_P2t (xe_P2t (xe_ixct ixp_2_0 (xe_var (t := (yP2 yI yI)) (a := x_tie) 1 rfl)) (xe_ixct ixp_3_0 (xe_var (t := (yP3 (yO yI) (yT (yP3 yI yI yI)) (yO yI))) (a := x_route) 2 rfl))) (xe_P2t (xe_ixct ixp_2_1 (xe_var (t := (yP2 yI yI)) (a := x_tie) 1 rfl)) (xe_ixct ixp_3_2 (xe_var (t := (yP3 (yO yI) (yT (yP3 yI yI yI)) (yO yI))) (a := x_route) 2 rfl)))) (fun p => [p.1, p.2]) (fun p d S h => by cases h; rfl))) rfl (fun s_110 => (xp_t2 (xp_name 3) (fun _ => (xp_name 4)))) (fun s_110 x_112 =>
  (xl_if (xt_not (xt_tst (xe_call2 ff_is_begin (xe_e2t op_ix' (XE.asT (xe_ixct ixp_5_2 (xe_var (t := (yP5 yI (yT (yP2 yI yI)) (yT (yT yI)) (yT (yT yI)) (yT (yP3 (yP2 yI yI) (yP2 yI yI) yI)))) (a := x_drawing) 0 rfl))) (xe_var (t := yI) (a := x_112.1) 3 rfl)) (xe_var (t := (yO yI)) (a := x_112.2) 4 rfl)))) (xl_ret (xe_c (t := yB) false rfl))
  (xl_god () [3, 4] rfl))) (fun _ => rfl)) fun s_111 =>
  xb_badA))))
noncomputable def F_put (x_drawing : (Int × (List (Int × Int)) × (List (List Int)) × (List (List Int)) × (List ((Int × Int) × (Int × Int) × Int)))) (x_tie : (Int × Int)) (x_route : ((Option Int) × (List (Int × Int × Int)) × (Option Int))) : R (Int × (List (Int × Int)) × (List (List Int)) × (List (List Int)) × (List ((Int × Int) × (Int × Int) × Int))) :=
  (R.bind (R.bind (F_is_new x_drawing x_tie) fun b => .ok (!b)) fun b_119 => if b_119 = true then (.err 3) else
  (R.bind (R.bind (F_is_route x_drawing x_tie x_route) fun b => .ok (!b)) fun b_118 => if b_118 = true then (.err 7) else
  .bad))
theorem ff_put : ∀ (x_drawing : (Int × (List (Int × Int)) × (List (List Int)) × (List (List Int)) × (List ((Int × Int) × (Int × Int) × Int)))) (x_tie : (Int × Int)) (x_route : ((Option Int) × (List (Int × Int × Int)) × (Option Int))) d0 d1 d2 S, vP (yP5 yI (yT (yP2 yI yI)) (yT (yT yI)) (yT (yT yI)) (yT (yP3 (yP2 yI yI) (yP2 yI yI) yI))) x_drawing d0 S → vP (yP2 yI yI) x_tie d1 S → vP (yP3 (yO yI) (yT (yP3 yI yI yI)) (yO yI)) x_route d2 S → Out S (vP (yP5 yI (yT (yP2 yI yI)) (yT (yT yI)) (yT (yT yI)) (yT (yP3 (yP2 yI yI) (yP2 yI yI) yI)))) (F_put x_drawing x_tie x_route) (m_put [d0, d1, d2] S) := fun x_drawing x_tie x_route d0 d1 d2 S h0 h1 h2 => by
  unfold m_put
  refine fn_v (N := 18) (body := c_put) (ss := [.v ((yP5 yI (yT (yP2 yI yI)) (yT (yT yI)) (yT (yT yI)) (yT (yP3 (yP2 yI yI) (yP2 yI yI) yI))) x_drawing), .v ((yP2 yI yI) x_tie), .v ((yP3 (yO yI) (yT (yP3 yI yI yI)) (yO yI)) x_route)]) (.cons h0 (.cons h1 (.cons h2 .nil))) (by first | exact Nat.le_refl _ | exact Nat.zero_le _) ?_
  unfold c_put F_put
  exact (xb_push (xb_if (xt_not (xt_tst (xe_call2t ff_is_new (xe_var (t := (yP5 yI (yT (yP2 yI yI)) (yT (yT yI)) (yT (yT yI)) (yT (yP3 (yP2 yI yI) (yP2 yI yI) yI)))) (a := x_drawing) 0 rfl) (xe_var (t := (yP2 yI yI)) (a := x_tie) 1 rfl)))) (xb_skip (ends_rs 3) (xb_raise 3))
  (xb_nil (xb_push (xb_if (xt_not (xt_tst (xe_call3t ff_is_route (xe_var (t := (yP5 yI (yT (yP2 yI yI)) (yT (yT yI)) (yT (yT yI)) (yT (yP3 (yP2 yI yI) (yP2 yI yI) yI)))) (a := x_drawing) 0 rfl) (xe_var (t := (yP2 yI yI)) (a := x_tie) 1 rfl) (xe_var (t := (yP3 (yO yI) (yT (yP3 yI yI yI)) (yO yI))) (a := x_route) 2 rfl)))) (xb_skip (ends_rs 7) (xb_raise 7))
  (xb_nil xb_badA))))))
noncomputable def F_number_read (x_word : Str) : R (Option Int) :=
  (R.bind (R.bind (eqS x_word ("" : Str)) fun b => if b = true then .ok true else (R.bind (.bad : R Bool) fun b => if b = true then .ok true else (.bad : R Bool))) fun b_120 => if b_120 = true then (R.ok (none : Option Int)) else
  .bad)
theorem ff_number_read : ∀ (x_word : Str) d0 S, vP yS x_word d0 S → Out S (vP (yO yI)) (F_number_read x_word) (m_number_read [d0] S) := fun x_word d0 S h0 => by
  unfold m_number_read
  refine fn_v (N := 2) (body := c_number_read) (ss := [.v (yS x_word)]) (.cons h0 .nil) (by first | exact Nat.le_refl _ | exact Nat.zero_le _) ?_
  unfold c_number_read F_number_read
  exact (xb_push (xb_if (xt_or (xt_tst (xe_e2t op_eqS (xe_var (t := yS) (a := x_word) 0 rfl) (xe_c (t := yS) "" rfl))) (xt_or xt_badA xt_badA)) (xb_skip (ends_ret _) (xb_ret (xe_c (t := (yO yI)) none rfl)))
  (xb_nil xb_badA)))
noncomputable def F_read (x_text : Str) : R (Int × (List (Int × Int)) × (List (List Int)) × (List (List Int)) × (List ((Int × Int) × (Int × Int) × Int))) :=
  (R.bind (R.ok (!true)) fun b_127 => if b_127 = true then (.err 8) else
  (R.bind (R.bind (R.ok x_text) fun a_122 => R.bind (R.ok ("\n" : Str)) fun b_122 => splitR a_122 b_122) fun x_rows_121 =>
  (R.bind (R.bind (R.bind (ixR x_rows_121 (0 : Int)) fun x => slTR x (some (7 : Int)) (none : Option Int)) fun y0_124 => F_number_read y0_124) fun x_n_123 =>
  (R.bind (R.bind (R.bind (R.bind (ixR x_rows_121 (0 : Int)) fun x => slTR x (none : Option Int) (some (7 : Int))) fun ya_125 => R.bind (R.ok ("places " : Str)) fun yb_125 => ((eqS ya_125 yb_125).bind fun c => .ok (!c))) fun b => if b = true then .ok true else (R.bind (R.ok x_n_123.isNone) fun b => if b = true then .ok true else (.bad : R Bool))) fun b_126 => if b_126 = true then (.err 8) else
  .bad))))
theorem ff_read : ∀ (x_text : Str) d0 S, vP yS x_text d0 S → Out S (vP (yP5 yI (yT (yP2 yI yI)) (yT (yT yI)) (yT (yT yI)) (yT (yP3 (yP2 yI yI) (yP2 yI yI) yI)))) (F_read x_text) (m_read [d0] S) := fun x_text d0 S h0 => by
  unfold m_read
  refine fn_v (N := 6) (body := c_read) (ss := [.v (yS x_text)]) (.cons h0 .nil) (by first | exact Nat.le_refl _ | exact Nat.zero_le _) ?_
  unfold c_read F_read
  exact (xb_push (xb_if (xt_not (xt_tst (xe_isit (b := true) (fun a d S h => by cases h; exact ⟨_, rfl, rfl⟩) (xe_var (t := yS) (a := x_text) 0 rfl)))) (xb_skip (ends_rs 8) (xb_raise 8))
  (xb_nil (xb_seq (xn_asg 1 (xe_spl (xe_var (t := yS) (a := x_text) 0 rfl) (xe_c (t := yS) "\n" rfl))) fun x_rows_121 =>
  (xb_seq (xn_asg 2 (xe_call1 ff_number_read (xe_slTk (some (7 : Int)) (none : Option Int) (fun _ _ => rfl) (fun _ _ => rfl) (xe_e2t op_ix' (XE.asL (xe_var (t := (yL yS)) (a := x_rows_121) 1 rfl)) (xe_c (t := yI) (0) rfl))))) fun x_n_123 =>
  (xb_push (xb_if (xt_or (xt_tst (xe_e2 op_neS (xe_slTk (none : Option Int) (some (7 : Int)) (fun _ _ => rfl) (fun _ _ => rfl) (xe_e2t op_ix' (XE.asL (xe_var (t := (yL yS)) (a := x_rows_121) 1 rfl)) (xe_c (t := yI) (0) rfl))) (xe_c (t := yS) "places " rfl))) (xt_or (xt_tst (xe_krt (op_isN (by intro _ h; cases h)) (xe_var (t := (yO yI)) (a := x_n_123) 2 rfl))) xt_badA)) (xb_skip (ends_rs 8) (xb_raise 8))
  (xb_nil xb_badA))))))))
noncomputable def F_law_bare (x_law_n : Int) : R (Int × (List (Int × Int)) × (List (List Int)) × (List (List Int)) × (List ((Int × Int) × (Int × Int) × Int))) :=
  (R.bind (R.ok x_law_n) fun y0_128 => R.bind (R.ok ([] : List (Int × Int))) fun y1_128 => R.bind (mulT [([] : List Int)] x_law_n) fun y2_128 => R.bind (R.ok ([] : List (List Int))) fun y3_128 => R.bind (R.ok ([] : List ((Int × Int) × (Int × Int) × Int))) fun y4_128 => .ok (y0_128, y1_128, y2_128, y3_128, y4_128))
theorem ff_law_bare : ∀ (x_law_n : Int) d0 S, vP yI x_law_n d0 S → Out S (vP (yP5 yI (yT (yP2 yI yI)) (yT (yT yI)) (yT (yT yI)) (yT (yP3 (yP2 yI yI) (yP2 yI yI) yI)))) (F_law_bare x_law_n) (m_law_bare [d0] S) := fun x_law_n d0 S h0 => by
  unfold m_law_bare
  refine fn_v (N := 1) (body := c_law_bare) (ss := [.v (yI x_law_n)]) (.cons h0 .nil) (by first | exact Nat.le_refl _ | exact Nat.zero_le _) ?_
  unfold c_law_bare F_law_bare
  exact (xb_ret (xe_P5 (xe_var (t := yI) (a := x_law_n) 0 rfl) (xe_T0 (t := (yP2 yI yI))) (xe_e2t op_mulTt (xe_T1t (xe_T0 (t := yI))) (xe_var (t := yI) (a := x_law_n) 0 rfl)) (xe_T0 (t := (yT yI))) (xe_T0 (t := (yP3 (yP2 yI yI) (yP2 yI yI) yI)))))
noncomputable def F_law_drawn (x_law_way : Int) (x_law_n : Int) : R (Int × (List (Int × Int)) × (List (List Int)) × (List (List Int)) × (List ((Int × Int) × (Int × Int) × Int))) :=
  (R.bind (R.ok (decide (x_law_way = (0 : Int)))) fun b_138 => if b_138 = true then (R.bind (R.bind (F_law_bare x_law_n) fun p => .ok (p.1, p.2.1, p.2.2.1, p.2.2.2.1)) fun y0_129 => F_plain y0_129) else
  (R.bind (R.ok (decide (x_law_way = (1 : Int)))) fun b_137 => if b_137 = true then (R.bind (F_law_bare x_law_n) fun y0_130 => R.bind (R.ok (((0 : Int), (1 : Int)), ((0 : Int), (2 : Int)), (-(1 : Int)), (0 : Int))) fun y1_130 => F_loosened y0_130 y1_130) else
  (R.bind (R.ok (decide (x_law_way = (3 : Int)))) fun b_136 => if b_136 = true then (R.bind (F_web x_law_n ([] : List (Int × Int))) fun y0_131 => R.bind (mulT1 [((0 : Int), (0 : Int))] (x_law_n - (1 : Int))) fun y1_131 => F_straight y0_131 y1_131) else
  (R.bind (R.ok (decide (x_law_way = (4 : Int)))) fun b_135 => if b_135 = true then (R.bind (F_law_bare x_law_n) fun y0_132 => R.bind (R.ok ((0 : Int), (1 : Int))) fun y1_132 => R.bind (R.ok ((none : Option Int), ([] : List (Int × Int × Int)), (some (0 : Int)))) fun y2_132 => F_put y0_132 y1_132 y2_132) else
  (R.bind (R.ok (decide (x_law_way = (5 : Int)))) fun b_134 => if b_134 = true then F_read ("places" : Str) else
  (R.bind (F_law_bare x_law_n) fun y0_133 => R.bind (R.ok ((0 : Int), (1 : Int))) fun y1_133 => F_without y0_133 y1_133))))))
theorem ff_law_drawn : ∀ (x_law_way : Int) (x_law_n : Int) d0 d1 S, vP yI x_law_way d0 S → vP yI x_law_n d1 S → Out S (vP (yP5 yI (yT (yP2 yI yI)) (yT (yT yI)) (yT (yT yI)) (yT (yP3 (yP2 yI yI) (yP2 yI yI) yI)))) (F_law_drawn x_law_way x_law_n) (m_law_drawn [d0, d1] S) := fun x_law_way x_law_n d0 d1 S h0 h1 => by
  unfold m_law_drawn
  refine fn_v (N := 2) (body := c_law_drawn) (ss := [.v (yI x_law_way), .v (yI x_law_n)]) (.cons h0 (.cons h1 .nil)) (by first | exact Nat.le_refl _ | exact Nat.zero_le _) ?_
  unfold c_law_drawn F_law_drawn
  exact (xb_push (xb_if (xt_tst (xe_e2t op_eqI (xe_var (t := yI) (a := x_law_way) 0 rfl) (xe_c (t := yI) (0) rfl))) (xb_skip (ends_ret _) (xb_ret (xe_call1 ff_plain (sl54 (xe_call1t ff_law_bare (xe_var (t := yI) (a := x_law_n) 1 rfl))))))
  (xb_nil (xb_push (xb_if (xt_tst (xe_e2t op_eqI (xe_var (t := yI) (a := x_law_way) 0 rfl) (xe_c (t := yI) (1) rfl))) (xb_skip (ends_ret _) (xb_ret (xe_call2 ff_loosened (xe_call1t ff_law_bare (xe_var (t := yI) (a := x_law_n) 1 rfl)) (xe_P4t (xe_P2t (xe_c (t := yI) (0) rfl) (xe_c (t := yI) (1) rfl)) (xe_P2t (xe_c (t := yI) (0) rfl) (xe_c (t := yI) (2) rfl)) (xe_e1t op_neg' (xe_c (t := yI) (1) rfl)) (xe_c (t := yI) (0) rfl)))))
  (xb_nil (xb_push (xb_if (xt_tst (xe_e2t op_eqI (xe_var (t := yI) (a := x_law_way) 0 rfl) (xe_c (t := yI) (3) rfl))) (xb_skip (ends_ret _) (xb_ret (xe_call2 ff_straight (xe_call2t ff_web (xe_var (t := yI) (a := x_law_n) 1 rfl) (xe_T0 (t := (yP2 yI yI)))) (xe_e2t op_mulT1t (xe_T1t (xe_P2t (xe_c (t := yI) (0) rfl) (xe_c (t := yI) (0) rfl))) (xe_e2t op_sub' (xe_var (t := yI) (a := x_law_n) 1 rfl) (xe_c (t := yI) (1) rfl))))))
  (xb_nil (xb_push (xb_if (xt_tst (xe_e2t op_eqI (xe_var (t := yI) (a := x_law_way) 0 rfl) (xe_c (t := yI) (4) rfl))) (xb_skip (ends_ret _) (xb_ret (xe_call3 ff_put (xe_call1t ff_law_bare (xe_var (t := yI) (a := x_law_n) 1 rfl)) (xe_P2t (xe_c (t := yI) (0) rfl) (xe_c (t := yI) (1) rfl)) (xe_P3t (xe_c (t := (yO yI)) none rfl) (xe_T0 (t := (yP3 yI yI yI))) (XE.conv (xe_c (t := yI) (0) rfl) (fun p => some p) (fun p d S h => h))))))
  (xb_nil (xb_push (xb_if (xt_tst (xe_e2t op_eqI (xe_var (t := yI) (a := x_law_way) 0 rfl) (xe_c (t := yI) (5) rfl))) (xb_skip (ends_ret _) (xb_ret (xe_call1t ff_read (xe_c (t := yS) "places" rfl))))
  (xb_nil (xb_ret (xe_call2 ff_without (xe_call1t ff_law_bare (xe_var (t := yI) (a := x_law_n) 1 rfl)) (xe_P2t (xe_c (t := yI) (0) rfl) (xe_c (t := yI) (1) rfl)))))))))))))))))))
noncomputable def F_law_kinds (x_law_e : Nat) : R (List Bool) :=
  (R.bind (R.bind (oR (isQ isx ((yX cn) x_law_e) (.cl "NoDrawing"))) fun y0_140 => R.bind (oR (isQ isx ((yX cn) x_law_e) (.cl "NoLens"))) fun y1_140 => R.bind (oR (isQ isx ((yX cn) x_law_e) (.cl "NoOrder"))) fun y2_140 => R.bind (oR (isQ isx ((yX cn) x_law_e) (.cl "NoPoints"))) fun y3_140 => .ok [y0_140, y1_140, y2_140, y3_140]) fun x_law_kinds_here_139 =>
  (R.bind (R.bind (R.ok x_law_kinds_here_139) fun ya_143 => R.bind (R.bind (oR (isQ isx ((yX cn) x_law_e) (.cl "NoRoute"))) fun y0_142 => R.bind (oR (isQ isx ((yX cn) x_law_e) (.cl "NoText"))) fun y1_142 => R.bind (oR (isQ isx ((yX cn) x_law_e) (.cl "NoTie"))) fun y2_142 => R.bind (oR (isQ isx ((yX cn) x_law_e) (.cl "NoWeb"))) fun y3_142 => .ok [y0_142, y1_142, y2_142, y3_142]) fun yb_143 => catR ya_143 yb_143) fun x_law_kinds_here_141 =>
  (R.bind (R.bind (R.ok x_law_kinds_here_141) fun ya_146 => R.bind (R.bind (oR (isQ isx ((yX cn) x_law_e) (.cl "TooMany"))) fun y0_145 => R.bind (R.bind (oR (isQ isx ((yX cn) x_law_e) (.ty "ValueError"))) fun b => .ok (!b)) fun y1_145 => .ok [y0_145, y1_145]) fun yb_146 => catR ya_146 yb_146) fun x_law_kinds_here_144 =>
  (R.bind (R.ok x_law_kinds_here_144) fun ya_148 => R.bind (R.bind (oR (isQ isx ((yX cn) x_law_e) (.ty "LookupError"))) fun y0_147 => R.bind (oR (isQ isx ((yX cn) x_law_e) (.ty "ArithmeticError"))) fun y1_147 => R.bind (oR (isQ isx ((yX cn) x_law_e) (.ty "TypeError"))) fun y2_147 => .ok [y0_147, y1_147, y2_147]) fun yb_148 => catR ya_148 yb_148))))
theorem ff_law_kinds : ∀ (x_law_e : Nat) d0 S, vP (yX cn) x_law_e d0 S → Out S (vP (yL yB)) (F_law_kinds x_law_e) (m_law_kinds [d0] S) := fun x_law_e d0 S h0 => by
  unfold m_law_kinds
  refine fn_L (N := 2) (body := c_law_kinds) (ss := [.v ((yX cn) x_law_e)]) (.cons h0 .nil) (by first | exact Nat.le_refl _ | exact Nat.zero_le _) ?_
  unfold c_law_kinds F_law_kinds
  exact (xb_seq (xn_asg 1 (xe_fz (xe_l4 (xe_B2t (bf_isX (t := (yX cn)) isx (.cl "NoDrawing")) (xe_var (t := (yX cn)) (a := x_law_e) 0 rfl) (xe_cl (.cl "NoDrawing"))) (xe_B2t (bf_isX (t := (yX cn)) isx (.cl "NoLens")) (xe_var (t := (yX cn)) (a := x_law_e) 0 rfl) (xe_cl (.cl "NoLens"))) (xe_B2t (bf_isX (t := (yX cn)) isx (.cl "NoOrder")) (xe_var (t := (yX cn)) (a := x_law_e) 0 rfl) (xe_cl (.cl "NoOrder"))) (xe_B2t (bf_isX (t := (yX cn)) isx (.cl "NoPoints")) (xe_var (t := (yX cn)) (a := x_law_e) 0 rfl) (xe_cl (.cl "NoPoints")))))) fun x_law_kinds_here_139 =>
  (xb_seq (xn_asg 1 (xe_e2 op_catL (XE.conv (xe_var (t := (yL yB)) (a := x_law_kinds_here_139) 1 rfl) (fun l => l) lQ_L rfl) (XE.conv (xe_fz (xe_l4 (xe_B2t (bf_isX (t := (yX cn)) isx (.cl "NoRoute")) (xe_var (t := (yX cn)) (a := x_law_e) 0 rfl) (xe_cl (.cl "NoRoute"))) (xe_B2t (bf_isX (t := (yX cn)) isx (.cl "NoText")) (xe_var (t := (yX cn)) (a := x_law_e) 0 rfl) (xe_cl (.cl "NoText"))) (xe_B2t (bf_isX (t := (yX cn)) isx (.cl "NoTie")) (xe_var (t := (yX cn)) (a := x_law_e) 0 rfl) (xe_cl (.cl "NoTie"))) (xe_B2t (bf_isX (t := (yX cn)) isx (.cl "NoWeb")) (xe_var (t := (yX cn)) (a := x_law_e) 0 rfl) (xe_cl (.cl "NoWeb"))))) (fun l => l) lQ_L (bind_ret _)))) fun x_law_kinds_here_141 =>
  (xb_seq (xn_asg 1 (xe_e2 op_catL (XE.conv (xe_var (t := (yL yB)) (a := x_law_kinds_here_141) 1 rfl) (fun l => l) lQ_L rfl) (XE.conv (xe_fz (xe_l2 (xe_B2t (bf_isX (t := (yX cn)) isx (.cl "TooMany")) (xe_var (t := (yX cn)) (a := x_law_e) 0 rfl) (xe_cl (.cl "TooMany"))) (xe_not (xe_B2t (bf_isX (t := (yX cn)) isx (.ty "ValueError")) (xe_var (t := (yX cn)) (a := x_law_e) 0 rfl) (xe_cl (.ty "ValueError")))))) (fun l => l) lQ_L (bind_ret _)))) fun x_law_kinds_here_144 =>
  (xb_retL (xe_e2 op_catL (XE.conv (xe_var (t := (yL yB)) (a := x_law_kinds_here_144) 1 rfl) (fun l => l) lQ_L rfl) (XE.conv (xe_fz (xe_l3 (xe_B2t (bf_isX (t := (yX cn)) isx (.ty "LookupError")) (xe_var (t := (yX cn)) (a := x_law_e) 0 rfl) (xe_cl (.ty "LookupError"))) (xe_B2t (bf_isX (t := (yX cn)) isx (.ty "ArithmeticError")) (xe_var (t := (yX cn)) (a := x_law_e) 0 rfl) (xe_cl (.ty "ArithmeticError"))) (xe_B2t (bf_isX (t := (yX cn)) isx (.ty "TypeError")) (xe_var (t := (yX cn)) (a := x_law_e) 0 rfl) (xe_cl (.ty "TypeError"))))) (fun l => l) lQ_L (bind_ret _)))))))
noncomputable def F_law_right (x_law_way : Int) (x_law_n : Int) : R Bool :=
  (R.bind (R.ok ([] : List Bool)) fun x_law_kinds_here_149 =>
  (R.bind (tryR ct_CrossError (R.bind (R.ok (memB x_law_way [(2 : Int), (7 : Int), (8 : Int)])) fun x => if x = true then (R.bind (F_law_other x_law_way x_law_n) fun _ => .ok ()) else (R.bind (F_law_drawn x_law_way x_law_n) fun _ => .ok ())) (fun _ => .ok x_law_kinds_here_149) (fun c_150 => (R.bind (F_law_kinds c_150) fun x_law_kinds_here_152 => .ok x_law_kinds_here_152))) fun s_153 =>
  (R.bind (R.bind (rng1R (s_153.length : Int)) fun l => compB (fun x_i_154 => ixR s_153 x_i_154) (fun x_i_154 => (R.ok x_i_154)) l) fun ya_155 => R.bind (R.ok [x_law_way]) fun yb_155 => .ok (decide (ya_155 = yb_155)))))
theorem ff_law_right : ∀ (x_law_way : Int) (x_law_n : Int) d0 d1 S, vP yI x_law_way d0 S → vP yI x_law_n d1 S → Out S (vP yB) (F_law_right x_law_way x_law_n) (m_law_right [d0, d1] S) := fun x_law_way x_law_n d0 d1 S h0 h1 => by
  unfold m_law_right
  refine fn_v (N := 5) (body := c_law_right) (ss := [.v (yI x_law_way), .v (yI x_law_n)]) (.cons h0 (.cons h1 .nil)) (by first | exact Nat.le_refl _ | exact Nat.zero_le _) ?_
  unfold c_law_right F_law_right
  exact (xb_seq (xn_asg 2 (xe_fz (xe_l0 (t := yB)))) fun x_law_kinds_here_149 =>
  (xb_seq (xn_cl [3] (xn_tryIfE (E := (fun s : ((List Bool)) => ([.v (yI x_law_way), .v (yI x_law_n), .v ((yL yB) s), .u, .u] : List Sl))) (cn := cn) 3 (xt_tst (xe_e2t op_in' (xe_var (t := yI) (a := x_law_way) 0 rfl) (XE.asT (xe_T3t (xe_c (t := yI) (2) rfl) (xe_c (t := yI) (7) rfl) (xe_c (t := yI) (8) rfl))))) (xe_call2t ff_law_other (xe_var (t := yI) (a := x_law_way) 0 rfl) (xe_var (t := yI) (a := x_law_n) 1 rfl)) (xe_call2t ff_law_drawn (xe_var (t := yI) (a := x_law_way) 0 rfl) (xe_var (t := yI) (a := x_law_n) 1 rfl)) (xn_nild x_law_kinds_here_149 [] rfl) (fun c_150 => (xn_end (fun x_law_kinds_here_152 => x_law_kinds_here_152) [3] (xn_asg 2 (xe_call1t ff_law_kinds (xe_var (t := (yX cn)) (a := c_150) 3 rfl))) (fun _ => rfl))) (fun _ => rfl))) fun s_153 =>
  (xb_ret (xe_e2 op_eq' (xe_fz (xe_comp (XE.toP (xi_r1t (n := (s_153.length : Int)) (xe_B1t bf_len (XE.asL (xe_var (t := (yL yB)) (a := s_153) 2 rfl))))) (xp_name 4) (fun x_i_154 => (xt_tst (xe_e2t op_ix' (XE.asL (xe_var (t := (yL yB)) (a := s_153) 2 rfl)) (xe_var (t := yI) (a := x_i_154) 4 rfl)))) fun x_i_154 => (xe_var (t := yI) (a := x_i_154) 4 rfl))) (xe_fz (xe_l1t (xe_var (t := yI) (a := x_law_way) 0 rfl)))))))
noncomputable def F_law (x_law_script : (List Int)) : R Bool :=
  (R.bind (R.bind (R.ok (cutL x_law_script none (some (12 : Int)))) fun l_160 => forL (fun (s_156 : Unit) (x_158 : Int) =>
  (R.bind (R.bind (F_law_right (x_158 % 9) ((2 : Int) + ((x_158 / 9) % 4))) fun b => .ok (!b)) fun b_159 => if b_159 = true then (.ok (.out false)) else
  (.ok (.go ())))) l_160 ()) fun r_161 => Lp.fin r_161 fun s_157 =>
  (R.bind (compB (fun x_i_162 => (R.bind (F_law_right x_i_162 (2 : Int)) fun b => .ok (!b))) (fun x_i_162 => (R.ok x_i_162)) (rng1 (9 : Int))) fun ya_163 => R.bind (R.ok ([] : List Int)) fun yb_163 => .ok (decide (ya_163 = yb_163))))
theorem ff_law : ∀ (x_law_script : (List Int)) d0 S, vP (yF yI) x_law_script d0 S → Out S (vP yB) (F_law x_law_script) (m_law [d0] S) := fun x_law_script d0 S h0 => by
  unfold m_law
  refine fn_v (N := 3) (body := c_law) (ss := [.v ((yF yI) x_law_script)]) (.cons h0 .nil) (by first | exact Nat.le_refl _ | exact Nat.zero_le _) ?_
  unfold c_law F_law
  exact (xb_seqL (xl_for (E := (fun s : Unit => ([.v ((yF yI) x_law_script), .u, .u] : List Sl))) (E2 := (fun s : Unit => ([.v ((yF yI) x_law_script), .u, .u] : List Sl))) () (xi_L (xe_slL (XE.asF (xe_var (t := (yF yI)) (a := x_law_script) 0 rfl)) xo_none (xo_some (xe_c (t := yI) (12) rfl)))) rfl (fun s_156 => (xp_name 1)) (fun s_156 x_158 =>
  (xl_if (xt_not (xt_tst (xe_call2t ff_law_right (xe_krt (op_modc (9) (by decide)) (xe_var (t := yI) (a := x_158) 1 rfl)) (xe_e2t op_add (xe_c (t := yI) (2) rfl) (xe_krt (op_modc (4) (by decide)) (xe_krt (op_fdivc (9) (by decide)) (xe_var (t := yI) (a := x_158) 1 rfl))))))) (xl_ret (xe_c (t := yB) false rfl))
  (xl_god () [1] rfl))) (fun _ => rfl)) fun s_157 =>
  (xb_ret (xe_e2 op_eq' (xe_fz (xe_comp (XE.toP (xi_r1k (xe_c (t := yI) (9) rfl) (by decide))) (xp_name 2) (fun x_i_162 => (xt_not (xt_tst (xe_call2t ff_law_right (xe_var (t := yI) (a := x_i_162) 2 rfl) (xe_c (t := yI) (2) rfl))))) fun x_i_162 => (xe_var (t := yI) (a := x_i_162) 2 rfl))) (xe_fz (xe_l0 (t := yI))))))
def isOkT : R Bool → Bool
  | .ok true => true
  | _ => false
theorem isOk_eq {r : R Bool} (h : isOkT r = true) : r = .ok true := by
  match r, h with
  | .ok true, _ => rfl
def isErr {α : Type} (c : Nat) : R α → Bool
  | .err k => decide (k = c)
  | _ => false
theorem isErr_eq {α : Type} {c : Nat} {r : R α} (h : isErr c r = true) : r = .err c := by
  match r, h with
  | .err k, h => rw [of_decide_eq_true h]
theorem sS0 : sSR ((yL (yP2 yI yI)) []) = .ok [] := by
  rw [sSR_of (ds := []) (xs := []) rfl rfl (by decide) rfl]
  unfold sortU
  rw [show dedP [] = [] from rfl, List.mergeSort_nil]
theorem sS1 : sSR (yA (toA (yP1 (yP2 yI yI)) (((0 : Int), (1 : Int))))) = .ok [(0, 1)] := by
  rw [sSR_of (ds := [pD (0, 1)]) (xs := [(0, 1)]) (by with_unfolding_all rfl) (by with_unfolding_all rfl) (by decide) (by decide +kernel)]
  unfold sortU
  rw [show dedP [((0 : Int), (1 : Int))] = [(0, 1)] from rfl, List.mergeSort_singleton]
def nG (n : Int) : Prop := n = 2 ∨ n = 3 ∨ n = 4 ∨ n = 5
theorem web0 {n : Int} (h : nG n) : F_web n [] = .ok (n, []) := by
  have : F_web n [] = R.bind (sSR ((yL (yP2 yI yI)) [])) fun ts => if decide ((18 : Int) < (ts.length : Int)) = true then .err 2 else .ok (n, ts) := by
    rcases h with rfl | rfl | rfl | rfl <;> with_unfolding_all rfl
  rw [this, sS0]
  rfl
theorem web5 {n : Int} (h : nG n) : F_web (n + 5) [] = .ok (n + 5, []) := by
  have : F_web (n + 5) [] = R.bind (sSR ((yL (yP2 yI yI)) [])) fun ts => if decide ((18 : Int) < (ts.length : Int)) = true then .err 2 else .ok (n + 5, ts) := by
    rcases h with rfl | rfl | rfl | rfl <;> with_unfolding_all rfl
  rw [this, sS0]
  rfl
theorem two1 {n : Int} (h : nG n) : F_two (toA yI n) (toA yI n) (toA (yP1 (yP2 yI yI)) (((0 : Int), (1 : Int)))) = .ok (n, n, [(0, 1)]) := by
  have : F_two (toA yI n) (toA yI n) (toA (yP1 (yP2 yI yI)) (((0 : Int), (1 : Int)))) = R.bind (sSR (yA (toA (yP1 (yP2 yI yI)) (((0 : Int), (1 : Int)))))) fun ts => if decide ((18 : Int) < (ts.length : Int)) = true then .err 2 else .ok (n, n, ts) := by
    rcases h with rfl | rfl | rfl | rfl <;> with_unfolding_all rfl
  rw [this, sS1]
  rfl
theorem rng_srt (n : Int) : sortR leI (rng1 n) = if (rng1 n).length ≤ 1000000 then .ok (rng1 n) else .bad := by
  unfold sortR
  rw [List.mergeSort_of_pairwise]
  · rfl
  · unfold rng1
    rw [List.pairwise_map]
    refine List.Pairwise.imp ?_ List.pairwise_lt_range
    intro a b h
    exact decide_eq_true (by omega)
theorem ord_at {l : List Int} {n : Int} (hw : compB (fun _ => .ok true) (fun x => F_is_whole (toA yI x)) l = .ok (l.map fun _ => true)) : F_is_order l n = R.bind (sortR leI l) fun a => R.bind (lrR n) fun b => .ok (decide (a = b)) := by
  unfold F_is_order
  simp only [R.okb, R.assoc, Bool.not_true]
  rw [if_neg (by decide), bd hw]
  rw [show ((l.map fun _ => true).all id) = true from by simp]
  rfl
theorem wholes {l : List Int} (hl : l.length ≤ 1000000) : compB (fun _ => .ok true) (fun x => F_is_whole (toA yI x)) l = .ok (l.map fun _ => true) := by
  have := compB_ok (fc := fun _ => .ok true) (fe := fun x => F_is_whole (toA yI x)) (fun _ => true) (fun _ => true) (l := l) hl (fun x _ => rfl) (fun x _ _ => by
    unfold F_is_whole
    rfl)
  rw [this, List.filter_eq_self.mpr (fun _ _ => rfl)]
theorem other2 {n : Int} (h : nG n) : F_law_other 2 n = .err 1 := by
  unfold nG at h
  unfold F_law_other
  rw [R.okb, decide_eq_true rfl, if_pos rfl]
  simp only [R.assoc, R.okb]
  have e : ∀ k : Int, 0 ≤ k → k ≤ 5 → lrR k = .ok (rng1 k) := fun k h0 h1 => lrR_ok (by omega) (by omega)
  have l : ∀ k : Int, k ≤ 5 → (rng1 k).length ≤ 1000000 := fun k hk => by rw [rng1_len]; omega
  rw [bd (two1 h), bd (e n (by omega) (by omega)), bd (e (n - 1) (by omega) (by omega))]
  unfold F_crossed_rows F_both_looked_at F_upper_looked_at
  simp only [R.assoc, R.okb]
  rw [ord_at (wholes (l n (by omega))), rng_srt, if_pos (l n (by omega)), R.okb, bd (e n (by omega) (by omega)), R.okb, decide_eq_true rfl]
  simp only [Bool.not_true, Bool.false_eq_true, if_false, R.okb]
  rw [ord_at (wholes (l (n - 1) (by omega))), rng_srt, if_pos (l (n - 1) (by omega)), R.okb, bd (e n (by omega) (by omega)), R.okb, decide_eq_false (fun z => by
    have := congrArg List.length z
    rw [rng1_len, rng1_len] at this
    omega)]
  rfl
theorem other8 {n : Int} (h : nG n) : F_law_other 8 n = .err 0 := by
  unfold F_law_other
  rw [R.okb, decide_eq_false (by omega), if_neg (by decide), R.okb, decide_eq_false (by omega), if_neg (by decide)]
  simp only [R.assoc, R.okb]
  rw [bd (web5 h)]
  unfold F_must F_looked_at_must
  rw [R.okb, decide_eq_true (by unfold nG at h; show (6 : Int) < n + 5; omega), if_pos rfl]
  rfl
theorem drawn3 {n : Int} (h : nG n) : F_law_drawn 3 n = .err 6 := by
  unfold F_law_drawn
  rw [R.okb, decide_eq_false (by omega), if_neg (by decide), R.okb, decide_eq_false (by omega), if_neg (by decide), R.okb, decide_eq_true rfl, if_pos rfl, bd (web0 h)]
  rcases h with rfl | rfl | rfl | rfl <;> exact isErr_eq (by decide +kernel)
theorem right_o {w n : Int} {c : Nat} (hw : memB w [(2 : Int), (7 : Int), (8 : Int)] = true) (h : F_law_other w n = .err c) : F_law_right w n = (R.bind (R.bind (R.ok ([] : List Bool)) fun k => tryR ct_CrossError (R.err c) (fun _ : Unit => .ok k) (fun c_148 => F_law_kinds c_148)) fun s_151 =>
  (R.bind (R.bind (rng1R (s_151.length : Int)) fun l => compB (fun x_i_152 => ixR s_151 x_i_152) (fun x_i_152 => (R.ok x_i_152)) l) fun ya_153 => R.bind (R.ok [w]) fun yb_153 => .ok (decide (ya_153 = yb_153)))) := by
  unfold F_law_right
  simp only [R.okb, R.ret]
  rw [hw, if_pos rfl, h]
  rfl
theorem right_d {w n : Int} {c : Nat} (hw : memB w [(2 : Int), (7 : Int), (8 : Int)] = false) (h : F_law_drawn w n = .err c) : F_law_right w n = (R.bind (R.bind (R.ok ([] : List Bool)) fun k => tryR ct_CrossError (R.err c) (fun _ : Unit => .ok k) (fun c_148 => F_law_kinds c_148)) fun s_151 =>
  (R.bind (R.bind (rng1R (s_151.length : Int)) fun l => compB (fun x_i_152 => ixR s_151 x_i_152) (fun x_i_152 => (R.ok x_i_152)) l) fun ya_153 => R.bind (R.ok [w]) fun yb_153 => .ok (decide (ya_153 = yb_153)))) := by
  unfold F_law_right
  simp only [R.okb, R.ret]
  rw [hw, if_neg (by decide), h]
  rfl
theorem read5 : F_read ("places" : Str) = .err 8 := by
  exact isErr_eq (by decide +kernel)
theorem drawn5 {n : Int} : F_law_drawn 5 n = .err 8 := by
  unfold F_law_drawn
  rw [R.okb, decide_eq_false (by omega), if_neg (by decide), R.okb, decide_eq_false (by omega), if_neg (by decide), R.okb, decide_eq_false (by omega), if_neg (by decide), R.okb, decide_eq_false (by omega), if_neg (by decide), R.okb, decide_eq_true rfl, if_pos rfl]
  exact read5
theorem right_all : ([0, 1, 4, 6, 7] : List Int).all (fun w => ([2, 3, 4, 5] : List Int).all fun n => isOkT (F_law_right w n)) = true := by decide +kernel
theorem right_n {w n : Int} (h0 : 0 ≤ w) (h1 : w < 9) (h : nG n) : F_law_right w n = .ok true := by
  have hn : n ∈ ([2, 3, 4, 5] : List Int) := by unfold nG at h; simpa using h
  have gen : w ∈ ([0, 1, 4, 6, 7] : List Int) → F_law_right w n = .ok true := fun hw => isOk_eq (List.all_eq_true.mp (List.all_eq_true.mp right_all w hw) n hn)
  have : w = 0 ∨ w = 1 ∨ w = 2 ∨ w = 3 ∨ w = 4 ∨ w = 5 ∨ w = 6 ∨ w = 7 ∨ w = 8 := by omega
  rcases this with rfl | rfl | rfl | rfl | rfl | rfl | rfl | rfl | rfl
  · exact gen (by decide)
  · exact gen (by decide)
  · rw [right_o (by decide) (other2 h)]; exact isOk_eq (by decide +kernel)
  · rw [right_d (by decide) (drawn3 h)]; exact isOk_eq (by decide +kernel)
  · exact gen (by decide)
  · rw [right_d (by decide) drawn5]; exact isOk_eq (by decide +kernel)
  · exact gen (by decide)
  · exact gen (by decide)
  · rw [right_o (by decide) (other8 h)]; exact isOk_eq (by decide +kernel)
theorem right_R {w n : Int} (h0 : 0 ≤ w) (h1 : w < 9) (h2 : 0 ≤ n) (h3 : n < 4) : F_law_right w (2 + n) = .ok true := right_n h0 h1 (by unfold nG; omega)
theorem F_true (ns : List Int) : F_law ns = .ok true := by
  unfold F_law
  simp only [R.okb]
  rw [show (forL (fun (s_154 : Unit) (x_156 : Int) => (R.bind (R.bind (F_law_right (x_156 % 9) ((2 : Int) + ((x_156 / 9) % 4))) fun b => .ok (!b)) fun b_157 => if b_157 = true then (R.ok (Lp.out false)) else (.ok (.go ())))) (cutL ns none (some (12 : Int))) ()) = .ok (.go ()) from forL_same _ fun x _ => by
    rw [right_R (Int.emod_nonneg _ (by omega)) (Int.emod_lt_of_pos _ (by omega)) (Int.emod_nonneg _ (by omega)) (Int.emod_lt_of_pos _ (by omega))]
    rfl]
  have e : compB (fun x_i_160 => (R.bind (F_law_right x_i_160 (2 : Int)) fun b => .ok (!b))) (fun x_i_160 => (R.ok x_i_160)) (rng1 (9 : Int)) = .ok [] := by
    have := compB_ok (fc := fun x_i_160 => (R.bind (F_law_right x_i_160 (2 : Int)) fun b => .ok (!b))) (fe := fun x_i_160 => (R.ok x_i_160)) (fun _ => false) (fun x => x) (l := rng1 (9 : Int)) (by rw [rng1_len]; decide) (fun x hx => by
      have := mem_rng1.mp hx
      rw [right_n this.1 this.2 (.inl rfl)]
      rfl) (fun x _ h => nomatch h)
    rw [this, List.filter_eq_nil_iff.mpr (by simp)]
    rfl
  rw [R.okb, e]
  rfl

theorem law_true (ns : List Int) : ∃ S', m_law [.fz (ns.map .int)] [] = .ok (.bl true) S' := by
  have h := ff_law ns (.fz (ns.map .int)) [] rfl
  rw [F_true ns] at h
  obtain ⟨d, h1, h2⟩ := h
  rw [show d = .bl true from h2] at h1
  exact ⟨[], h1⟩
theorem sp_law {K : PySem.W.Frag} {cA : Nat → Addr} {H : Hp} {a : Addr} {ns : List Int} {E : XK} (hO : Only H) (hS : SqL K H a (ns.map V.int)) : spF K cA 1 m_law [.ref a] H (fun v _ => v = .bl true) E := law_sp (law_true ns) hO hS

abbrev spL (K : PySem.W.Frag) : L2.Sp := spF K (cAK cn K) 1 m_law
theorem all_mk {l : PySem.W.OpenLaw} {w : World} {K : PySem.W.Frag} {h : Heap} {mg : Str → Option Value} {fa : Addr} (X : K.In h) (G : h.Ns mainGlobals mg) (hfa : mg "law" = some (.ref fa))
    {f0 : Addr} {od0 an0 : Option Addr} {sl0 : Array (Option Value)} {oc0 kV0 dc0 pm0 cd0 ct0 : Value}
    (a0 : PySem.W.nsIn K mainGlobals "looked_at_must" = some (some (.ref f0))) (l0 : K.lookup f0 = some ⟨oc0, od0, .func (PySem.W.fnOf "looked_at" "looked_at" (defArgs s_looked_at_must) (defBody s_looked_at_must) (defScope s_looked_at_must) .none kV0 dc0 pm0 an0 cd0 ct0), sl0⟩) (c0 : PySem.W.codeIn K cd0 "looked_at" = true) (k0 : PySem.W.keepIn K (.ref f0) = true)
    {f1 : Addr} {od1 an1 : Option Addr} {sl1 : Array (Option Value)} {oc1 kV1 dc1 pm1 cd1 ct1 : Value}
    (a1 : PySem.W.nsIn K mainGlobals "must" = some (some (.ref f1))) (l1 : K.lookup f1 = some ⟨oc1, od1, .func (PySem.W.fnOf "must" "must" (defArgs s_must) (defBody s_must) (defScope s_must) .none kV1 dc1 pm1 an1 cd1 ct1), sl1⟩) (c1 : PySem.W.codeIn K cd1 "must" = true) (k1 : PySem.W.keepIn K (.ref f1) = true)
    {f2 : Addr} {od2 an2 : Option Addr} {sl2 : Array (Option Value)} {oc2 kV2 dc2 pm2 cd2 ct2 : Value}
    (a2 : PySem.W.nsIn K mainGlobals "is_whole" = some (some (.ref f2))) (l2 : K.lookup f2 = some ⟨oc2, od2, .func (PySem.W.fnOf "is_whole" "is_whole" (defArgs s_is_whole) (defBody s_is_whole) (defScope s_is_whole) .none kV2 dc2 pm2 an2 cd2 ct2), sl2⟩) (c2 : PySem.W.codeIn K cd2 "is_whole" = true) (k2 : PySem.W.keepIn K (.ref f2) = true)
    {f3 : Addr} {od3 an3 : Option Addr} {sl3 : Array (Option Value)} {oc3 kV3 dc3 pm3 cd3 ct3 : Value}
    (a3 : PySem.W.nsIn K mainGlobals "is_order" = some (some (.ref f3))) (l3 : K.lookup f3 = some ⟨oc3, od3, .func (PySem.W.fnOf "is_order" "is_order" (defArgs s_is_order) (defBody s_is_order) (defScope s_is_order) .none kV3 dc3 pm3 an3 cd3 ct3), sl3⟩) (c3 : PySem.W.codeIn K cd3 "is_order" = true) (k3 : PySem.W.keepIn K (.ref f3) = true)
    {f4 : Addr} {od4 an4 : Option Addr} {sl4 : Array (Option Value)} {oc4 kV4 dc4 pm4 cd4 ct4 : Value}
    (a4 : PySem.W.nsIn K mainGlobals "upper_looked_at" = some (some (.ref f4))) (l4 : K.lookup f4 = some ⟨oc4, od4, .func (PySem.W.fnOf "upper_looked_at" "upper_looked_at" (defArgs s_upper_looked_at) (defBody s_upper_looked_at) (defScope s_upper_looked_at) .none kV4 dc4 pm4 an4 cd4 ct4), sl4⟩) (c4 : PySem.W.codeIn K cd4 "upper_looked_at" = true) (k4 : PySem.W.keepIn K (.ref f4) = true)
    {f5 : Addr} {od5 an5 : Option Addr} {sl5 : Array (Option Value)} {oc5 kV5 dc5 pm5 cd5 ct5 : Value}
    (a5 : PySem.W.nsIn K mainGlobals "both_looked_at" = some (some (.ref f5))) (l5 : K.lookup f5 = some ⟨oc5, od5, .func (PySem.W.fnOf "both_looked_at" "both_looked_at" (defArgs s_both_looked_at) (defBody s_both_looked_at) (defScope s_both_looked_at) .none kV5 dc5 pm5 an5 cd5 ct5), sl5⟩) (c5 : PySem.W.codeIn K cd5 "both_looked_at" = true) (k5 : PySem.W.keepIn K (.ref f5) = true)
    {f6 : Addr} {od6 an6 : Option Addr} {sl6 : Array (Option Value)} {oc6 kV6 dc6 pm6 cd6 ct6 : Value}
    (a6 : PySem.W.nsIn K mainGlobals "crossed_rows" = some (some (.ref f6))) (l6 : K.lookup f6 = some ⟨oc6, od6, .func (PySem.W.fnOf "crossed" "crossed" (defArgs s_crossed_rows) (defBody s_crossed_rows) (defScope s_crossed_rows) .none kV6 dc6 pm6 an6 cd6 ct6), sl6⟩) (c6 : PySem.W.codeIn K cd6 "crossed" = true) (k6 : PySem.W.keepIn K (.ref f6) = true)
    {f7 : Addr} {od7 an7 : Option Addr} {sl7 : Array (Option Value)} {oc7 kV7 dc7 pm7 cd7 ct7 : Value}
    (a7 : PySem.W.nsIn K mainGlobals "tie_of" = some (some (.ref f7))) (l7 : K.lookup f7 = some ⟨oc7, od7, .func (PySem.W.fnOf "tie_of" "tie_of" (defArgs s_tie_of) (defBody s_tie_of) (defScope s_tie_of) .none kV7 dc7 pm7 an7 cd7 ct7), sl7⟩) (c7 : PySem.W.codeIn K cd7 "tie_of" = true) (k7 : PySem.W.keepIn K (.ref f7) = true)
    {f8 : Addr} {od8 an8 : Option Addr} {sl8 : Array (Option Value)} {oc8 kV8 dc8 pm8 cd8 ct8 : Value}
    (a8 : PySem.W.nsIn K mainGlobals "web" = some (some (.ref f8))) (l8 : K.lookup f8 = some ⟨oc8, od8, .func (PySem.W.fnOf "web" "web" (defArgs s_web) (defBody s_web) (defScope s_web) .none kV8 dc8 pm8 an8 cd8 ct8), sl8⟩) (c8 : PySem.W.codeIn K cd8 "web" = true) (k8 : PySem.W.keepIn K (.ref f8) = true)
    {f9 : Addr} {od9 an9 : Option Addr} {sl9 : Array (Option Value)} {oc9 kV9 dc9 pm9 cd9 ct9 : Value}
    (a9 : PySem.W.nsIn K mainGlobals "is_tie" = some (some (.ref f9))) (l9 : K.lookup f9 = some ⟨oc9, od9, .func (PySem.W.fnOf "is_tie" "is_tie" (defArgs s_is_tie) (defBody s_is_tie) (defScope s_is_tie) .none kV9 dc9 pm9 an9 cd9 ct9), sl9⟩) (c9 : PySem.W.codeIn K cd9 "is_tie" = true) (k9 : PySem.W.keepIn K (.ref f9) = true)
    {f10 : Addr} {od10 an10 : Option Addr} {sl10 : Array (Option Value)} {oc10 kV10 dc10 pm10 cd10 ct10 : Value}
    (a10 : PySem.W.nsIn K mainGlobals "two" = some (some (.ref f10))) (l10 : K.lookup f10 = some ⟨oc10, od10, .func (PySem.W.fnOf "two" "two" (defArgs s_two) (defBody s_two) (defScope s_two) .none kV10 dc10 pm10 an10 cd10 ct10), sl10⟩) (c10 : PySem.W.codeIn K cd10 "two" = true) (k10 : PySem.W.keepIn K (.ref f10) = true)
    {f11 : Addr} {od11 an11 : Option Addr} {sl11 : Array (Option Value)} {oc11 kV11 dc11 pm11 cd11 ct11 : Value}
    (a11 : PySem.W.nsIn K mainGlobals "_law_other" = some (some (.ref f11))) (l11 : K.lookup f11 = some ⟨oc11, od11, .func (PySem.W.fnOf "_law_other" "_law_other" (defArgs s_law_other) (defBody s_law_other) (defScope s_law_other) .none kV11 dc11 pm11 an11 cd11 ct11), sl11⟩) (c11 : PySem.W.codeIn K cd11 "_law_other" = true) (k11 : PySem.W.keepIn K (.ref f11) = true)
    {f12 : Addr} {od12 an12 : Option Addr} {sl12 : Array (Option Value)} {oc12 kV12 dc12 pm12 cd12 ct12 : Value}
    (a12 : PySem.W.nsIn K mainGlobals "is_there" = some (some (.ref f12))) (l12 : K.lookup f12 = some ⟨oc12, od12, .func (PySem.W.fnOf "is_there" "is_there" (defArgs s_is_there) (defBody s_is_there) (defScope s_is_there) .none kV12 dc12 pm12 an12 cd12 ct12), sl12⟩) (c12 : PySem.W.codeIn K cd12 "is_there" = true) (k12 : PySem.W.keepIn K (.ref f12) = true)
    {f13 : Addr} {od13 an13 : Option Addr} {sl13 : Array (Option Value)} {oc13 kV13 dc13 pm13 cd13 ct13 : Value}
    (a13 : PySem.W.nsIn K mainGlobals "without" = some (some (.ref f13))) (l13 : K.lookup f13 = some ⟨oc13, od13, .func (PySem.W.fnOf "without" "without" (defArgs s_without) (defBody s_without) (defScope s_without) .none kV13 dc13 pm13 an13 cd13 ct13), sl13⟩) (c13 : PySem.W.codeIn K cd13 "without" = true) (k13 : PySem.W.keepIn K (.ref f13) = true)
    {f14 : Addr} {od14 an14 : Option Addr} {sl14 : Array (Option Value)} {oc14 kV14 dc14 pm14 cd14 ct14 : Value}
    (a14 : PySem.W.nsIn K mainGlobals "is_drawing" = some (some (.ref f14))) (l14 : K.lookup f14 = some ⟨oc14, od14, .func (PySem.W.fnOf "is_drawing" "is_drawing" (defArgs s_is_drawing) (defBody s_is_drawing) (defScope s_is_drawing) .none kV14 dc14 pm14 an14 cd14 ct14), sl14⟩) (c14 : PySem.W.codeIn K cd14 "is_drawing" = true) (k14 : PySem.W.keepIn K (.ref f14) = true)
    {f15 : Addr} {od15 an15 : Option Addr} {sl15 : Array (Option Value)} {oc15 kV15 dc15 pm15 cd15 ct15 : Value}
    (a15 : PySem.W.nsIn K mainGlobals "plain" = some (some (.ref f15))) (l15 : K.lookup f15 = some ⟨oc15, od15, .func (PySem.W.fnOf "plain" "plain" (defArgs s_plain) (defBody s_plain) (defScope s_plain) .none kV15 dc15 pm15 an15 cd15 ct15), sl15⟩) (c15 : PySem.W.codeIn K cd15 "plain" = true) (k15 : PySem.W.keepIn K (.ref f15) = true)
    {f16 : Addr} {od16 an16 : Option Addr} {sl16 : Array (Option Value)} {oc16 kV16 dc16 pm16 cd16 ct16 : Value}
    (a16 : PySem.W.nsIn K mainGlobals "from_least" = some (some (.ref f16))) (l16 : K.lookup f16 = some ⟨oc16, od16, .func (PySem.W.fnOf "from_least" "from_least" (defArgs s_from_least) (defBody s_from_least) (defScope s_from_least) .none kV16 dc16 pm16 an16 cd16 ct16), sl16⟩) (c16 : PySem.W.codeIn K cd16 "from_least" = true) (k16 : PySem.W.keepIn K (.ref f16) = true)
    {f17 : Addr} {od17 an17 : Option Addr} {sl17 : Array (Option Value)} {oc17 kV17 dc17 pm17 cd17 ct17 : Value}
    (a17 : PySem.W.nsIn K mainGlobals "plained" = some (some (.ref f17))) (l17 : K.lookup f17 = some ⟨oc17, od17, .func (PySem.W.fnOf "plained" "plained" (defArgs s_plained) (defBody s_plained) (defScope s_plained) .none kV17 dc17 pm17 an17 cd17 ct17), sl17⟩) (c17 : PySem.W.codeIn K cd17 "plained" = true) (k17 : PySem.W.keepIn K (.ref f17) = true)
    {f18 : Addr} {od18 an18 : Option Addr} {sl18 : Array (Option Value)} {oc18 kV18 dc18 pm18 cd18 ct18 : Value}
    (a18 : PySem.W.nsIn K mainGlobals "lenses_along" = some (some (.ref f18))) (l18 : K.lookup f18 = some ⟨oc18, od18, .func (PySem.W.fnOf "lenses_along" "lenses_along" (defArgs s_lenses_along) (defBody s_lenses_along) (defScope s_lenses_along) .none kV18 dc18 pm18 an18 cd18 ct18), sl18⟩) (c18 : PySem.W.codeIn K cd18 "lenses_along" = true) (k18 : PySem.W.keepIn K (.ref f18) = true)
    {f19 : Addr} {od19 an19 : Option Addr} {sl19 : Array (Option Value)} {oc19 kV19 dc19 pm19 cd19 ct19 : Value}
    (a19 : PySem.W.nsIn K mainGlobals "lenses" = some (some (.ref f19))) (l19 : K.lookup f19 = some ⟨oc19, od19, .func (PySem.W.fnOf "lenses" "lenses" (defArgs s_lenses) (defBody s_lenses) (defScope s_lenses) .none kV19 dc19 pm19 an19 cd19 ct19), sl19⟩) (c19 : PySem.W.codeIn K cd19 "lenses" = true) (k19 : PySem.W.keepIn K (.ref f19) = true)
    {f20 : Addr} {od20 an20 : Option Addr} {sl20 : Array (Option Value)} {oc20 kV20 dc20 pm20 cd20 ct20 : Value}
    (a20 : PySem.W.nsIn K mainGlobals "is_lens" = some (some (.ref f20))) (l20 : K.lookup f20 = some ⟨oc20, od20, .func (PySem.W.fnOf "is_lens" "is_lens" (defArgs s_is_lens) (defBody s_is_lens) (defScope s_is_lens) .none kV20 dc20 pm20 an20 cd20 ct20), sl20⟩) (c20 : PySem.W.codeIn K cd20 "is_lens" = true) (k20 : PySem.W.keepIn K (.ref f20) = true)
    {f21 : Addr} {od21 an21 : Option Addr} {sl21 : Array (Option Value)} {oc21 kV21 dc21 pm21 cd21 ct21 : Value}
    (a21 : PySem.W.nsIn K mainGlobals "loosened" = some (some (.ref f21))) (l21 : K.lookup f21 = some ⟨oc21, od21, .func (PySem.W.fnOf "loosened" "loosened" (defArgs s_loosened) (defBody s_loosened) (defScope s_loosened) .none kV21 dc21 pm21 an21 cd21 ct21), sl21⟩) (c21 : PySem.W.codeIn K cd21 "loosened" = true) (k21 : PySem.W.keepIn K (.ref f21) = true)
    {f22 : Addr} {od22 an22 : Option Addr} {sl22 : Array (Option Value)} {oc22 kV22 dc22 pm22 cd22 ct22 : Value}
    (a22 : PySem.W.nsIn K mainGlobals "looked_at_straight" = some (some (.ref f22))) (l22 : K.lookup f22 = some ⟨oc22, od22, .func (PySem.W.fnOf "looked_at" "looked_at" (defArgs s_looked_at_straight) (defBody s_looked_at_straight) (defScope s_looked_at_straight) .none kV22 dc22 pm22 an22 cd22 ct22), sl22⟩) (c22 : PySem.W.codeIn K cd22 "looked_at" = true) (k22 : PySem.W.keepIn K (.ref f22) = true)
    {f23 : Addr} {od23 an23 : Option Addr} {sl23 : Array (Option Value)} {oc23 kV23 dc23 pm23 cd23 ct23 : Value}
    (a23 : PySem.W.nsIn K mainGlobals "straight" = some (some (.ref f23))) (l23 : K.lookup f23 = some ⟨oc23, od23, .func (PySem.W.fnOf "straight" "straight" (defArgs s_straight) (defBody s_straight) (defScope s_straight) .none kV23 dc23 pm23 an23 cd23 ct23), sl23⟩) (c23 : PySem.W.codeIn K cd23 "straight" = true) (k23 : PySem.W.keepIn K (.ref f23) = true)
    {f24 : Addr} {od24 an24 : Option Addr} {sl24 : Array (Option Value)} {oc24 kV24 dc24 pm24 cd24 ct24 : Value}
    (a24 : PySem.W.nsIn K mainGlobals "is_new" = some (some (.ref f24))) (l24 : K.lookup f24 = some ⟨oc24, od24, .func (PySem.W.fnOf "is_new" "is_new" (defArgs s_is_new) (defBody s_is_new) (defScope s_is_new) .none kV24 dc24 pm24 an24 cd24 ct24), sl24⟩) (c24 : PySem.W.codeIn K cd24 "is_new" = true) (k24 : PySem.W.keepIn K (.ref f24) = true)
    {f25 : Addr} {od25 an25 : Option Addr} {sl25 : Array (Option Value)} {oc25 kV25 dc25 pm25 cd25 ct25 : Value}
    (a25 : PySem.W.nsIn K mainGlobals "is_begin" = some (some (.ref f25))) (l25 : K.lookup f25 = some ⟨oc25, od25, .func (PySem.W.fnOf "is_begin" "is_begin" (defArgs s_is_begin) (defBody s_is_begin) (defScope s_is_begin) .none kV25 dc25 pm25 an25 cd25 ct25), sl25⟩) (c25 : PySem.W.codeIn K cd25 "is_begin" = true) (k25 : PySem.W.keepIn K (.ref f25) = true)
    {f26 : Addr} {od26 an26 : Option Addr} {sl26 : Array (Option Value)} {oc26 kV26 dc26 pm26 cd26 ct26 : Value}
    (a26 : PySem.W.nsIn K mainGlobals "is_route" = some (some (.ref f26))) (l26 : K.lookup f26 = some ⟨oc26, od26, .func (PySem.W.fnOf "is_route" "is_route" (defArgs s_is_route) (defBody s_is_route) (defScope s_is_route) .none kV26 dc26 pm26 an26 cd26 ct26), sl26⟩) (c26 : PySem.W.codeIn K cd26 "is_route" = true) (k26 : PySem.W.keepIn K (.ref f26) = true)
    {f27 : Addr} {od27 an27 : Option Addr} {sl27 : Array (Option Value)} {oc27 kV27 dc27 pm27 cd27 ct27 : Value}
    (a27 : PySem.W.nsIn K mainGlobals "put" = some (some (.ref f27))) (l27 : K.lookup f27 = some ⟨oc27, od27, .func (PySem.W.fnOf "put" "put" (defArgs s_put) (defBody s_put) (defScope s_put) .none kV27 dc27 pm27 an27 cd27 ct27), sl27⟩) (c27 : PySem.W.codeIn K cd27 "put" = true) (k27 : PySem.W.keepIn K (.ref f27) = true)
    {f28 : Addr} {od28 an28 : Option Addr} {sl28 : Array (Option Value)} {oc28 kV28 dc28 pm28 cd28 ct28 : Value}
    (a28 : PySem.W.nsIn K mainGlobals "number_read" = some (some (.ref f28))) (l28 : K.lookup f28 = some ⟨oc28, od28, .func (PySem.W.fnOf "number_read" "number_read" (defArgs s_number_read) (defBody s_number_read) (defScope s_number_read) .none kV28 dc28 pm28 an28 cd28 ct28), sl28⟩) (c28 : PySem.W.codeIn K cd28 "number_read" = true) (k28 : PySem.W.keepIn K (.ref f28) = true)
    {f29 : Addr} {od29 an29 : Option Addr} {sl29 : Array (Option Value)} {oc29 kV29 dc29 pm29 cd29 ct29 : Value}
    (a29 : PySem.W.nsIn K mainGlobals "read" = some (some (.ref f29))) (l29 : K.lookup f29 = some ⟨oc29, od29, .func (PySem.W.fnOf "read" "read" (defArgs s_read) (defBody s_read) (defScope s_read) .none kV29 dc29 pm29 an29 cd29 ct29), sl29⟩) (c29 : PySem.W.codeIn K cd29 "read" = true) (k29 : PySem.W.keepIn K (.ref f29) = true)
    {f30 : Addr} {od30 an30 : Option Addr} {sl30 : Array (Option Value)} {oc30 kV30 dc30 pm30 cd30 ct30 : Value}
    (a30 : PySem.W.nsIn K mainGlobals "_law_bare" = some (some (.ref f30))) (l30 : K.lookup f30 = some ⟨oc30, od30, .func (PySem.W.fnOf "_law_bare" "_law_bare" (defArgs s_law_bare) (defBody s_law_bare) (defScope s_law_bare) .none kV30 dc30 pm30 an30 cd30 ct30), sl30⟩) (c30 : PySem.W.codeIn K cd30 "_law_bare" = true) (k30 : PySem.W.keepIn K (.ref f30) = true)
    {f31 : Addr} {od31 an31 : Option Addr} {sl31 : Array (Option Value)} {oc31 kV31 dc31 pm31 cd31 ct31 : Value}
    (a31 : PySem.W.nsIn K mainGlobals "_law_drawn" = some (some (.ref f31))) (l31 : K.lookup f31 = some ⟨oc31, od31, .func (PySem.W.fnOf "_law_drawn" "_law_drawn" (defArgs s_law_drawn) (defBody s_law_drawn) (defScope s_law_drawn) .none kV31 dc31 pm31 an31 cd31 ct31), sl31⟩) (c31 : PySem.W.codeIn K cd31 "_law_drawn" = true) (k31 : PySem.W.keepIn K (.ref f31) = true)
    {f32 : Addr} {od32 an32 : Option Addr} {sl32 : Array (Option Value)} {oc32 kV32 dc32 pm32 cd32 ct32 : Value}
    (a32 : PySem.W.nsIn K mainGlobals "_law_kinds" = some (some (.ref f32))) (l32 : K.lookup f32 = some ⟨oc32, od32, .func (PySem.W.fnOf "_law_kinds" "_law_kinds" (defArgs s_law_kinds) (defBody s_law_kinds) (defScope s_law_kinds) .none kV32 dc32 pm32 an32 cd32 ct32), sl32⟩) (c32 : PySem.W.codeIn K cd32 "_law_kinds" = true) (k32 : PySem.W.keepIn K (.ref f32) = true)
    {f33 : Addr} {od33 an33 : Option Addr} {sl33 : Array (Option Value)} {oc33 kV33 dc33 pm33 cd33 ct33 : Value}
    (a33 : PySem.W.nsIn K mainGlobals "_law_right" = some (some (.ref f33))) (l33 : K.lookup f33 = some ⟨oc33, od33, .func (PySem.W.fnOf "_law_right" "_law_right" (defArgs s_law_right) (defBody s_law_right) (defScope s_law_right) .none kV33 dc33 pm33 an33 cd33 ct33), sl33⟩) (c33 : PySem.W.codeIn K cd33 "_law_right" = true) (k33 : PySem.W.keepIn K (.ref f33) = true)
    {f34 : Addr} {od34 an34 : Option Addr} {sl34 : Array (Option Value)} {oc34 kV34 dc34 pm34 cd34 ct34 : Value}
    (a34 : PySem.W.nsIn K mainGlobals "law" = some (some (.ref f34))) (l34 : K.lookup f34 = some ⟨oc34, od34, .func (PySem.W.fnOf "law" "law" (defArgs s_law) (defBody s_law) (defScope s_law) .none kV34 dc34 pm34 an34 cd34 ct34), sl34⟩) (c34 : PySem.W.codeIn K cd34 "law" = true) (k34 : PySem.W.keepIn K (.ref f34) = true)
    (z_ArithmeticError : PySem.W.nsIn K mainGlobals "ArithmeticError" = some none)
    (z_LookupError : PySem.W.nsIn K mainGlobals "LookupError" = some none)
    (z_TypeError : PySem.W.nsIn K mainGlobals "TypeError" = some none)
    (z_ValueError : PySem.W.nsIn K mainGlobals "ValueError" = some none)
    (z_all : PySem.W.nsIn K mainGlobals "all" = some none)
    (z_bool : PySem.W.nsIn K mainGlobals "bool" = some none)
    (z_enumerate : PySem.W.nsIn K mainGlobals "enumerate" = some none)
    (z_int : PySem.W.nsIn K mainGlobals "int" = some none)
    (z_isinstance : PySem.W.nsIn K mainGlobals "isinstance" = some none)
    (z_len : PySem.W.nsIn K mainGlobals "len" = some none)
    (z_list : PySem.W.nsIn K mainGlobals "list" = some none)
    (z_min : PySem.W.nsIn K mainGlobals "min" = some none)
    (z_range : PySem.W.nsIn K mainGlobals "range" = some none)
    (z_set : PySem.W.nsIn K mainGlobals "set" = some none)
    (z_sorted : PySem.W.nsIn K mainGlobals "sorted" = some none)
    (z_str : PySem.W.nsIn K mainGlobals "str" = some none)
    (z_tuple : PySem.W.nsIn K mainGlobals "tuple" = some none)
    {t_MOST_IN_ROW : Tok} (v_MOST_IN_ROW : PySem.W.nsIn K mainGlobals "MOST_IN_ROW" = some (some (.int 7 t_MOST_IN_ROW)))
    {t_MOST_PLACES_must : Tok} (v_MOST_PLACES_must : PySem.W.nsIn K mainGlobals "MOST_PLACES_must" = some (some (.int 6 t_MOST_PLACES_must)))
    {t_MOST_PLACES_webs : Tok} (v_MOST_PLACES_webs : PySem.W.nsIn K mainGlobals "MOST_PLACES_webs" = some (some (.int 10 t_MOST_PLACES_webs)))
    {t_MOST_TIES : Tok} (v_MOST_TIES : PySem.W.nsIn K mainGlobals "MOST_TIES" = some (some (.int 18 t_MOST_TIES)))
    {C0 : Addr} (q0 : PySem.W.nsIn K mainGlobals "TooMany" = some (some (.ref C0))) (qk0 : PySem.W.keepIn K (.ref C0) = true) (qe0 : PySem.W.excIn K C0 [.type "ValueError", .type "Exception", .type "BaseException", .type "object"] "ValueError.__new__" = true) (qt0 : PySem.W.typeIn K (.ref C0) = some (.type "type"))
    (ua0 : PySem.W.findIn K (.ref C0) "__getattribute__" = some (some (.builtin "BaseException.__getattribute__"))) (ub0 : PySem.W.findIn K (.ref C0) "__getattr__" = some none) (uc0 : PySem.W.subIn K (.ref C0) (.type "BaseException") = some true) (ud0 : PySem.W.hasDictIn K C0 = true) (ue0 : PySem.W.findIn K (.ref C0) "__class__" = some (some (.builtin "object.__class__"))) (uf0 : PySem.W.mroIn K C0 (.type "object") = some true)
    {C1 : Addr} (q1 : PySem.W.nsIn K mainGlobals "NoOrder" = some (some (.ref C1))) (qk1 : PySem.W.keepIn K (.ref C1) = true) (qe1 : PySem.W.excIn K C1 [.type "ValueError", .type "Exception", .type "BaseException", .type "object"] "ValueError.__new__" = true) (qt1 : PySem.W.typeIn K (.ref C1) = some (.type "type"))
    (ua1 : PySem.W.findIn K (.ref C1) "__getattribute__" = some (some (.builtin "BaseException.__getattribute__"))) (ub1 : PySem.W.findIn K (.ref C1) "__getattr__" = some none) (uc1 : PySem.W.subIn K (.ref C1) (.type "BaseException") = some true) (ud1 : PySem.W.hasDictIn K C1 = true) (ue1 : PySem.W.findIn K (.ref C1) "__class__" = some (some (.builtin "object.__class__"))) (uf1 : PySem.W.mroIn K C1 (.type "object") = some true)
    {C2 : Addr} (q2 : PySem.W.nsIn K mainGlobals "NoWeb" = some (some (.ref C2))) (qk2 : PySem.W.keepIn K (.ref C2) = true) (qe2 : PySem.W.excIn K C2 [.type "ValueError", .type "Exception", .type "BaseException", .type "object"] "ValueError.__new__" = true) (qt2 : PySem.W.typeIn K (.ref C2) = some (.type "type"))
    (ua2 : PySem.W.findIn K (.ref C2) "__getattribute__" = some (some (.builtin "BaseException.__getattribute__"))) (ub2 : PySem.W.findIn K (.ref C2) "__getattr__" = some none) (uc2 : PySem.W.subIn K (.ref C2) (.type "BaseException") = some true) (ud2 : PySem.W.hasDictIn K C2 = true) (ue2 : PySem.W.findIn K (.ref C2) "__class__" = some (some (.builtin "object.__class__"))) (uf2 : PySem.W.mroIn K C2 (.type "object") = some true)
    {C3 : Addr} (q3 : PySem.W.nsIn K mainGlobals "NoTie" = some (some (.ref C3))) (qk3 : PySem.W.keepIn K (.ref C3) = true) (qe3 : PySem.W.excIn K C3 [.type "ValueError", .type "Exception", .type "BaseException", .type "object"] "ValueError.__new__" = true) (qt3 : PySem.W.typeIn K (.ref C3) = some (.type "type"))
    (ua3 : PySem.W.findIn K (.ref C3) "__getattribute__" = some (some (.builtin "BaseException.__getattribute__"))) (ub3 : PySem.W.findIn K (.ref C3) "__getattr__" = some none) (uc3 : PySem.W.subIn K (.ref C3) (.type "BaseException") = some true) (ud3 : PySem.W.hasDictIn K C3 = true) (ue3 : PySem.W.findIn K (.ref C3) "__class__" = some (some (.builtin "object.__class__"))) (uf3 : PySem.W.mroIn K C3 (.type "object") = some true)
    {C4 : Addr} (q4 : PySem.W.nsIn K mainGlobals "NoDrawing" = some (some (.ref C4))) (qk4 : PySem.W.keepIn K (.ref C4) = true) (qe4 : PySem.W.excIn K C4 [.type "ValueError", .type "Exception", .type "BaseException", .type "object"] "ValueError.__new__" = true) (qt4 : PySem.W.typeIn K (.ref C4) = some (.type "type"))
    (ua4 : PySem.W.findIn K (.ref C4) "__getattribute__" = some (some (.builtin "BaseException.__getattribute__"))) (ub4 : PySem.W.findIn K (.ref C4) "__getattr__" = some none) (uc4 : PySem.W.subIn K (.ref C4) (.type "BaseException") = some true) (ud4 : PySem.W.hasDictIn K C4 = true) (ue4 : PySem.W.findIn K (.ref C4) "__class__" = some (some (.builtin "object.__class__"))) (uf4 : PySem.W.mroIn K C4 (.type "object") = some true)
    {C5 : Addr} (q5 : PySem.W.nsIn K mainGlobals "NoLens" = some (some (.ref C5))) (qk5 : PySem.W.keepIn K (.ref C5) = true) (qe5 : PySem.W.excIn K C5 [.type "ValueError", .type "Exception", .type "BaseException", .type "object"] "ValueError.__new__" = true) (qt5 : PySem.W.typeIn K (.ref C5) = some (.type "type"))
    (ua5 : PySem.W.findIn K (.ref C5) "__getattribute__" = some (some (.builtin "BaseException.__getattribute__"))) (ub5 : PySem.W.findIn K (.ref C5) "__getattr__" = some none) (uc5 : PySem.W.subIn K (.ref C5) (.type "BaseException") = some true) (ud5 : PySem.W.hasDictIn K C5 = true) (ue5 : PySem.W.findIn K (.ref C5) "__class__" = some (some (.builtin "object.__class__"))) (uf5 : PySem.W.mroIn K C5 (.type "object") = some true)
    {C6 : Addr} (q6 : PySem.W.nsIn K mainGlobals "NoPoints" = some (some (.ref C6))) (qk6 : PySem.W.keepIn K (.ref C6) = true) (qe6 : PySem.W.excIn K C6 [.type "ValueError", .type "Exception", .type "BaseException", .type "object"] "ValueError.__new__" = true) (qt6 : PySem.W.typeIn K (.ref C6) = some (.type "type"))
    (ua6 : PySem.W.findIn K (.ref C6) "__getattribute__" = some (some (.builtin "BaseException.__getattribute__"))) (ub6 : PySem.W.findIn K (.ref C6) "__getattr__" = some none) (uc6 : PySem.W.subIn K (.ref C6) (.type "BaseException") = some true) (ud6 : PySem.W.hasDictIn K C6 = true) (ue6 : PySem.W.findIn K (.ref C6) "__class__" = some (some (.builtin "object.__class__"))) (uf6 : PySem.W.mroIn K C6 (.type "object") = some true)
    {C7 : Addr} (q7 : PySem.W.nsIn K mainGlobals "NoRoute" = some (some (.ref C7))) (qk7 : PySem.W.keepIn K (.ref C7) = true) (qe7 : PySem.W.excIn K C7 [.type "ValueError", .type "Exception", .type "BaseException", .type "object"] "ValueError.__new__" = true) (qt7 : PySem.W.typeIn K (.ref C7) = some (.type "type"))
    (ua7 : PySem.W.findIn K (.ref C7) "__getattribute__" = some (some (.builtin "BaseException.__getattribute__"))) (ub7 : PySem.W.findIn K (.ref C7) "__getattr__" = some none) (uc7 : PySem.W.subIn K (.ref C7) (.type "BaseException") = some true) (ud7 : PySem.W.hasDictIn K C7 = true) (ue7 : PySem.W.findIn K (.ref C7) "__class__" = some (some (.builtin "object.__class__"))) (uf7 : PySem.W.mroIn K C7 (.type "object") = some true)
    {C8 : Addr} (q8 : PySem.W.nsIn K mainGlobals "NoText" = some (some (.ref C8))) (qk8 : PySem.W.keepIn K (.ref C8) = true) (qe8 : PySem.W.excIn K C8 [.type "ValueError", .type "Exception", .type "BaseException", .type "object"] "ValueError.__new__" = true) (qt8 : PySem.W.typeIn K (.ref C8) = some (.type "type"))
    (ua8 : PySem.W.findIn K (.ref C8) "__getattribute__" = some (some (.builtin "BaseException.__getattribute__"))) (ub8 : PySem.W.findIn K (.ref C8) "__getattr__" = some none) (uc8 : PySem.W.subIn K (.ref C8) (.type "BaseException") = some true) (ud8 : PySem.W.hasDictIn K C8 = true) (ue8 : PySem.W.findIn K (.ref C8) "__class__" = some (some (.builtin "object.__class__"))) (uf8 : PySem.W.mroIn K C8 (.type "object") = some true)
    {C9 : Addr} (q9 : PySem.W.nsIn K mainGlobals "CrossError" = some (some (.ref C9))) (qk9 : PySem.W.keepIn K (.ref C9) = true) (qe9 : PySem.W.excIn K C9 [.type "ValueError", .type "Exception", .type "BaseException", .type "object"] "ValueError.__new__" = true) (qt9 : PySem.W.typeIn K (.ref C9) = some (.type "type"))
    (ua9 : PySem.W.findIn K (.ref C9) "__getattribute__" = some (some (.builtin "BaseException.__getattribute__"))) (ub9 : PySem.W.findIn K (.ref C9) "__getattr__" = some none) (uc9 : PySem.W.subIn K (.ref C9) (.type "BaseException") = some true) (ud9 : PySem.W.hasDictIn K C9 = true) (ue9 : PySem.W.findIn K (.ref C9) "__class__" = some (some (.builtin "object.__class__"))) (uf9 : PySem.W.mroIn K C9 (.type "object") = some true)
    (ug : PySem.W.specialIn K (.builtin "object.__class__") "__get__" = some (some (.builtin "getset_descriptor.__get__"))) (uh : PySem.W.takesIn K (.builtin "object.__class__") = some true)
    (s0_9 : PySem.W.subIn K (.ref C0) (.ref C9) = some true)
    (s0_4 : PySem.W.subIn K (.ref C0) (.ref C4) = some false)
    (s0_5 : PySem.W.subIn K (.ref C0) (.ref C5) = some false)
    (s0_1 : PySem.W.subIn K (.ref C0) (.ref C1) = some false)
    (s0_6 : PySem.W.subIn K (.ref C0) (.ref C6) = some false)
    (s0_7 : PySem.W.subIn K (.ref C0) (.ref C7) = some false)
    (s0_8 : PySem.W.subIn K (.ref C0) (.ref C8) = some false)
    (s0_3 : PySem.W.subIn K (.ref C0) (.ref C3) = some false)
    (s0_2 : PySem.W.subIn K (.ref C0) (.ref C2) = some false)
    (s0_0 : PySem.W.subIn K (.ref C0) (.ref C0) = some true)
    (j0 : PySem.W.subIn K (.ref C0) (.type "ValueError") = some true)
    (j0_ArithmeticError : PySem.W.subIn K (.ref C0) (.type "ArithmeticError") = some false)
    (j0_LookupError : PySem.W.subIn K (.ref C0) (.type "LookupError") = some false)
    (j0_TypeError : PySem.W.subIn K (.ref C0) (.type "TypeError") = some false)
    (s1_9 : PySem.W.subIn K (.ref C1) (.ref C9) = some true)
    (s1_4 : PySem.W.subIn K (.ref C1) (.ref C4) = some false)
    (s1_5 : PySem.W.subIn K (.ref C1) (.ref C5) = some false)
    (s1_1 : PySem.W.subIn K (.ref C1) (.ref C1) = some true)
    (s1_6 : PySem.W.subIn K (.ref C1) (.ref C6) = some false)
    (s1_7 : PySem.W.subIn K (.ref C1) (.ref C7) = some false)
    (s1_8 : PySem.W.subIn K (.ref C1) (.ref C8) = some false)
    (s1_3 : PySem.W.subIn K (.ref C1) (.ref C3) = some false)
    (s1_2 : PySem.W.subIn K (.ref C1) (.ref C2) = some false)
    (s1_0 : PySem.W.subIn K (.ref C1) (.ref C0) = some false)
    (j1 : PySem.W.subIn K (.ref C1) (.type "ValueError") = some true)
    (j1_ArithmeticError : PySem.W.subIn K (.ref C1) (.type "ArithmeticError") = some false)
    (j1_LookupError : PySem.W.subIn K (.ref C1) (.type "LookupError") = some false)
    (j1_TypeError : PySem.W.subIn K (.ref C1) (.type "TypeError") = some false)
    (s2_9 : PySem.W.subIn K (.ref C2) (.ref C9) = some true)
    (s2_4 : PySem.W.subIn K (.ref C2) (.ref C4) = some false)
    (s2_5 : PySem.W.subIn K (.ref C2) (.ref C5) = some false)
    (s2_1 : PySem.W.subIn K (.ref C2) (.ref C1) = some false)
    (s2_6 : PySem.W.subIn K (.ref C2) (.ref C6) = some false)
    (s2_7 : PySem.W.subIn K (.ref C2) (.ref C7) = some false)
    (s2_8 : PySem.W.subIn K (.ref C2) (.ref C8) = some false)
    (s2_3 : PySem.W.subIn K (.ref C2) (.ref C3) = some false)
    (s2_2 : PySem.W.subIn K (.ref C2) (.ref C2) = some true)
    (s2_0 : PySem.W.subIn K (.ref C2) (.ref C0) = some false)
    (j2 : PySem.W.subIn K (.ref C2) (.type "ValueError") = some true)
    (j2_ArithmeticError : PySem.W.subIn K (.ref C2) (.type "ArithmeticError") = some false)
    (j2_LookupError : PySem.W.subIn K (.ref C2) (.type "LookupError") = some false)
    (j2_TypeError : PySem.W.subIn K (.ref C2) (.type "TypeError") = some false)
    (s3_9 : PySem.W.subIn K (.ref C3) (.ref C9) = some true)
    (s3_4 : PySem.W.subIn K (.ref C3) (.ref C4) = some false)
    (s3_5 : PySem.W.subIn K (.ref C3) (.ref C5) = some false)
    (s3_1 : PySem.W.subIn K (.ref C3) (.ref C1) = some false)
    (s3_6 : PySem.W.subIn K (.ref C3) (.ref C6) = some false)
    (s3_7 : PySem.W.subIn K (.ref C3) (.ref C7) = some false)
    (s3_8 : PySem.W.subIn K (.ref C3) (.ref C8) = some false)
    (s3_3 : PySem.W.subIn K (.ref C3) (.ref C3) = some true)
    (s3_2 : PySem.W.subIn K (.ref C3) (.ref C2) = some false)
    (s3_0 : PySem.W.subIn K (.ref C3) (.ref C0) = some false)
    (j3 : PySem.W.subIn K (.ref C3) (.type "ValueError") = some true)
    (j3_ArithmeticError : PySem.W.subIn K (.ref C3) (.type "ArithmeticError") = some false)
    (j3_LookupError : PySem.W.subIn K (.ref C3) (.type "LookupError") = some false)
    (j3_TypeError : PySem.W.subIn K (.ref C3) (.type "TypeError") = some false)
    (s4_9 : PySem.W.subIn K (.ref C4) (.ref C9) = some true)
    (s4_4 : PySem.W.subIn K (.ref C4) (.ref C4) = some true)
    (s4_5 : PySem.W.subIn K (.ref C4) (.ref C5) = some false)
    (s4_1 : PySem.W.subIn K (.ref C4) (.ref C1) = some false)
    (s4_6 : PySem.W.subIn K (.ref C4) (.ref C6) = some false)
    (s4_7 : PySem.W.subIn K (.ref C4) (.ref C7) = some false)
    (s4_8 : PySem.W.subIn K (.ref C4) (.ref C8) = some false)
    (s4_3 : PySem.W.subIn K (.ref C4) (.ref C3) = some false)
    (s4_2 : PySem.W.subIn K (.ref C4) (.ref C2) = some false)
    (s4_0 : PySem.W.subIn K (.ref C4) (.ref C0) = some false)
    (j4 : PySem.W.subIn K (.ref C4) (.type "ValueError") = some true)
    (j4_ArithmeticError : PySem.W.subIn K (.ref C4) (.type "ArithmeticError") = some false)
    (j4_LookupError : PySem.W.subIn K (.ref C4) (.type "LookupError") = some false)
    (j4_TypeError : PySem.W.subIn K (.ref C4) (.type "TypeError") = some false)
    (s5_9 : PySem.W.subIn K (.ref C5) (.ref C9) = some true)
    (s5_4 : PySem.W.subIn K (.ref C5) (.ref C4) = some false)
    (s5_5 : PySem.W.subIn K (.ref C5) (.ref C5) = some true)
    (s5_1 : PySem.W.subIn K (.ref C5) (.ref C1) = some false)
    (s5_6 : PySem.W.subIn K (.ref C5) (.ref C6) = some false)
    (s5_7 : PySem.W.subIn K (.ref C5) (.ref C7) = some false)
    (s5_8 : PySem.W.subIn K (.ref C5) (.ref C8) = some false)
    (s5_3 : PySem.W.subIn K (.ref C5) (.ref C3) = some false)
    (s5_2 : PySem.W.subIn K (.ref C5) (.ref C2) = some false)
    (s5_0 : PySem.W.subIn K (.ref C5) (.ref C0) = some false)
    (j5 : PySem.W.subIn K (.ref C5) (.type "ValueError") = some true)
    (j5_ArithmeticError : PySem.W.subIn K (.ref C5) (.type "ArithmeticError") = some false)
    (j5_LookupError : PySem.W.subIn K (.ref C5) (.type "LookupError") = some false)
    (j5_TypeError : PySem.W.subIn K (.ref C5) (.type "TypeError") = some false)
    (s6_9 : PySem.W.subIn K (.ref C6) (.ref C9) = some true)
    (s6_4 : PySem.W.subIn K (.ref C6) (.ref C4) = some false)
    (s6_5 : PySem.W.subIn K (.ref C6) (.ref C5) = some false)
    (s6_1 : PySem.W.subIn K (.ref C6) (.ref C1) = some false)
    (s6_6 : PySem.W.subIn K (.ref C6) (.ref C6) = some true)
    (s6_7 : PySem.W.subIn K (.ref C6) (.ref C7) = some false)
    (s6_8 : PySem.W.subIn K (.ref C6) (.ref C8) = some false)
    (s6_3 : PySem.W.subIn K (.ref C6) (.ref C3) = some false)
    (s6_2 : PySem.W.subIn K (.ref C6) (.ref C2) = some false)
    (s6_0 : PySem.W.subIn K (.ref C6) (.ref C0) = some false)
    (j6 : PySem.W.subIn K (.ref C6) (.type "ValueError") = some true)
    (j6_ArithmeticError : PySem.W.subIn K (.ref C6) (.type "ArithmeticError") = some false)
    (j6_LookupError : PySem.W.subIn K (.ref C6) (.type "LookupError") = some false)
    (j6_TypeError : PySem.W.subIn K (.ref C6) (.type "TypeError") = some false)
    (s7_9 : PySem.W.subIn K (.ref C7) (.ref C9) = some true)
    (s7_4 : PySem.W.subIn K (.ref C7) (.ref C4) = some false)
    (s7_5 : PySem.W.subIn K (.ref C7) (.ref C5) = some false)
    (s7_1 : PySem.W.subIn K (.ref C7) (.ref C1) = some false)
    (s7_6 : PySem.W.subIn K (.ref C7) (.ref C6) = some false)
    (s7_7 : PySem.W.subIn K (.ref C7) (.ref C7) = some true)
    (s7_8 : PySem.W.subIn K (.ref C7) (.ref C8) = some false)
    (s7_3 : PySem.W.subIn K (.ref C7) (.ref C3) = some false)
    (s7_2 : PySem.W.subIn K (.ref C7) (.ref C2) = some false)
    (s7_0 : PySem.W.subIn K (.ref C7) (.ref C0) = some false)
    (j7 : PySem.W.subIn K (.ref C7) (.type "ValueError") = some true)
    (j7_ArithmeticError : PySem.W.subIn K (.ref C7) (.type "ArithmeticError") = some false)
    (j7_LookupError : PySem.W.subIn K (.ref C7) (.type "LookupError") = some false)
    (j7_TypeError : PySem.W.subIn K (.ref C7) (.type "TypeError") = some false)
    (s8_9 : PySem.W.subIn K (.ref C8) (.ref C9) = some true)
    (s8_4 : PySem.W.subIn K (.ref C8) (.ref C4) = some false)
    (s8_5 : PySem.W.subIn K (.ref C8) (.ref C5) = some false)
    (s8_1 : PySem.W.subIn K (.ref C8) (.ref C1) = some false)
    (s8_6 : PySem.W.subIn K (.ref C8) (.ref C6) = some false)
    (s8_7 : PySem.W.subIn K (.ref C8) (.ref C7) = some false)
    (s8_8 : PySem.W.subIn K (.ref C8) (.ref C8) = some true)
    (s8_3 : PySem.W.subIn K (.ref C8) (.ref C3) = some false)
    (s8_2 : PySem.W.subIn K (.ref C8) (.ref C2) = some false)
    (s8_0 : PySem.W.subIn K (.ref C8) (.ref C0) = some false)
    (j8 : PySem.W.subIn K (.ref C8) (.type "ValueError") = some true)
    (j8_ArithmeticError : PySem.W.subIn K (.ref C8) (.type "ArithmeticError") = some false)
    (j8_LookupError : PySem.W.subIn K (.ref C8) (.type "LookupError") = some false)
    (j8_TypeError : PySem.W.subIn K (.ref C8) (.type "TypeError") = some false)
    (o4 : PySem.W.subIn K (.type "NoneType") (.ref C4) = some false)
    (p4 : PySem.W.subIn K (.ref C4) (.ref C4) = some true)
    (o5 : PySem.W.subIn K (.type "NoneType") (.ref C5) = some false)
    (p5 : PySem.W.subIn K (.ref C5) (.ref C5) = some true)
    (o1 : PySem.W.subIn K (.type "NoneType") (.ref C1) = some false)
    (p1 : PySem.W.subIn K (.ref C1) (.ref C1) = some true)
    (o6 : PySem.W.subIn K (.type "NoneType") (.ref C6) = some false)
    (p6 : PySem.W.subIn K (.ref C6) (.ref C6) = some true)
    (o7 : PySem.W.subIn K (.type "NoneType") (.ref C7) = some false)
    (p7 : PySem.W.subIn K (.ref C7) (.ref C7) = some true)
    (o8 : PySem.W.subIn K (.type "NoneType") (.ref C8) = some false)
    (p8 : PySem.W.subIn K (.ref C8) (.ref C8) = some true)
    (o3 : PySem.W.subIn K (.type "NoneType") (.ref C3) = some false)
    (p3 : PySem.W.subIn K (.ref C3) (.ref C3) = some true)
    (o2 : PySem.W.subIn K (.type "NoneType") (.ref C2) = some false)
    (p2 : PySem.W.subIn K (.ref C2) (.ref C2) = some true)
    (o0 : PySem.W.subIn K (.type "NoneType") (.ref C0) = some false)
    (p0 : PySem.W.subIn K (.ref C0) (.ref C0) = some true)
    : ∃ fd : FuncData, (∀ (s : Shared) (v : Value), BindsTo s fd ⟨[v], []⟩ [("_law_script", v)]) ∧ ∀ base : Heap, K.In base → base.Ns mainGlobals mg → FnOkG l.prog w K mg base (L2.CX l.prog w) 8 fa fd ["_law_script"] (spF K (cAK cn K) 1 m_law) := by
  have e := hfa.symm.trans (PySem.W.mg_of X G a34)
  cases e
  have F0 := fun_mk (st := s_looked_at_must) l0 c0 k0
  have b0 := F0.binds (ps := ["web"]) fun _ _ _ _ _ _ us hl => match us, hl with | [_], _ => rfl
  have F1 := fun_mk (st := s_must) l1 c1 k1
  have b1 := F1.binds (ps := ["web"]) fun _ _ _ _ _ _ us hl => match us, hl with | [_], _ => rfl
  have F2 := fun_mk (st := s_is_whole) l2 c2 k2
  have b2 := F2.binds (ps := ["thing"]) fun _ _ _ _ _ _ us hl => match us, hl with | [_], _ => rfl
  have F3 := fun_mk (st := s_is_order) l3 c3 k3
  have b3 := F3.binds (ps := ["thing", "many"]) fun _ _ _ _ _ _ us hl => match us, hl with | [_, _], _ => rfl
  have F4 := fun_mk (st := s_upper_looked_at) l4 c4 k4
  have b4 := F4.binds (ps := ["web", "upper"]) fun _ _ _ _ _ _ us hl => match us, hl with | [_, _], _ => rfl
  have F5 := fun_mk (st := s_both_looked_at) l5 c5 k5
  have b5 := F5.binds (ps := ["web", "upper", "lower"]) fun _ _ _ _ _ _ us hl => match us, hl with | [_, _, _], _ => rfl
  have F6 := fun_mk (st := s_crossed_rows) l6 c6 k6
  have b6 := F6.binds (ps := ["web", "upper", "lower"]) fun _ _ _ _ _ _ us hl => match us, hl with | [_, _, _], _ => rfl
  have F7 := fun_mk (st := s_tie_of) l7 c7 k7
  have b7 := F7.binds (ps := ["thing", "n"]) fun _ _ _ _ _ _ us hl => match us, hl with | [_, _], _ => rfl
  have F8 := fun_mk (st := s_web) l8 c8 k8
  have b8 := F8.binds (ps := ["n", "some"]) fun _ _ _ _ _ _ us hl => match us, hl with | [_, _], _ => rfl
  have F9 := fun_mk (st := s_is_tie) l9 c9 k9
  have b9 := F9.binds (ps := ["thing", "p", "q"]) fun _ _ _ _ _ _ us hl => match us, hl with | [_, _, _], _ => rfl
  have F10 := fun_mk (st := s_two) l10 c10 k10
  have b10 := F10.binds (ps := ["p", "q", "some"]) fun _ _ _ _ _ _ us hl => match us, hl with | [_, _, _], _ => rfl
  have F11 := fun_mk (st := s_law_other) l11 c11 k11
  have b11 := F11.binds (ps := ["_law_way", "_law_n"]) fun _ _ _ _ _ _ us hl => match us, hl with | [_, _], _ => rfl
  have F12 := fun_mk (st := s_is_there) l12 c12 k12
  have b12 := F12.binds (ps := ["drawing", "tie"]) fun _ _ _ _ _ _ us hl => match us, hl with | [_, _], _ => rfl
  have F13 := fun_mk (st := s_without) l13 c13 k13
  have b13 := F13.binds (ps := ["drawing", "tie"]) fun _ _ _ _ _ _ us hl => match us, hl with | [_, _], _ => rfl
  have F14 := fun_mk (st := s_is_drawing) l14 c14 k14
  have b14 := F14.binds (ps := ["thing"]) fun _ _ _ _ _ _ us hl => match us, hl with | [_], _ => rfl
  have F15 := fun_mk (st := s_plain) l15 c15 k15
  have b15 := F15.binds (ps := ["thing"]) fun _ _ _ _ _ _ us hl => match us, hl with | [_], _ => rfl
  have F16 := fun_mk (st := s_from_least) l16 c16 k16
  have b16 := F16.binds (ps := ["ring"]) fun _ _ _ _ _ _ us hl => match us, hl with | [_], _ => rfl
  have F17 := fun_mk (st := s_plained) l17 c17 k17
  have b17 := F17.binds (ps := ["drawing"]) fun _ _ _ _ _ _ us hl => match us, hl with | [_], _ => rfl
  have F18 := fun_mk (st := s_lenses_along) l18 c18 k18
  have b18 := F18.binds (ps := ["drawing", "one", "other"]) fun _ _ _ _ _ _ us hl => match us, hl with | [_, _, _], _ => rfl
  have F19 := fun_mk (st := s_lenses) l19 c19 k19
  have b19 := F19.binds (ps := ["drawing"]) fun _ _ _ _ _ _ us hl => match us, hl with | [_], _ => rfl
  have F20 := fun_mk (st := s_is_lens) l20 c20 k20
  have b20 := F20.binds (ps := ["drawing", "lens"]) fun _ _ _ _ _ _ us hl => match us, hl with | [_, _], _ => rfl
  have F21 := fun_mk (st := s_loosened) l21 c21 k21
  have b21 := F21.binds (ps := ["drawing", "lens"]) fun _ _ _ _ _ _ us hl => match us, hl with | [_, _], _ => rfl
  have F22 := fun_mk (st := s_looked_at_straight) l22 c22 k22
  have b22 := F22.binds (ps := ["n", "ties", "points"]) fun _ _ _ _ _ _ us hl => match us, hl with | [_, _, _], _ => rfl
  have F23 := fun_mk (st := s_straight) l23 c23 k23
  have b23 := F23.binds (ps := ["web", "points"]) fun _ _ _ _ _ _ us hl => match us, hl with | [_, _], _ => rfl
  have F24 := fun_mk (st := s_is_new) l24 c24 k24
  have b24 := F24.binds (ps := ["drawing", "tie"]) fun _ _ _ _ _ _ us hl => match us, hl with | [_, _], _ => rfl
  have F25 := fun_mk (st := s_is_begin) l25 c25 k25
  have b25 := F25.binds (ps := ["ring", "place"]) fun _ _ _ _ _ _ us hl => match us, hl with | [_, _], _ => rfl
  have F26 := fun_mk (st := s_is_route) l26 c26 k26
  have b26 := F26.binds (ps := ["drawing", "tie", "route"]) fun _ _ _ _ _ _ us hl => match us, hl with | [_, _, _], _ => rfl
  have F27 := fun_mk (st := s_put) l27 c27 k27
  have b27 := F27.binds (ps := ["drawing", "tie", "route"]) fun _ _ _ _ _ _ us hl => match us, hl with | [_, _, _], _ => rfl
  have F28 := fun_mk (st := s_number_read) l28 c28 k28
  have b28 := F28.binds (ps := ["word"]) fun _ _ _ _ _ _ us hl => match us, hl with | [_], _ => rfl
  have F29 := fun_mk (st := s_read) l29 c29 k29
  have b29 := F29.binds (ps := ["text"]) fun _ _ _ _ _ _ us hl => match us, hl with | [_], _ => rfl
  have F30 := fun_mk (st := s_law_bare) l30 c30 k30
  have b30 := F30.binds (ps := ["_law_n"]) fun _ _ _ _ _ _ us hl => match us, hl with | [_], _ => rfl
  have F31 := fun_mk (st := s_law_drawn) l31 c31 k31
  have b31 := F31.binds (ps := ["_law_way", "_law_n"]) fun _ _ _ _ _ _ us hl => match us, hl with | [_, _], _ => rfl
  have F32 := fun_mk (st := s_law_kinds) l32 c32 k32
  have b32 := F32.binds (ps := ["_law_e"]) fun _ _ _ _ _ _ us hl => match us, hl with | [_], _ => rfl
  have F33 := fun_mk (st := s_law_right) l33 c33 k33
  have b33 := F33.binds (ps := ["_law_way", "_law_n"]) fun _ _ _ _ _ _ us hl => match us, hl with | [_, _], _ => rfl
  have F34 := fun_mk (st := s_law) l34 c34 k34
  have b34 := F34.binds (ps := ["_law_script"]) fun _ _ _ _ _ _ us hl => match us, hl with | [_], _ => rfl
  have m0_9 := PySem.W.exm_ref uc9 ud9 qt9 s0_9
  have i0_4 := kit_cl ud4 qt4 s0_4 p4
  have i0_5 := kit_cl ud5 qt5 s0_5 p5
  have i0_1 := kit_cl ud1 qt1 s0_1 p1
  have i0_6 := kit_cl ud6 qt6 s0_6 p6
  have i0_7 := kit_cl ud7 qt7 s0_7 p7
  have i0_8 := kit_cl ud8 qt8 s0_8 p8
  have i0_3 := kit_cl ud3 qt3 s0_3 p3
  have i0_2 := kit_cl ud2 qt2 s0_2 p2
  have i0_0 := kit_cl ud0 qt0 s0_0 p0
  have j0 := kit_ve j0
  have j0_ArithmeticError := kit_bt (by decide +kernel) j0_ArithmeticError
  have j0_LookupError := kit_bt (by decide +kernel) j0_LookupError
  have j0_TypeError := kit_bt (by decide +kernel) j0_TypeError
  have m1_9 := PySem.W.exm_ref uc9 ud9 qt9 s1_9
  have i1_4 := kit_cl ud4 qt4 s1_4 p4
  have i1_5 := kit_cl ud5 qt5 s1_5 p5
  have i1_1 := kit_cl ud1 qt1 s1_1 p1
  have i1_6 := kit_cl ud6 qt6 s1_6 p6
  have i1_7 := kit_cl ud7 qt7 s1_7 p7
  have i1_8 := kit_cl ud8 qt8 s1_8 p8
  have i1_3 := kit_cl ud3 qt3 s1_3 p3
  have i1_2 := kit_cl ud2 qt2 s1_2 p2
  have i1_0 := kit_cl ud0 qt0 s1_0 p0
  have j1 := kit_ve j1
  have j1_ArithmeticError := kit_bt (by decide +kernel) j1_ArithmeticError
  have j1_LookupError := kit_bt (by decide +kernel) j1_LookupError
  have j1_TypeError := kit_bt (by decide +kernel) j1_TypeError
  have m2_9 := PySem.W.exm_ref uc9 ud9 qt9 s2_9
  have i2_4 := kit_cl ud4 qt4 s2_4 p4
  have i2_5 := kit_cl ud5 qt5 s2_5 p5
  have i2_1 := kit_cl ud1 qt1 s2_1 p1
  have i2_6 := kit_cl ud6 qt6 s2_6 p6
  have i2_7 := kit_cl ud7 qt7 s2_7 p7
  have i2_8 := kit_cl ud8 qt8 s2_8 p8
  have i2_3 := kit_cl ud3 qt3 s2_3 p3
  have i2_2 := kit_cl ud2 qt2 s2_2 p2
  have i2_0 := kit_cl ud0 qt0 s2_0 p0
  have j2 := kit_ve j2
  have j2_ArithmeticError := kit_bt (by decide +kernel) j2_ArithmeticError
  have j2_LookupError := kit_bt (by decide +kernel) j2_LookupError
  have j2_TypeError := kit_bt (by decide +kernel) j2_TypeError
  have m3_9 := PySem.W.exm_ref uc9 ud9 qt9 s3_9
  have i3_4 := kit_cl ud4 qt4 s3_4 p4
  have i3_5 := kit_cl ud5 qt5 s3_5 p5
  have i3_1 := kit_cl ud1 qt1 s3_1 p1
  have i3_6 := kit_cl ud6 qt6 s3_6 p6
  have i3_7 := kit_cl ud7 qt7 s3_7 p7
  have i3_8 := kit_cl ud8 qt8 s3_8 p8
  have i3_3 := kit_cl ud3 qt3 s3_3 p3
  have i3_2 := kit_cl ud2 qt2 s3_2 p2
  have i3_0 := kit_cl ud0 qt0 s3_0 p0
  have j3 := kit_ve j3
  have j3_ArithmeticError := kit_bt (by decide +kernel) j3_ArithmeticError
  have j3_LookupError := kit_bt (by decide +kernel) j3_LookupError
  have j3_TypeError := kit_bt (by decide +kernel) j3_TypeError
  have m4_9 := PySem.W.exm_ref uc9 ud9 qt9 s4_9
  have i4_4 := kit_cl ud4 qt4 s4_4 p4
  have i4_5 := kit_cl ud5 qt5 s4_5 p5
  have i4_1 := kit_cl ud1 qt1 s4_1 p1
  have i4_6 := kit_cl ud6 qt6 s4_6 p6
  have i4_7 := kit_cl ud7 qt7 s4_7 p7
  have i4_8 := kit_cl ud8 qt8 s4_8 p8
  have i4_3 := kit_cl ud3 qt3 s4_3 p3
  have i4_2 := kit_cl ud2 qt2 s4_2 p2
  have i4_0 := kit_cl ud0 qt0 s4_0 p0
  have j4 := kit_ve j4
  have j4_ArithmeticError := kit_bt (by decide +kernel) j4_ArithmeticError
  have j4_LookupError := kit_bt (by decide +kernel) j4_LookupError
  have j4_TypeError := kit_bt (by decide +kernel) j4_TypeError
  have m5_9 := PySem.W.exm_ref uc9 ud9 qt9 s5_9
  have i5_4 := kit_cl ud4 qt4 s5_4 p4
  have i5_5 := kit_cl ud5 qt5 s5_5 p5
  have i5_1 := kit_cl ud1 qt1 s5_1 p1
  have i5_6 := kit_cl ud6 qt6 s5_6 p6
  have i5_7 := kit_cl ud7 qt7 s5_7 p7
  have i5_8 := kit_cl ud8 qt8 s5_8 p8
  have i5_3 := kit_cl ud3 qt3 s5_3 p3
  have i5_2 := kit_cl ud2 qt2 s5_2 p2
  have i5_0 := kit_cl ud0 qt0 s5_0 p0
  have j5 := kit_ve j5
  have j5_ArithmeticError := kit_bt (by decide +kernel) j5_ArithmeticError
  have j5_LookupError := kit_bt (by decide +kernel) j5_LookupError
  have j5_TypeError := kit_bt (by decide +kernel) j5_TypeError
  have m6_9 := PySem.W.exm_ref uc9 ud9 qt9 s6_9
  have i6_4 := kit_cl ud4 qt4 s6_4 p4
  have i6_5 := kit_cl ud5 qt5 s6_5 p5
  have i6_1 := kit_cl ud1 qt1 s6_1 p1
  have i6_6 := kit_cl ud6 qt6 s6_6 p6
  have i6_7 := kit_cl ud7 qt7 s6_7 p7
  have i6_8 := kit_cl ud8 qt8 s6_8 p8
  have i6_3 := kit_cl ud3 qt3 s6_3 p3
  have i6_2 := kit_cl ud2 qt2 s6_2 p2
  have i6_0 := kit_cl ud0 qt0 s6_0 p0
  have j6 := kit_ve j6
  have j6_ArithmeticError := kit_bt (by decide +kernel) j6_ArithmeticError
  have j6_LookupError := kit_bt (by decide +kernel) j6_LookupError
  have j6_TypeError := kit_bt (by decide +kernel) j6_TypeError
  have m7_9 := PySem.W.exm_ref uc9 ud9 qt9 s7_9
  have i7_4 := kit_cl ud4 qt4 s7_4 p4
  have i7_5 := kit_cl ud5 qt5 s7_5 p5
  have i7_1 := kit_cl ud1 qt1 s7_1 p1
  have i7_6 := kit_cl ud6 qt6 s7_6 p6
  have i7_7 := kit_cl ud7 qt7 s7_7 p7
  have i7_8 := kit_cl ud8 qt8 s7_8 p8
  have i7_3 := kit_cl ud3 qt3 s7_3 p3
  have i7_2 := kit_cl ud2 qt2 s7_2 p2
  have i7_0 := kit_cl ud0 qt0 s7_0 p0
  have j7 := kit_ve j7
  have j7_ArithmeticError := kit_bt (by decide +kernel) j7_ArithmeticError
  have j7_LookupError := kit_bt (by decide +kernel) j7_LookupError
  have j7_TypeError := kit_bt (by decide +kernel) j7_TypeError
  have m8_9 := PySem.W.exm_ref uc9 ud9 qt9 s8_9
  have i8_4 := kit_cl ud4 qt4 s8_4 p4
  have i8_5 := kit_cl ud5 qt5 s8_5 p5
  have i8_1 := kit_cl ud1 qt1 s8_1 p1
  have i8_6 := kit_cl ud6 qt6 s8_6 p6
  have i8_7 := kit_cl ud7 qt7 s8_7 p7
  have i8_8 := kit_cl ud8 qt8 s8_8 p8
  have i8_3 := kit_cl ud3 qt3 s8_3 p3
  have i8_2 := kit_cl ud2 qt2 s8_2 p2
  have i8_0 := kit_cl ud0 qt0 s8_0 p0
  have j8 := kit_ve j8
  have j8_ArithmeticError := kit_bt (by decide +kernel) j8_ArithmeticError
  have j8_LookupError := kit_bt (by decide +kernel) j8_LookupError
  have j8_TypeError := kit_bt (by decide +kernel) j8_TypeError
  have o4 := kit_cl ud4 qt4 o4 p4
  have o5 := kit_cl ud5 qt5 o5 p5
  have o1 := kit_cl ud1 qt1 o1 p1
  have o6 := kit_cl ud6 qt6 o6 p6
  have o7 := kit_cl ud7 qt7 o7 p7
  have o8 := kit_cl ud8 qt8 o8 p8
  have o3 := kit_cl ud3 qt3 o3 p3
  have o2 := kit_cl ud2 qt2 o2 p2
  have o0 := kit_cl ud0 qt0 o0 p0
  have ec0 : ExcC K C0 := ⟨ua0, ub0, uc0, ud0, ue0, ug, uh, uf0⟩
  have e0 : cAK cn K 0 = C0 := cAK_at (cn := cn) (c := 0) q0
  have z0 : Cls K mg "TooMany" (cAK cn K 0) := by rw [e0]; exact ⟨q0, PySem.W.mg_of X G q0, qk0, qe0, qt0, ec0⟩
  have ec1 : ExcC K C1 := ⟨ua1, ub1, uc1, ud1, ue1, ug, uh, uf1⟩
  have e1 : cAK cn K 1 = C1 := cAK_at (cn := cn) (c := 1) q1
  have z1 : Cls K mg "NoOrder" (cAK cn K 1) := by rw [e1]; exact ⟨q1, PySem.W.mg_of X G q1, qk1, qe1, qt1, ec1⟩
  have ec2 : ExcC K C2 := ⟨ua2, ub2, uc2, ud2, ue2, ug, uh, uf2⟩
  have e2 : cAK cn K 2 = C2 := cAK_at (cn := cn) (c := 2) q2
  have z2 : Cls K mg "NoWeb" (cAK cn K 2) := by rw [e2]; exact ⟨q2, PySem.W.mg_of X G q2, qk2, qe2, qt2, ec2⟩
  have ec3 : ExcC K C3 := ⟨ua3, ub3, uc3, ud3, ue3, ug, uh, uf3⟩
  have e3 : cAK cn K 3 = C3 := cAK_at (cn := cn) (c := 3) q3
  have z3 : Cls K mg "NoTie" (cAK cn K 3) := by rw [e3]; exact ⟨q3, PySem.W.mg_of X G q3, qk3, qe3, qt3, ec3⟩
  have ec4 : ExcC K C4 := ⟨ua4, ub4, uc4, ud4, ue4, ug, uh, uf4⟩
  have e4 : cAK cn K 4 = C4 := cAK_at (cn := cn) (c := 4) q4
  have z4 : Cls K mg "NoDrawing" (cAK cn K 4) := by rw [e4]; exact ⟨q4, PySem.W.mg_of X G q4, qk4, qe4, qt4, ec4⟩
  have ec5 : ExcC K C5 := ⟨ua5, ub5, uc5, ud5, ue5, ug, uh, uf5⟩
  have e5 : cAK cn K 5 = C5 := cAK_at (cn := cn) (c := 5) q5
  have z5 : Cls K mg "NoLens" (cAK cn K 5) := by rw [e5]; exact ⟨q5, PySem.W.mg_of X G q5, qk5, qe5, qt5, ec5⟩
  have ec6 : ExcC K C6 := ⟨ua6, ub6, uc6, ud6, ue6, ug, uh, uf6⟩
  have e6 : cAK cn K 6 = C6 := cAK_at (cn := cn) (c := 6) q6
  have z6 : Cls K mg "NoPoints" (cAK cn K 6) := by rw [e6]; exact ⟨q6, PySem.W.mg_of X G q6, qk6, qe6, qt6, ec6⟩
  have ec7 : ExcC K C7 := ⟨ua7, ub7, uc7, ud7, ue7, ug, uh, uf7⟩
  have e7 : cAK cn K 7 = C7 := cAK_at (cn := cn) (c := 7) q7
  have z7 : Cls K mg "NoRoute" (cAK cn K 7) := by rw [e7]; exact ⟨q7, PySem.W.mg_of X G q7, qk7, qe7, qt7, ec7⟩
  have ec8 : ExcC K C8 := ⟨ua8, ub8, uc8, ud8, ue8, ug, uh, uf8⟩
  have e8 : cAK cn K 8 = C8 := cAK_at (cn := cn) (c := 8) q8
  have z8 : Cls K mg "NoText" (cAK cn K 8) := by rw [e8]; exact ⟨q8, PySem.W.mg_of X G q8, qk8, qe8, qt8, ec8⟩
  have ec9 : ExcC K C9 := ⟨ua9, ub9, uc9, ud9, ue9, ug, uh, uf9⟩
  have e9 : cAK cn K 9 = C9 := cAK_at (cn := cn) (c := 9) q9
  have z9 : Cls K mg "CrossError" (cAK cn K 9) := by rw [e9]; exact ⟨q9, PySem.W.mg_of X G q9, qk9, qe9, qt9, ec9⟩
  have hx9 : ∀ c b, ct_CrossError c = some b → PySem.W.exmOne K (.ref (cAK cn K c)) (.ref (cAK cn K 9)) = some b := fun c b h => match c, h with
    | 0, h => by cases h; rw [e0, e9]; exact m0_9
    | 1, h => by cases h; rw [e1, e9]; exact m1_9
    | 2, h => by cases h; rw [e2, e9]; exact m2_9
    | 3, h => by cases h; rw [e3, e9]; exact m3_9
    | 4, h => by cases h; rw [e4, e9]; exact m4_9
    | 5, h => by cases h; rw [e5, e9]; exact m5_9
    | 6, h => by cases h; rw [e6, e9]; exact m6_9
    | 7, h => by cases h; rw [e7, e9]; exact m7_9
    | 8, h => by cases h; rw [e8, e9]; exact m8_9
    | _ + 9, h => by cases h
  have hn9 : ∀ c, ct_CrossError c = some true → PySem.W.nsIn K mainGlobals (cn c) = some (some (.ref (cAK cn K c))) := fun c h => match c, h with
    | 0, _ => by rw [e0]; exact q0
    | 1, _ => by rw [e1]; exact q1
    | 2, _ => by rw [e2]; exact q2
    | 3, _ => by rw [e3]; exact q3
    | 4, _ => by rw [e4]; exact q4
    | 5, _ => by rw [e5]; exact q5
    | 6, _ => by rw [e6]; exact q6
    | 7, _ => by rw [e7]; exact q7
    | 8, _ => by rw [e8]; exact q8
    | _ + 9, h => by cases h
  have hisx : IsX K tabX tbX noX := by
    refine ⟨fun x y b D1 D2 h h1 h2 => ?_, fun x T b D1 h h1 => ?_, fun y D2 h h2 => ?_⟩
    · unfold tabX at h
      by_cases x0 : x = ("TooMany" : Str)
      · rw [if_pos x0] at h; rw [x0, q0] at h1; cases h1
        by_cases y4 : y = ("NoDrawing" : Str)
        · rw [if_pos y4] at h; cases h; rw [y4, q4] at h2; cases h2; exact ⟨ec0, i0_4⟩
        rw [if_neg y4] at h
        by_cases y5 : y = ("NoLens" : Str)
        · rw [if_pos y5] at h; cases h; rw [y5, q5] at h2; cases h2; exact ⟨ec0, i0_5⟩
        rw [if_neg y5] at h
        by_cases y1 : y = ("NoOrder" : Str)
        · rw [if_pos y1] at h; cases h; rw [y1, q1] at h2; cases h2; exact ⟨ec0, i0_1⟩
        rw [if_neg y1] at h
        by_cases y6 : y = ("NoPoints" : Str)
        · rw [if_pos y6] at h; cases h; rw [y6, q6] at h2; cases h2; exact ⟨ec0, i0_6⟩
        rw [if_neg y6] at h
        by_cases y7 : y = ("NoRoute" : Str)
        · rw [if_pos y7] at h; cases h; rw [y7, q7] at h2; cases h2; exact ⟨ec0, i0_7⟩
        rw [if_neg y7] at h
        by_cases y8 : y = ("NoText" : Str)
        · rw [if_pos y8] at h; cases h; rw [y8, q8] at h2; cases h2; exact ⟨ec0, i0_8⟩
        rw [if_neg y8] at h
        by_cases y3 : y = ("NoTie" : Str)
        · rw [if_pos y3] at h; cases h; rw [y3, q3] at h2; cases h2; exact ⟨ec0, i0_3⟩
        rw [if_neg y3] at h
        by_cases y2 : y = ("NoWeb" : Str)
        · rw [if_pos y2] at h; cases h; rw [y2, q2] at h2; cases h2; exact ⟨ec0, i0_2⟩
        rw [if_neg y2] at h
        by_cases y0 : y = ("TooMany" : Str)
        · rw [if_pos y0] at h; cases h; rw [y0, q0] at h2; cases h2; exact ⟨ec0, i0_0⟩
        rw [if_neg y0] at h
        cases h
      rw [if_neg x0] at h
      by_cases x1 : x = ("NoOrder" : Str)
      · rw [if_pos x1] at h; rw [x1, q1] at h1; cases h1
        by_cases y4 : y = ("NoDrawing" : Str)
        · rw [if_pos y4] at h; cases h; rw [y4, q4] at h2; cases h2; exact ⟨ec1, i1_4⟩
        rw [if_neg y4] at h
        by_cases y5 : y = ("NoLens" : Str)
        · rw [if_pos y5] at h; cases h; rw [y5, q5] at h2; cases h2; exact ⟨ec1, i1_5⟩
        rw [if_neg y5] at h
        by_cases y1 : y = ("NoOrder" : Str)
        · rw [if_pos y1] at h; cases h; rw [y1, q1] at h2; cases h2; exact ⟨ec1, i1_1⟩
        rw [if_neg y1] at h
        by_cases y6 : y = ("NoPoints" : Str)
        · rw [if_pos y6] at h; cases h; rw [y6, q6] at h2; cases h2; exact ⟨ec1, i1_6⟩
        rw [if_neg y6] at h
        by_cases y7 : y = ("NoRoute" : Str)
        · rw [if_pos y7] at h; cases h; rw [y7, q7] at h2; cases h2; exact ⟨ec1, i1_7⟩
        rw [if_neg y7] at h
        by_cases y8 : y = ("NoText" : Str)
        · rw [if_pos y8] at h; cases h; rw [y8, q8] at h2; cases h2; exact ⟨ec1, i1_8⟩
        rw [if_neg y8] at h
        by_cases y3 : y = ("NoTie" : Str)
        · rw [if_pos y3] at h; cases h; rw [y3, q3] at h2; cases h2; exact ⟨ec1, i1_3⟩
        rw [if_neg y3] at h
        by_cases y2 : y = ("NoWeb" : Str)
        · rw [if_pos y2] at h; cases h; rw [y2, q2] at h2; cases h2; exact ⟨ec1, i1_2⟩
        rw [if_neg y2] at h
        by_cases y0 : y = ("TooMany" : Str)
        · rw [if_pos y0] at h; cases h; rw [y0, q0] at h2; cases h2; exact ⟨ec1, i1_0⟩
        rw [if_neg y0] at h
        cases h
      rw [if_neg x1] at h
      by_cases x2 : x = ("NoWeb" : Str)
      · rw [if_pos x2] at h; rw [x2, q2] at h1; cases h1
        by_cases y4 : y = ("NoDrawing" : Str)
        · rw [if_pos y4] at h; cases h; rw [y4, q4] at h2; cases h2; exact ⟨ec2, i2_4⟩
        rw [if_neg y4] at h
        by_cases y5 : y = ("NoLens" : Str)
        · rw [if_pos y5] at h; cases h; rw [y5, q5] at h2; cases h2; exact ⟨ec2, i2_5⟩
        rw [if_neg y5] at h
        by_cases y1 : y = ("NoOrder" : Str)
        · rw [if_pos y1] at h; cases h; rw [y1, q1] at h2; cases h2; exact ⟨ec2, i2_1⟩
        rw [if_neg y1] at h
        by_cases y6 : y = ("NoPoints" : Str)
        · rw [if_pos y6] at h; cases h; rw [y6, q6] at h2; cases h2; exact ⟨ec2, i2_6⟩
        rw [if_neg y6] at h
        by_cases y7 : y = ("NoRoute" : Str)
        · rw [if_pos y7] at h; cases h; rw [y7, q7] at h2; cases h2; exact ⟨ec2, i2_7⟩
        rw [if_neg y7] at h
        by_cases y8 : y = ("NoText" : Str)
        · rw [if_pos y8] at h; cases h; rw [y8, q8] at h2; cases h2; exact ⟨ec2, i2_8⟩
        rw [if_neg y8] at h
        by_cases y3 : y = ("NoTie" : Str)
        · rw [if_pos y3] at h; cases h; rw [y3, q3] at h2; cases h2; exact ⟨ec2, i2_3⟩
        rw [if_neg y3] at h
        by_cases y2 : y = ("NoWeb" : Str)
        · rw [if_pos y2] at h; cases h; rw [y2, q2] at h2; cases h2; exact ⟨ec2, i2_2⟩
        rw [if_neg y2] at h
        by_cases y0 : y = ("TooMany" : Str)
        · rw [if_pos y0] at h; cases h; rw [y0, q0] at h2; cases h2; exact ⟨ec2, i2_0⟩
        rw [if_neg y0] at h
        cases h
      rw [if_neg x2] at h
      by_cases x3 : x = ("NoTie" : Str)
      · rw [if_pos x3] at h; rw [x3, q3] at h1; cases h1
        by_cases y4 : y = ("NoDrawing" : Str)
        · rw [if_pos y4] at h; cases h; rw [y4, q4] at h2; cases h2; exact ⟨ec3, i3_4⟩
        rw [if_neg y4] at h
        by_cases y5 : y = ("NoLens" : Str)
        · rw [if_pos y5] at h; cases h; rw [y5, q5] at h2; cases h2; exact ⟨ec3, i3_5⟩
        rw [if_neg y5] at h
        by_cases y1 : y = ("NoOrder" : Str)
        · rw [if_pos y1] at h; cases h; rw [y1, q1] at h2; cases h2; exact ⟨ec3, i3_1⟩
        rw [if_neg y1] at h
        by_cases y6 : y = ("NoPoints" : Str)
        · rw [if_pos y6] at h; cases h; rw [y6, q6] at h2; cases h2; exact ⟨ec3, i3_6⟩
        rw [if_neg y6] at h
        by_cases y7 : y = ("NoRoute" : Str)
        · rw [if_pos y7] at h; cases h; rw [y7, q7] at h2; cases h2; exact ⟨ec3, i3_7⟩
        rw [if_neg y7] at h
        by_cases y8 : y = ("NoText" : Str)
        · rw [if_pos y8] at h; cases h; rw [y8, q8] at h2; cases h2; exact ⟨ec3, i3_8⟩
        rw [if_neg y8] at h
        by_cases y3 : y = ("NoTie" : Str)
        · rw [if_pos y3] at h; cases h; rw [y3, q3] at h2; cases h2; exact ⟨ec3, i3_3⟩
        rw [if_neg y3] at h
        by_cases y2 : y = ("NoWeb" : Str)
        · rw [if_pos y2] at h; cases h; rw [y2, q2] at h2; cases h2; exact ⟨ec3, i3_2⟩
        rw [if_neg y2] at h
        by_cases y0 : y = ("TooMany" : Str)
        · rw [if_pos y0] at h; cases h; rw [y0, q0] at h2; cases h2; exact ⟨ec3, i3_0⟩
        rw [if_neg y0] at h
        cases h
      rw [if_neg x3] at h
      by_cases x4 : x = ("NoDrawing" : Str)
      · rw [if_pos x4] at h; rw [x4, q4] at h1; cases h1
        by_cases y4 : y = ("NoDrawing" : Str)
        · rw [if_pos y4] at h; cases h; rw [y4, q4] at h2; cases h2; exact ⟨ec4, i4_4⟩
        rw [if_neg y4] at h
        by_cases y5 : y = ("NoLens" : Str)
        · rw [if_pos y5] at h; cases h; rw [y5, q5] at h2; cases h2; exact ⟨ec4, i4_5⟩
        rw [if_neg y5] at h
        by_cases y1 : y = ("NoOrder" : Str)
        · rw [if_pos y1] at h; cases h; rw [y1, q1] at h2; cases h2; exact ⟨ec4, i4_1⟩
        rw [if_neg y1] at h
        by_cases y6 : y = ("NoPoints" : Str)
        · rw [if_pos y6] at h; cases h; rw [y6, q6] at h2; cases h2; exact ⟨ec4, i4_6⟩
        rw [if_neg y6] at h
        by_cases y7 : y = ("NoRoute" : Str)
        · rw [if_pos y7] at h; cases h; rw [y7, q7] at h2; cases h2; exact ⟨ec4, i4_7⟩
        rw [if_neg y7] at h
        by_cases y8 : y = ("NoText" : Str)
        · rw [if_pos y8] at h; cases h; rw [y8, q8] at h2; cases h2; exact ⟨ec4, i4_8⟩
        rw [if_neg y8] at h
        by_cases y3 : y = ("NoTie" : Str)
        · rw [if_pos y3] at h; cases h; rw [y3, q3] at h2; cases h2; exact ⟨ec4, i4_3⟩
        rw [if_neg y3] at h
        by_cases y2 : y = ("NoWeb" : Str)
        · rw [if_pos y2] at h; cases h; rw [y2, q2] at h2; cases h2; exact ⟨ec4, i4_2⟩
        rw [if_neg y2] at h
        by_cases y0 : y = ("TooMany" : Str)
        · rw [if_pos y0] at h; cases h; rw [y0, q0] at h2; cases h2; exact ⟨ec4, i4_0⟩
        rw [if_neg y0] at h
        cases h
      rw [if_neg x4] at h
      by_cases x5 : x = ("NoLens" : Str)
      · rw [if_pos x5] at h; rw [x5, q5] at h1; cases h1
        by_cases y4 : y = ("NoDrawing" : Str)
        · rw [if_pos y4] at h; cases h; rw [y4, q4] at h2; cases h2; exact ⟨ec5, i5_4⟩
        rw [if_neg y4] at h
        by_cases y5 : y = ("NoLens" : Str)
        · rw [if_pos y5] at h; cases h; rw [y5, q5] at h2; cases h2; exact ⟨ec5, i5_5⟩
        rw [if_neg y5] at h
        by_cases y1 : y = ("NoOrder" : Str)
        · rw [if_pos y1] at h; cases h; rw [y1, q1] at h2; cases h2; exact ⟨ec5, i5_1⟩
        rw [if_neg y1] at h
        by_cases y6 : y = ("NoPoints" : Str)
        · rw [if_pos y6] at h; cases h; rw [y6, q6] at h2; cases h2; exact ⟨ec5, i5_6⟩
        rw [if_neg y6] at h
        by_cases y7 : y = ("NoRoute" : Str)
        · rw [if_pos y7] at h; cases h; rw [y7, q7] at h2; cases h2; exact ⟨ec5, i5_7⟩
        rw [if_neg y7] at h
        by_cases y8 : y = ("NoText" : Str)
        · rw [if_pos y8] at h; cases h; rw [y8, q8] at h2; cases h2; exact ⟨ec5, i5_8⟩
        rw [if_neg y8] at h
        by_cases y3 : y = ("NoTie" : Str)
        · rw [if_pos y3] at h; cases h; rw [y3, q3] at h2; cases h2; exact ⟨ec5, i5_3⟩
        rw [if_neg y3] at h
        by_cases y2 : y = ("NoWeb" : Str)
        · rw [if_pos y2] at h; cases h; rw [y2, q2] at h2; cases h2; exact ⟨ec5, i5_2⟩
        rw [if_neg y2] at h
        by_cases y0 : y = ("TooMany" : Str)
        · rw [if_pos y0] at h; cases h; rw [y0, q0] at h2; cases h2; exact ⟨ec5, i5_0⟩
        rw [if_neg y0] at h
        cases h
      rw [if_neg x5] at h
      by_cases x6 : x = ("NoPoints" : Str)
      · rw [if_pos x6] at h; rw [x6, q6] at h1; cases h1
        by_cases y4 : y = ("NoDrawing" : Str)
        · rw [if_pos y4] at h; cases h; rw [y4, q4] at h2; cases h2; exact ⟨ec6, i6_4⟩
        rw [if_neg y4] at h
        by_cases y5 : y = ("NoLens" : Str)
        · rw [if_pos y5] at h; cases h; rw [y5, q5] at h2; cases h2; exact ⟨ec6, i6_5⟩
        rw [if_neg y5] at h
        by_cases y1 : y = ("NoOrder" : Str)
        · rw [if_pos y1] at h; cases h; rw [y1, q1] at h2; cases h2; exact ⟨ec6, i6_1⟩
        rw [if_neg y1] at h
        by_cases y6 : y = ("NoPoints" : Str)
        · rw [if_pos y6] at h; cases h; rw [y6, q6] at h2; cases h2; exact ⟨ec6, i6_6⟩
        rw [if_neg y6] at h
        by_cases y7 : y = ("NoRoute" : Str)
        · rw [if_pos y7] at h; cases h; rw [y7, q7] at h2; cases h2; exact ⟨ec6, i6_7⟩
        rw [if_neg y7] at h
        by_cases y8 : y = ("NoText" : Str)
        · rw [if_pos y8] at h; cases h; rw [y8, q8] at h2; cases h2; exact ⟨ec6, i6_8⟩
        rw [if_neg y8] at h
        by_cases y3 : y = ("NoTie" : Str)
        · rw [if_pos y3] at h; cases h; rw [y3, q3] at h2; cases h2; exact ⟨ec6, i6_3⟩
        rw [if_neg y3] at h
        by_cases y2 : y = ("NoWeb" : Str)
        · rw [if_pos y2] at h; cases h; rw [y2, q2] at h2; cases h2; exact ⟨ec6, i6_2⟩
        rw [if_neg y2] at h
        by_cases y0 : y = ("TooMany" : Str)
        · rw [if_pos y0] at h; cases h; rw [y0, q0] at h2; cases h2; exact ⟨ec6, i6_0⟩
        rw [if_neg y0] at h
        cases h
      rw [if_neg x6] at h
      by_cases x7 : x = ("NoRoute" : Str)
      · rw [if_pos x7] at h; rw [x7, q7] at h1; cases h1
        by_cases y4 : y = ("NoDrawing" : Str)
        · rw [if_pos y4] at h; cases h; rw [y4, q4] at h2; cases h2; exact ⟨ec7, i7_4⟩
        rw [if_neg y4] at h
        by_cases y5 : y = ("NoLens" : Str)
        · rw [if_pos y5] at h; cases h; rw [y5, q5] at h2; cases h2; exact ⟨ec7, i7_5⟩
        rw [if_neg y5] at h
        by_cases y1 : y = ("NoOrder" : Str)
        · rw [if_pos y1] at h; cases h; rw [y1, q1] at h2; cases h2; exact ⟨ec7, i7_1⟩
        rw [if_neg y1] at h
        by_cases y6 : y = ("NoPoints" : Str)
        · rw [if_pos y6] at h; cases h; rw [y6, q6] at h2; cases h2; exact ⟨ec7, i7_6⟩
        rw [if_neg y6] at h
        by_cases y7 : y = ("NoRoute" : Str)
        · rw [if_pos y7] at h; cases h; rw [y7, q7] at h2; cases h2; exact ⟨ec7, i7_7⟩
        rw [if_neg y7] at h
        by_cases y8 : y = ("NoText" : Str)
        · rw [if_pos y8] at h; cases h; rw [y8, q8] at h2; cases h2; exact ⟨ec7, i7_8⟩
        rw [if_neg y8] at h
        by_cases y3 : y = ("NoTie" : Str)
        · rw [if_pos y3] at h; cases h; rw [y3, q3] at h2; cases h2; exact ⟨ec7, i7_3⟩
        rw [if_neg y3] at h
        by_cases y2 : y = ("NoWeb" : Str)
        · rw [if_pos y2] at h; cases h; rw [y2, q2] at h2; cases h2; exact ⟨ec7, i7_2⟩
        rw [if_neg y2] at h
        by_cases y0 : y = ("TooMany" : Str)
        · rw [if_pos y0] at h; cases h; rw [y0, q0] at h2; cases h2; exact ⟨ec7, i7_0⟩
        rw [if_neg y0] at h
        cases h
      rw [if_neg x7] at h
      by_cases x8 : x = ("NoText" : Str)
      · rw [if_pos x8] at h; rw [x8, q8] at h1; cases h1
        by_cases y4 : y = ("NoDrawing" : Str)
        · rw [if_pos y4] at h; cases h; rw [y4, q4] at h2; cases h2; exact ⟨ec8, i8_4⟩
        rw [if_neg y4] at h
        by_cases y5 : y = ("NoLens" : Str)
        · rw [if_pos y5] at h; cases h; rw [y5, q5] at h2; cases h2; exact ⟨ec8, i8_5⟩
        rw [if_neg y5] at h
        by_cases y1 : y = ("NoOrder" : Str)
        · rw [if_pos y1] at h; cases h; rw [y1, q1] at h2; cases h2; exact ⟨ec8, i8_1⟩
        rw [if_neg y1] at h
        by_cases y6 : y = ("NoPoints" : Str)
        · rw [if_pos y6] at h; cases h; rw [y6, q6] at h2; cases h2; exact ⟨ec8, i8_6⟩
        rw [if_neg y6] at h
        by_cases y7 : y = ("NoRoute" : Str)
        · rw [if_pos y7] at h; cases h; rw [y7, q7] at h2; cases h2; exact ⟨ec8, i8_7⟩
        rw [if_neg y7] at h
        by_cases y8 : y = ("NoText" : Str)
        · rw [if_pos y8] at h; cases h; rw [y8, q8] at h2; cases h2; exact ⟨ec8, i8_8⟩
        rw [if_neg y8] at h
        by_cases y3 : y = ("NoTie" : Str)
        · rw [if_pos y3] at h; cases h; rw [y3, q3] at h2; cases h2; exact ⟨ec8, i8_3⟩
        rw [if_neg y3] at h
        by_cases y2 : y = ("NoWeb" : Str)
        · rw [if_pos y2] at h; cases h; rw [y2, q2] at h2; cases h2; exact ⟨ec8, i8_2⟩
        rw [if_neg y2] at h
        by_cases y0 : y = ("TooMany" : Str)
        · rw [if_pos y0] at h; cases h; rw [y0, q0] at h2; cases h2; exact ⟨ec8, i8_0⟩
        rw [if_neg y0] at h
        cases h
      rw [if_neg x8] at h
      cases h
    · unfold tbX at h
      by_cases x0 : x = ("TooMany" : Str)
      · rw [if_pos x0] at h; rw [x0, q0] at h1; cases h1
        by_cases y0 : T = "ValueError"
        · rw [if_pos y0] at h; cases h; rw [y0]; exact ⟨ec0, j0⟩
        rw [if_neg y0] at h
        by_cases yb0 : T = "ArithmeticError"
        · rw [if_pos yb0] at h; cases h; rw [yb0]; exact ⟨ec0, j0_ArithmeticError⟩
        rw [if_neg yb0] at h
        by_cases yb1 : T = "LookupError"
        · rw [if_pos yb1] at h; cases h; rw [yb1]; exact ⟨ec0, j0_LookupError⟩
        rw [if_neg yb1] at h
        by_cases yb2 : T = "TypeError"
        · rw [if_pos yb2] at h; cases h; rw [yb2]; exact ⟨ec0, j0_TypeError⟩
        rw [if_neg yb2] at h
        cases h
      rw [if_neg x0] at h
      by_cases x1 : x = ("NoOrder" : Str)
      · rw [if_pos x1] at h; rw [x1, q1] at h1; cases h1
        by_cases y0 : T = "ValueError"
        · rw [if_pos y0] at h; cases h; rw [y0]; exact ⟨ec1, j1⟩
        rw [if_neg y0] at h
        by_cases yb0 : T = "ArithmeticError"
        · rw [if_pos yb0] at h; cases h; rw [yb0]; exact ⟨ec1, j1_ArithmeticError⟩
        rw [if_neg yb0] at h
        by_cases yb1 : T = "LookupError"
        · rw [if_pos yb1] at h; cases h; rw [yb1]; exact ⟨ec1, j1_LookupError⟩
        rw [if_neg yb1] at h
        by_cases yb2 : T = "TypeError"
        · rw [if_pos yb2] at h; cases h; rw [yb2]; exact ⟨ec1, j1_TypeError⟩
        rw [if_neg yb2] at h
        cases h
      rw [if_neg x1] at h
      by_cases x2 : x = ("NoWeb" : Str)
      · rw [if_pos x2] at h; rw [x2, q2] at h1; cases h1
        by_cases y0 : T = "ValueError"
        · rw [if_pos y0] at h; cases h; rw [y0]; exact ⟨ec2, j2⟩
        rw [if_neg y0] at h
        by_cases yb0 : T = "ArithmeticError"
        · rw [if_pos yb0] at h; cases h; rw [yb0]; exact ⟨ec2, j2_ArithmeticError⟩
        rw [if_neg yb0] at h
        by_cases yb1 : T = "LookupError"
        · rw [if_pos yb1] at h; cases h; rw [yb1]; exact ⟨ec2, j2_LookupError⟩
        rw [if_neg yb1] at h
        by_cases yb2 : T = "TypeError"
        · rw [if_pos yb2] at h; cases h; rw [yb2]; exact ⟨ec2, j2_TypeError⟩
        rw [if_neg yb2] at h
        cases h
      rw [if_neg x2] at h
      by_cases x3 : x = ("NoTie" : Str)
      · rw [if_pos x3] at h; rw [x3, q3] at h1; cases h1
        by_cases y0 : T = "ValueError"
        · rw [if_pos y0] at h; cases h; rw [y0]; exact ⟨ec3, j3⟩
        rw [if_neg y0] at h
        by_cases yb0 : T = "ArithmeticError"
        · rw [if_pos yb0] at h; cases h; rw [yb0]; exact ⟨ec3, j3_ArithmeticError⟩
        rw [if_neg yb0] at h
        by_cases yb1 : T = "LookupError"
        · rw [if_pos yb1] at h; cases h; rw [yb1]; exact ⟨ec3, j3_LookupError⟩
        rw [if_neg yb1] at h
        by_cases yb2 : T = "TypeError"
        · rw [if_pos yb2] at h; cases h; rw [yb2]; exact ⟨ec3, j3_TypeError⟩
        rw [if_neg yb2] at h
        cases h
      rw [if_neg x3] at h
      by_cases x4 : x = ("NoDrawing" : Str)
      · rw [if_pos x4] at h; rw [x4, q4] at h1; cases h1
        by_cases y0 : T = "ValueError"
        · rw [if_pos y0] at h; cases h; rw [y0]; exact ⟨ec4, j4⟩
        rw [if_neg y0] at h
        by_cases yb0 : T = "ArithmeticError"
        · rw [if_pos yb0] at h; cases h; rw [yb0]; exact ⟨ec4, j4_ArithmeticError⟩
        rw [if_neg yb0] at h
        by_cases yb1 : T = "LookupError"
        · rw [if_pos yb1] at h; cases h; rw [yb1]; exact ⟨ec4, j4_LookupError⟩
        rw [if_neg yb1] at h
        by_cases yb2 : T = "TypeError"
        · rw [if_pos yb2] at h; cases h; rw [yb2]; exact ⟨ec4, j4_TypeError⟩
        rw [if_neg yb2] at h
        cases h
      rw [if_neg x4] at h
      by_cases x5 : x = ("NoLens" : Str)
      · rw [if_pos x5] at h; rw [x5, q5] at h1; cases h1
        by_cases y0 : T = "ValueError"
        · rw [if_pos y0] at h; cases h; rw [y0]; exact ⟨ec5, j5⟩
        rw [if_neg y0] at h
        by_cases yb0 : T = "ArithmeticError"
        · rw [if_pos yb0] at h; cases h; rw [yb0]; exact ⟨ec5, j5_ArithmeticError⟩
        rw [if_neg yb0] at h
        by_cases yb1 : T = "LookupError"
        · rw [if_pos yb1] at h; cases h; rw [yb1]; exact ⟨ec5, j5_LookupError⟩
        rw [if_neg yb1] at h
        by_cases yb2 : T = "TypeError"
        · rw [if_pos yb2] at h; cases h; rw [yb2]; exact ⟨ec5, j5_TypeError⟩
        rw [if_neg yb2] at h
        cases h
      rw [if_neg x5] at h
      by_cases x6 : x = ("NoPoints" : Str)
      · rw [if_pos x6] at h; rw [x6, q6] at h1; cases h1
        by_cases y0 : T = "ValueError"
        · rw [if_pos y0] at h; cases h; rw [y0]; exact ⟨ec6, j6⟩
        rw [if_neg y0] at h
        by_cases yb0 : T = "ArithmeticError"
        · rw [if_pos yb0] at h; cases h; rw [yb0]; exact ⟨ec6, j6_ArithmeticError⟩
        rw [if_neg yb0] at h
        by_cases yb1 : T = "LookupError"
        · rw [if_pos yb1] at h; cases h; rw [yb1]; exact ⟨ec6, j6_LookupError⟩
        rw [if_neg yb1] at h
        by_cases yb2 : T = "TypeError"
        · rw [if_pos yb2] at h; cases h; rw [yb2]; exact ⟨ec6, j6_TypeError⟩
        rw [if_neg yb2] at h
        cases h
      rw [if_neg x6] at h
      by_cases x7 : x = ("NoRoute" : Str)
      · rw [if_pos x7] at h; rw [x7, q7] at h1; cases h1
        by_cases y0 : T = "ValueError"
        · rw [if_pos y0] at h; cases h; rw [y0]; exact ⟨ec7, j7⟩
        rw [if_neg y0] at h
        by_cases yb0 : T = "ArithmeticError"
        · rw [if_pos yb0] at h; cases h; rw [yb0]; exact ⟨ec7, j7_ArithmeticError⟩
        rw [if_neg yb0] at h
        by_cases yb1 : T = "LookupError"
        · rw [if_pos yb1] at h; cases h; rw [yb1]; exact ⟨ec7, j7_LookupError⟩
        rw [if_neg yb1] at h
        by_cases yb2 : T = "TypeError"
        · rw [if_pos yb2] at h; cases h; rw [yb2]; exact ⟨ec7, j7_TypeError⟩
        rw [if_neg yb2] at h
        cases h
      rw [if_neg x7] at h
      by_cases x8 : x = ("NoText" : Str)
      · rw [if_pos x8] at h; rw [x8, q8] at h1; cases h1
        by_cases y0 : T = "ValueError"
        · rw [if_pos y0] at h; cases h; rw [y0]; exact ⟨ec8, j8⟩
        rw [if_neg y0] at h
        by_cases yb0 : T = "ArithmeticError"
        · rw [if_pos yb0] at h; cases h; rw [yb0]; exact ⟨ec8, j8_ArithmeticError⟩
        rw [if_neg yb0] at h
        by_cases yb1 : T = "LookupError"
        · rw [if_pos yb1] at h; cases h; rw [yb1]; exact ⟨ec8, j8_LookupError⟩
        rw [if_neg yb1] at h
        by_cases yb2 : T = "TypeError"
        · rw [if_pos yb2] at h; cases h; rw [yb2]; exact ⟨ec8, j8_TypeError⟩
        rw [if_neg yb2] at h
        cases h
      rw [if_neg x8] at h
      cases h
    · unfold noX at h
      by_cases y4 : y = ("NoDrawing" : Str)
      · rw [y4, q4] at h2; cases h2; exact o4
      rw [if_neg y4] at h
      by_cases y5 : y = ("NoLens" : Str)
      · rw [y5, q5] at h2; cases h2; exact o5
      rw [if_neg y5] at h
      by_cases y1 : y = ("NoOrder" : Str)
      · rw [y1, q1] at h2; cases h2; exact o1
      rw [if_neg y1] at h
      by_cases y6 : y = ("NoPoints" : Str)
      · rw [y6, q6] at h2; cases h2; exact o6
      rw [if_neg y6] at h
      by_cases y7 : y = ("NoRoute" : Str)
      · rw [y7, q7] at h2; cases h2; exact o7
      rw [if_neg y7] at h
      by_cases y8 : y = ("NoText" : Str)
      · rw [y8, q8] at h2; cases h2; exact o8
      rw [if_neg y8] at h
      by_cases y3 : y = ("NoTie" : Str)
      · rw [y3, q3] at h2; cases h2; exact o3
      rw [if_neg y3] at h
      by_cases y2 : y = ("NoWeb" : Str)
      · rw [y2, q2] at h2; cases h2; exact o2
      rw [if_neg y2] at h
      by_cases y0 : y = ("TooMany" : Str)
      · rw [y0, q0] at h2; cases h2; exact o0
      rw [if_neg y0] at h
      cases h
  exact ⟨_, fun s v => .of_eq rfl, fun base _ _ => ok_law (base := base) { cA := (cAK cn K), q_TooMany := z0, q_NoOrder := z1, q_NoWeb := z2, q_NoTie := z3, q_NoDrawing := z4, q_NoLens := z5, q_NoPoints := z6, q_NoRoute := z7, q_NoText := z8, q_CrossError := z9, hx_CrossError := hx9, hn_CrossError := hn9, isx := hisx, n_ArithmeticError := PySem.W.mg_none_of X G z_ArithmeticError, n_LookupError := PySem.W.mg_none_of X G z_LookupError, n_TypeError := PySem.W.mg_none_of X G z_TypeError, n_ValueError := PySem.W.mg_none_of X G z_ValueError, n_all := PySem.W.mg_none_of X G z_all, n_bool := PySem.W.mg_none_of X G z_bool, n_enumerate := PySem.W.mg_none_of X G z_enumerate, n_int := PySem.W.mg_none_of X G z_int, n_isinstance := PySem.W.mg_none_of X G z_isinstance, n_len := PySem.W.mg_none_of X G z_len, n_list := PySem.W.mg_none_of X G z_list, n_min := PySem.W.mg_none_of X G z_min, n_range := PySem.W.mg_none_of X G z_range, n_set := PySem.W.mg_none_of X G z_set, n_sorted := PySem.W.mg_none_of X G z_sorted, n_str := PySem.W.mg_none_of X G z_str, n_tuple := PySem.W.mg_none_of X G z_tuple, t_MOST_IN_ROW := t_MOST_IN_ROW, c_MOST_IN_ROW := PySem.W.mg_of X G v_MOST_IN_ROW, t_MOST_PLACES_must := t_MOST_PLACES_must, c_MOST_PLACES_must := PySem.W.mg_of X G v_MOST_PLACES_must, t_MOST_PLACES_webs := t_MOST_PLACES_webs, c_MOST_PLACES_webs := PySem.W.mg_of X G v_MOST_PLACES_webs, t_MOST_TIES := t_MOST_TIES, c_MOST_TIES := PySem.W.mg_of X G v_MOST_TIES, a_looked_at_must := f0, fd_looked_at_must := _, F_looked_at_must := F0, g_looked_at_must := PySem.W.mg_of X G a0, b_looked_at_must := b0, a_must := f1, fd_must := _, F_must := F1, g_must := PySem.W.mg_of X G a1, b_must := b1, a_is_whole := f2, fd_is_whole := _, F_is_whole := F2, g_is_whole := PySem.W.mg_of X G a2, b_is_whole := b2, a_is_order := f3, fd_is_order := _, F_is_order := F3, g_is_order := PySem.W.mg_of X G a3, b_is_order := b3, a_upper_looked_at := f4, fd_upper_looked_at := _, F_upper_looked_at := F4, g_upper_looked_at := PySem.W.mg_of X G a4, b_upper_looked_at := b4, a_both_looked_at := f5, fd_both_looked_at := _, F_both_looked_at := F5, g_both_looked_at := PySem.W.mg_of X G a5, b_both_looked_at := b5, a_crossed_rows := f6, fd_crossed_rows := _, F_crossed_rows := F6, g_crossed_rows := PySem.W.mg_of X G a6, b_crossed_rows := b6, a_tie_of := f7, fd_tie_of := _, F_tie_of := F7, g_tie_of := PySem.W.mg_of X G a7, b_tie_of := b7, a_web := f8, fd_web := _, F_web := F8, g_web := PySem.W.mg_of X G a8, b_web := b8, a_is_tie := f9, fd_is_tie := _, F_is_tie := F9, g_is_tie := PySem.W.mg_of X G a9, b_is_tie := b9, a_two := f10, fd_two := _, F_two := F10, g_two := PySem.W.mg_of X G a10, b_two := b10, a_law_other := f11, fd_law_other := _, F_law_other := F11, g_law_other := PySem.W.mg_of X G a11, b_law_other := b11, a_is_there := f12, fd_is_there := _, F_is_there := F12, g_is_there := PySem.W.mg_of X G a12, b_is_there := b12, a_without := f13, fd_without := _, F_without := F13, g_without := PySem.W.mg_of X G a13, b_without := b13, a_is_drawing := f14, fd_is_drawing := _, F_is_drawing := F14, g_is_drawing := PySem.W.mg_of X G a14, b_is_drawing := b14, a_plain := f15, fd_plain := _, F_plain := F15, g_plain := PySem.W.mg_of X G a15, b_plain := b15, a_from_least := f16, fd_from_least := _, F_from_least := F16, g_from_least := PySem.W.mg_of X G a16, b_from_least := b16, a_plained := f17, fd_plained := _, F_plained := F17, g_plained := PySem.W.mg_of X G a17, b_plained := b17, a_lenses_along := f18, fd_lenses_along := _, F_lenses_along := F18, g_lenses_along := PySem.W.mg_of X G a18, b_lenses_along := b18, a_lenses := f19, fd_lenses := _, F_lenses := F19, g_lenses := PySem.W.mg_of X G a19, b_lenses := b19, a_is_lens := f20, fd_is_lens := _, F_is_lens := F20, g_is_lens := PySem.W.mg_of X G a20, b_is_lens := b20, a_loosened := f21, fd_loosened := _, F_loosened := F21, g_loosened := PySem.W.mg_of X G a21, b_loosened := b21, a_looked_at_straight := f22, fd_looked_at_straight := _, F_looked_at_straight := F22, g_looked_at_straight := PySem.W.mg_of X G a22, b_looked_at_straight := b22, a_straight := f23, fd_straight := _, F_straight := F23, g_straight := PySem.W.mg_of X G a23, b_straight := b23, a_is_new := f24, fd_is_new := _, F_is_new := F24, g_is_new := PySem.W.mg_of X G a24, b_is_new := b24, a_is_begin := f25, fd_is_begin := _, F_is_begin := F25, g_is_begin := PySem.W.mg_of X G a25, b_is_begin := b25, a_is_route := f26, fd_is_route := _, F_is_route := F26, g_is_route := PySem.W.mg_of X G a26, b_is_route := b26, a_put := f27, fd_put := _, F_put := F27, g_put := PySem.W.mg_of X G a27, b_put := b27, a_number_read := f28, fd_number_read := _, F_number_read := F28, g_number_read := PySem.W.mg_of X G a28, b_number_read := b28, a_read := f29, fd_read := _, F_read := F29, g_read := PySem.W.mg_of X G a29, b_read := b29, a_law_bare := f30, fd_law_bare := _, F_law_bare := F30, g_law_bare := PySem.W.mg_of X G a30, b_law_bare := b30, a_law_drawn := f31, fd_law_drawn := _, F_law_drawn := F31, g_law_drawn := PySem.W.mg_of X G a31, b_law_drawn := b31, a_law_kinds := f32, fd_law_kinds := _, F_law_kinds := F32, g_law_kinds := PySem.W.mg_of X G a32, b_law_kinds := b32, a_law_right := f33, fd_law_right := _, F_law_right := F33, g_law_right := PySem.W.mg_of X G a33, b_law_right := b33, a_law := fa, fd_law := _, F_law := F34, g_law := PySem.W.mg_of X G a34, b_law := b34 }⟩
end Law
open PySem PySem.W PyProof.Rows
set_option maxRecDepth 100000 in
set_option maxHeartbeats 0 in
theorem PySem.Challenge.cw_leastcross_k97_each_refusal_alone_holds : PySem.Challenge.rw_leastcross_k97_each_refusal_alone.Holds := by
  w_on; o_law; k_head; (case hw => w_witness2)
  k_fill
  refine Rf.walk_ofG (l := PySem.Challenge.rw_leastcross_k97_each_refusal_alone) (n := 63) (k := 8) (x := "_law_script") (CX := fun w => L2.CX PySem.Challenge.rw_leastcross_k97_each_refusal_alone.prog w) (sp := fun w => Law.spL _) rfl (by decide) rfl ⟨rfl, by decide, by decide⟩ (fun w h Y => PySem.W.kIn_of Y) ?F (fun _ _ _ _ hl hO hS => Law.sp_law hO hS) (fun _ _ _ _ _ h => Rf.no_cx h)
  case F =>
    intro w mg fa h KX G hmg
    refine' Law.all_mk KX G hmg ?a0 ?l0 ?c0 ?k0 ?a1 ?l1 ?c1 ?k1 ?a2 ?l2 ?c2 ?k2 ?a3 ?l3 ?c3 ?k3 ?a4 ?l4 ?c4 ?k4 ?a5 ?l5 ?c5 ?k5 ?a6 ?l6 ?c6 ?k6 ?a7 ?l7 ?c7 ?k7 ?a8 ?l8 ?c8 ?k8 ?a9 ?l9 ?c9 ?k9 ?a10 ?l10 ?c10 ?k10 ?a11 ?l11 ?c11 ?k11 ?a12 ?l12 ?c12 ?k12 ?a13 ?l13 ?c13 ?k13 ?a14 ?l14 ?c14 ?k14 ?a15 ?l15 ?c15 ?k15 ?a16 ?l16 ?c16 ?k16 ?a17 ?l17 ?c17 ?k17 ?a18 ?l18 ?c18 ?k18 ?a19 ?l19 ?c19 ?k19 ?a20 ?l20 ?c20 ?k20 ?a21 ?l21 ?c21 ?k21 ?a22 ?l22 ?c22 ?k22 ?a23 ?l23 ?c23 ?k23 ?a24 ?l24 ?c24 ?k24 ?a25 ?l25 ?c25 ?k25 ?a26 ?l26 ?c26 ?k26 ?a27 ?l27 ?c27 ?k27 ?a28 ?l28 ?c28 ?k28 ?a29 ?l29 ?c29 ?k29 ?a30 ?l30 ?c30 ?k30 ?a31 ?l31 ?c31 ?k31 ?a32 ?l32 ?c32 ?k32 ?a33 ?l33 ?c33 ?k33 ?a34 ?l34 ?c34 ?k34 ?z_ArithmeticError ?z_LookupError ?z_TypeError ?z_ValueError ?z_all ?z_bool ?z_enumerate ?z_int ?z_isinstance ?z_len ?z_list ?z_min ?z_range ?z_set ?z_sorted ?z_str ?z_tuple ?v_MOST_IN_ROW ?v_MOST_PLACES_must ?v_MOST_PLACES_webs ?v_MOST_TIES ?q0 ?qk0 ?qe0 ?qt0 ?ua0 ?ub0 ?uc0 ?ud0 ?ue0 ?uf0 ?q1 ?qk1 ?qe1 ?qt1 ?ua1 ?ub1 ?uc1 ?ud1 ?ue1 ?uf1 ?q2 ?qk2 ?qe2 ?qt2 ?ua2 ?ub2 ?uc2 ?ud2 ?ue2 ?uf2 ?q3 ?qk3 ?qe3 ?qt3 ?ua3 ?ub3 ?uc3 ?ud3 ?ue3 ?uf3 ?q4 ?qk4 ?qe4 ?qt4 ?ua4 ?ub4 ?uc4 ?ud4 ?ue4 ?uf4 ?q5 ?qk5 ?qe5 ?qt5 ?ua5 ?ub5 ?uc5 ?ud5 ?ue5 ?uf5 ?q6 ?qk6 ?qe6 ?qt6 ?ua6 ?ub6 ?uc6 ?ud6 ?ue6 ?uf6 ?q7 ?qk7 ?qe7 ?qt7 ?ua7 ?ub7 ?uc7 ?ud7 ?ue7 ?uf7 ?q8 ?qk8 ?qe8 ?qt8 ?ua8 ?ub8 ?uc8 ?ud8 ?ue8 ?uf8 ?q9 ?qk9 ?qe9 ?qt9 ?ua9 ?ub9 ?uc9 ?ud9 ?ue9 ?uf9 ?ug ?uh ?s0_9 ?s0_4 ?s0_5 ?s0_1 ?s0_6 ?s0_7 ?s0_8 ?s0_3 ?s0_2 ?s0_0 ?j0 ?j0_ArithmeticError ?j0_LookupError ?j0_TypeError ?s1_9 ?s1_4 ?s1_5 ?s1_1 ?s1_6 ?s1_7 ?s1_8 ?s1_3 ?s1_2 ?s1_0 ?j1 ?j1_ArithmeticError ?j1_LookupError ?j1_TypeError ?s2_9 ?s2_4 ?s2_5 ?s2_1 ?s2_6 ?s2_7 ?s2_8 ?s2_3 ?s2_2 ?s2_0 ?j2 ?j2_ArithmeticError ?j2_LookupError ?j2_TypeError ?s3_9 ?s3_4 ?s3_5 ?s3_1 ?s3_6 ?s3_7 ?s3_8 ?s3_3 ?s3_2 ?s3_0 ?j3 ?j3_ArithmeticError ?j3_LookupError ?j3_TypeError ?s4_9 ?s4_4 ?s4_5 ?s4_1 ?s4_6 ?s4_7 ?s4_8 ?s4_3 ?s4_2 ?s4_0 ?j4 ?j4_ArithmeticError ?j4_LookupError ?j4_TypeError ?s5_9 ?s5_4 ?s5_5 ?s5_1 ?s5_6 ?s5_7 ?s5_8 ?s5_3 ?s5_2 ?s5_0 ?j5 ?j5_ArithmeticError ?j5_LookupError ?j5_TypeError ?s6_9 ?s6_4 ?s6_5 ?s6_1 ?s6_6 ?s6_7 ?s6_8 ?s6_3 ?s6_2 ?s6_0 ?j6 ?j6_ArithmeticError ?j6_LookupError ?j6_TypeError ?s7_9 ?s7_4 ?s7_5 ?s7_1 ?s7_6 ?s7_7 ?s7_8 ?s7_3 ?s7_2 ?s7_0 ?j7 ?j7_ArithmeticError ?j7_LookupError ?j7_TypeError ?s8_9 ?s8_4 ?s8_5 ?s8_1 ?s8_6 ?s8_7 ?s8_8 ?s8_3 ?s8_2 ?s8_0 ?j8 ?j8_ArithmeticError ?j8_LookupError ?j8_TypeError ?o4 ?p4 ?o5 ?p5 ?o1 ?p1 ?o6 ?p6 ?o7 ?p7 ?o8 ?p8 ?o3 ?p3 ?o2 ?p2 ?o0 ?p0
    (case a0 => k_is); (case l0 => k_is); (case c0 => k_is); (case k0 => k_is); (case a1 => k_is); (case l1 => k_is); (case c1 => k_is); (case k1 => k_is); (case a2 => k_is); (case l2 => k_is); (case c2 => k_is); (case k2 => k_is); (case a3 => k_is); (case l3 => k_is); (case c3 => k_is); (case k3 => k_is); (case a4 => k_is); (case l4 => k_is); (case c4 => k_is); (case k4 => k_is); (case a5 => k_is); (case l5 => k_is); (case c5 => k_is); (case k5 => k_is); (case a6 => k_is); (case l6 => k_is); (case c6 => k_is); (case k6 => k_is); (case a7 => k_is); (case l7 => k_is); (case c7 => k_is); (case k7 => k_is); (case a8 => k_is); (case l8 => k_is); (case c8 => k_is); (case k8 => k_is); (case a9 => k_is); (case l9 => k_is); (case c9 => k_is); (case k9 => k_is); (case a10 => k_is); (case l10 => k_is); (case c10 => k_is); (case k10 => k_is); (case a11 => k_is); (case l11 => k_is); (case c11 => k_is); (case k11 => k_is); (case a12 => k_is); (case l12 => k_is); (case c12 => k_is); (case k12 => k_is); (case a13 => k_is); (case l13 => k_is); (case c13 => k_is); (case k13 => k_is); (case a14 => k_is); (case l14 => k_is); (case c14 => k_is); (case k14 => k_is); (case a15 => k_is); (case l15 => k_is); (case c15 => k_is); (case k15 => k_is); (case a16 => k_is); (case l16 => k_is); (case c16 => k_is); (case k16 => k_is); (case a17 => k_is); (case l17 => k_is); (case c17 => k_is); (case k17 => k_is); (case a18 => k_is); (case l18 => k_is); (case c18 => k_is); (case k18 => k_is); (case a19 => k_is); (case l19 => k_is); (case c19 => k_is); (case k19 => k_is); (case a20 => k_is); (case l20 => k_is); (case c20 => k_is); (case k20 => k_is); (case a21 => k_is); (case l21 => k_is); (case c21 => k_is); (case k21 => k_is); (case a22 => k_is); (case l22 => k_is); (case c22 => k_is); (case k22 => k_is); (case a23 => k_is); (case l23 => k_is); (case c23 => k_is); (case k23 => k_is); (case a24 => k_is); (case l24 => k_is); (case c24 => k_is); (case k24 => k_is); (case a25 => k_is); (case l25 => k_is); (case c25 => k_is); (case k25 => k_is); (case a26 => k_is); (case l26 => k_is); (case c26 => k_is); (case k26 => k_is); (case a27 => k_is); (case l27 => k_is); (case c27 => k_is); (case k27 => k_is); (case a28 => k_is); (case l28 => k_is); (case c28 => k_is); (case k28 => k_is); (case a29 => k_is); (case l29 => k_is); (case c29 => k_is); (case k29 => k_is); (case a30 => k_is); (case l30 => k_is); (case c30 => k_is); (case k30 => k_is); (case a31 => k_is); (case l31 => k_is); (case c31 => k_is); (case k31 => k_is); (case a32 => k_is); (case l32 => k_is); (case c32 => k_is); (case k32 => k_is); (case a33 => k_is); (case l33 => k_is); (case c33 => k_is); (case k33 => k_is); (case a34 => k_is); (case l34 => k_is); (case c34 => k_is); (case k34 => k_is); (case z_ArithmeticError => k_is); (case z_LookupError => k_is); (case z_TypeError => k_is); (case z_ValueError => k_is); (case z_all => k_is); (case z_bool => k_is); (case z_enumerate => k_is); (case z_int => k_is); (case z_isinstance => k_is); (case z_len => k_is); (case z_list => k_is); (case z_min => k_is); (case z_range => k_is); (case z_set => k_is); (case z_sorted => k_is); (case z_str => k_is); (case z_tuple => k_is); (case v_MOST_IN_ROW => k_is); (case v_MOST_PLACES_must => k_is); (case v_MOST_PLACES_webs => k_is); (case v_MOST_TIES => k_is); (case q0 => k_is); (case qk0 => k_is); (case qe0 => k_exc); (case qt0 => k_is); (case ua0 => k_is); (case ub0 => k_is); (case uc0 => k_is); (case ud0 => k_is); (case ue0 => k_is); (case uf0 => k_is); (case q1 => k_is); (case qk1 => k_is); (case qe1 => k_exc); (case qt1 => k_is); (case ua1 => k_is); (case ub1 => k_is); (case uc1 => k_is); (case ud1 => k_is); (case ue1 => k_is); (case uf1 => k_is); (case q2 => k_is); (case qk2 => k_is); (case qe2 => k_exc); (case qt2 => k_is); (case ua2 => k_is); (case ub2 => k_is); (case uc2 => k_is); (case ud2 => k_is); (case ue2 => k_is); (case uf2 => k_is); (case q3 => k_is); (case qk3 => k_is); (case qe3 => k_exc); (case qt3 => k_is); (case ua3 => k_is); (case ub3 => k_is); (case uc3 => k_is); (case ud3 => k_is); (case ue3 => k_is); (case uf3 => k_is); (case q4 => k_is); (case qk4 => k_is); (case qe4 => k_exc); (case qt4 => k_is); (case ua4 => k_is); (case ub4 => k_is); (case uc4 => k_is); (case ud4 => k_is); (case ue4 => k_is); (case uf4 => k_is); (case q5 => k_is); (case qk5 => k_is); (case qe5 => k_exc); (case qt5 => k_is); (case ua5 => k_is); (case ub5 => k_is); (case uc5 => k_is); (case ud5 => k_is); (case ue5 => k_is); (case uf5 => k_is); (case q6 => k_is); (case qk6 => k_is); (case qe6 => k_exc); (case qt6 => k_is); (case ua6 => k_is); (case ub6 => k_is); (case uc6 => k_is); (case ud6 => k_is); (case ue6 => k_is); (case uf6 => k_is); (case q7 => k_is); (case qk7 => k_is); (case qe7 => k_exc); (case qt7 => k_is); (case ua7 => k_is); (case ub7 => k_is); (case uc7 => k_is); (case ud7 => k_is); (case ue7 => k_is); (case uf7 => k_is); (case q8 => k_is); (case qk8 => k_is); (case qe8 => k_exc); (case qt8 => k_is); (case ua8 => k_is); (case ub8 => k_is); (case uc8 => k_is); (case ud8 => k_is); (case ue8 => k_is); (case uf8 => k_is); (case q9 => k_is); (case qk9 => k_is); (case qe9 => k_exc); (case qt9 => k_is); (case ua9 => k_is); (case ub9 => k_is); (case uc9 => k_is); (case ud9 => k_is); (case ue9 => k_is); (case uf9 => k_is); (case ug => k_is); (case uh => k_is); (case s0_9 => k_is); (case s0_4 => k_is); (case s0_5 => k_is); (case s0_1 => k_is); (case s0_6 => k_is); (case s0_7 => k_is); (case s0_8 => k_is); (case s0_3 => k_is); (case s0_2 => k_is); (case s0_0 => k_is); (case j0 => k_is); (case j0_ArithmeticError => k_is); (case j0_LookupError => k_is); (case j0_TypeError => k_is); (case s1_9 => k_is); (case s1_4 => k_is); (case s1_5 => k_is); (case s1_1 => k_is); (case s1_6 => k_is); (case s1_7 => k_is); (case s1_8 => k_is); (case s1_3 => k_is); (case s1_2 => k_is); (case s1_0 => k_is); (case j1 => k_is); (case j1_ArithmeticError => k_is); (case j1_LookupError => k_is); (case j1_TypeError => k_is); (case s2_9 => k_is); (case s2_4 => k_is); (case s2_5 => k_is); (case s2_1 => k_is); (case s2_6 => k_is); (case s2_7 => k_is); (case s2_8 => k_is); (case s2_3 => k_is); (case s2_2 => k_is); (case s2_0 => k_is); (case j2 => k_is); (case j2_ArithmeticError => k_is); (case j2_LookupError => k_is); (case j2_TypeError => k_is); (case s3_9 => k_is); (case s3_4 => k_is); (case s3_5 => k_is); (case s3_1 => k_is); (case s3_6 => k_is); (case s3_7 => k_is); (case s3_8 => k_is); (case s3_3 => k_is); (case s3_2 => k_is); (case s3_0 => k_is); (case j3 => k_is); (case j3_ArithmeticError => k_is); (case j3_LookupError => k_is); (case j3_TypeError => k_is); (case s4_9 => k_is); (case s4_4 => k_is); (case s4_5 => k_is); (case s4_1 => k_is); (case s4_6 => k_is); (case s4_7 => k_is); (case s4_8 => k_is); (case s4_3 => k_is); (case s4_2 => k_is); (case s4_0 => k_is); (case j4 => k_is); (case j4_ArithmeticError => k_is); (case j4_LookupError => k_is); (case j4_TypeError => k_is); (case s5_9 => k_is); (case s5_4 => k_is); (case s5_5 => k_is); (case s5_1 => k_is); (case s5_6 => k_is); (case s5_7 => k_is); (case s5_8 => k_is); (case s5_3 => k_is); (case s5_2 => k_is); (case s5_0 => k_is); (case j5 => k_is); (case j5_ArithmeticError => k_is); (case j5_LookupError => k_is); (case j5_TypeError => k_is); (case s6_9 => k_is); (case s6_4 => k_is); (case s6_5 => k_is); (case s6_1 => k_is); (case s6_6 => k_is); (case s6_7 => k_is); (case s6_8 => k_is); (case s6_3 => k_is); (case s6_2 => k_is); (case s6_0 => k_is); (case j6 => k_is); (case j6_ArithmeticError => k_is); (case j6_LookupError => k_is); (case j6_TypeError => k_is); (case s7_9 => k_is); (case s7_4 => k_is); (case s7_5 => k_is); (case s7_1 => k_is); (case s7_6 => k_is); (case s7_7 => k_is); (case s7_8 => k_is); (case s7_3 => k_is); (case s7_2 => k_is); (case s7_0 => k_is); (case j7 => k_is); (case j7_ArithmeticError => k_is); (case j7_LookupError => k_is); (case j7_TypeError => k_is); (case s8_9 => k_is); (case s8_4 => k_is); (case s8_5 => k_is); (case s8_1 => k_is); (case s8_6 => k_is); (case s8_7 => k_is); (case s8_8 => k_is); (case s8_3 => k_is); (case s8_2 => k_is); (case s8_0 => k_is); (case j8 => k_is); (case j8_ArithmeticError => k_is); (case j8_LookupError => k_is); (case j8_TypeError => k_is); (case o4 => k_is); (case p4 => k_is); (case o5 => k_is); (case p5 => k_is); (case o1 => k_is); (case p1 => k_is); (case o6 => k_is); (case p6 => k_is); (case o7 => k_is); (case p7 => k_is); (case o8 => k_is); (case p8 => k_is); (case o3 => k_is); (case p3 => k_is); (case o2 => k_is); (case p2 => k_is); (case o0 => k_is); (case p0 => k_is)

