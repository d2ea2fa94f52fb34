import PyProof.Rows.All
import Wide.All
import OpenK.AllK
import Wide.FinOn
import HandS.ForMost
import HandS.ForExc
import HandS.TupAny
import HandS.Deep
import HandS.IsInst
import HandS.TupSets
import HandS.Walk
import HandS.Zip
import KE.KDictKeyed
import HandS.Wide
import KE.GoesMore
import KE.SortData
import KE.DataMinMax
import HandS.Style
import HandS.Conv
import HandS.Strs
import HandS.TupMul
import PyProof.ReprRoads
import PyProof.ReprLen
import HandS.ExcValue
import HandS.ExcIs
import PyProof.ExcBaseAll.ValueError
import KE.KDictSum
import KE.KDictCopyH
import HandS.TryOnly
import HandS.TupLe
import KE.DataFind
import KE.KTupSum
import KE.KAssignIn
import KE.KDictZip
import HandS.TupLen
import KE.KDictList
import KE.KDictWalk
import KE.KDictPairs
import KE.DataMinKey
import HandS.SortKw
import HandS.SetFor
import HandS.Codes
import HandS.Text
import HandS.SetKeys
import HandS.HotCalls
import PyProof.Rows.TupDisplay
import KE.GoesRaise
import PySem.Challenge.RW_leastcross_k01_webs
set_option Elab.async false
set_option linter.all false
set_option maxRecDepth 100000
set_option synthInstance.maxSize 2000
set_option maxHeartbeats 4000000
namespace Rf
open PySem PySem.Spec PyProof.Rows L2

inductive D where
  | non | bl (b : Bool) | int (i : Int) | str (x : Str) | ty (n : String)
  | tup (ds : List D) | lst (ds : List D) | fz (ds : List D) | cell (n : Nat) | exc (x : Str) | cl (x : Str) | dct (k : Nat) (ks ds : List D)
inductive Ob where
  | lst (ds : List D)
  | dK (kvs : List (D × D))
  | dI (kvs : List (Int × D))
  | ins (x : Str) (fs : List (Str × D))
  | dS (fs : List (Str × D))
  | gone
abbrev Store := List Ob
abbrev En := List (Option D)

mutual
def pureD : D → Bool
  | .tup ds => pureL ds
  | .lst ds => pureL ds
  | .fz ds => pureL ds
  | .cell _ => false
  | .dct _ ks ds => pureL ks && pureL ds
  | .non | .bl _ | .int _ | .str _ | .ty _ | .exc _ | .cl _ => true
def pureL : List D → Bool
  | [] => true
  | d :: ds => pureD d && pureL ds
end
mutual
def below (n : Nat) : D → Prop
  | .tup ds => belowL n ds
  | .lst ds => belowL n ds
  | .fz ds => belowL n ds
  | .cell k => k < n
  | .dct _ ks ds => belowL n ks ∧ belowL n ds
  | .non | .bl _ | .int _ | .str _ | .ty _ | .exc _ | .cl _ => True
def belowL (n : Nat) : List D → Prop
  | [] => True
  | d :: ds => below n d ∧ belowL n ds
end
def Ob.pure : Ob → Bool
  | .lst ds => pureL ds
  | .dK kvs => kvs.all fun p => pureD p.2
  | .dI kvs => kvs.all fun p => pureD p.2
  | .ins _ fs => fs.all fun p => pureD p.2
  | .dS fs => fs.all fun p => pureD p.2
  | .gone => true

inductive Res (α : Type) where
  | ok (a : α) (S : Store)
  | err (c : Nat) (S : Store)
  | bad
inductive RS where
  | next (e : En) (S : Store)
  | ret (d : D) (S : Store)
  | brk (e : En) (S : Store)
  | cont (e : En) (S : Store)
  | err (c : Nat) (e : En) (S : Store)
  | bad
abbrev M (α : Type) := En → Store → Res α
abbrev MS := En → Store → RS

def WrL (K : PySem.W.Frag) (a : Addr) (xs : List V) : Prop :=
  ∃ (o : Obj) (its : Array Value) (n : Nat), K.lookup a = some o ∧ o.cls = .type "list" ∧ o.dict = none ∧ o.data = .seq its n ∧ its.size ≤ sizeLine ∧ Vals xs its.toList
def FrL (G : Addr → Prop) (ρ : List Addr) (H : Hp) (a : Addr) (vs : List V) : Prop := a ∉ ρ ∧ ¬ G a ∧ H a = some (.lst vs)
def FzL (K : PySem.W.Frag) (H : Hp) (a : Addr) (vs : List V) : Prop := (∃ o, H a = some (.frz o (.lst vs))) ∨ WrL K a vs
theorem FrL.sq {K : PySem.W.Frag} {G : Addr → Prop} {ρ : List Addr} {H : Hp} {a : Addr} {vs : List V} (h : FrL G ρ H a vs) : SqL K H a vs := .inl (.inl h.2.2)
theorem FzL.sq {K : PySem.W.Frag} {H : Hp} {a : Addr} {vs : List V} (h : FzL K H a vs) : SqL K H a vs := by
  rcases h with h | h
  · exact .inl (.inr h)
  · exact .inr h
def ExAt (H : Hp) (a C : Addr) : Prop := ∃ (oe : Obj) (φ : Heap → Prop), H a = some (.frz oe (.ext φ)) ∧ Zc (.ref C) none oe ∧ ∃ vs, oe.data = .fields vs
@[irreducible] def ExV (K : PySem.W.Frag) (H : Hp) (x : Str) (v : V) : Prop := ∃ a C, v = .ref a ∧ PySem.W.nsIn K mainGlobals x = some (some (.ref C)) ∧ ExAt H a C
theorem ExV.mk {K : PySem.W.Frag} {H : Hp} {x : Str} {a C : Addr} (h1 : PySem.W.nsIn K mainGlobals x = some (some (.ref C))) (h2 : ExAt H a C) : ExV K H x (.ref a) := by unfold ExV; exact ⟨a, C, rfl, h1, h2⟩
theorem ExV.ex {K : PySem.W.Frag} {H : Hp} {x : Str} {v : V} (h : ExV K H x v) : ∃ a C, v = .ref a ∧ PySem.W.nsIn K mainGlobals x = some (some (.ref C)) ∧ ExAt H a C := by unfold ExV at h; exact h
theorem ExV.keep {K : PySem.W.Frag} {H H' : Hp} {x : Str} {v : V} (k : ∀ a o u, H a = some (.frz o u) → H' a = some (.frz o u)) (h : ExV K H x v) : ExV K H' x v := by
  obtain ⟨a, C, rfl, h1, oe, φ, h2, h3⟩ := h.ex
  exact .mk h1 ⟨oe, φ, k a oe _ h2, h3⟩
@[irreducible] def ClV (K : PySem.W.Frag) (x : Str) (v : V) : Prop := ∃ C, v = .ref C ∧ PySem.W.nsIn K mainGlobals x = some (some (.ref C))
theorem ClV.mk {K : PySem.W.Frag} {x : Str} {C : Addr} (h : PySem.W.nsIn K mainGlobals x = some (some (.ref C))) : ClV K x (.ref C) := by unfold ClV; exact ⟨C, rfl, h⟩
theorem ClV.ex {K : PySem.W.Frag} {x : Str} {v : V} (h : ClV K x v) : ∃ C, v = .ref C ∧ PySem.W.nsIn K mainGlobals x = some (some (.ref C)) := by unfold ClV at h; exact h
mutual
def tupI : D → Bool
  | .int _ => true
  | .tup ds => tupIL ds
  | _ => false
def tupIL : List D → Bool
  | [] => true
  | d :: ds => tupI d && tupIL ds
end
mutual
def keyN : D → NestedKey
  | .int i => .num i
  | .tup ds => .tup (keyNL ds)
  | _ => .none
def keyNL : List D → List NestedKey
  | [] => []
  | d :: ds => keyN d :: keyNL ds
end
abbrev DV := (NestedKey × Addr) × V
def dvR (p : DV) (x : NestedKey × Addr × Value) : Prop := p.1.1 = x.1 ∧ p.1.2 = x.2.1 ∧ RelV p.2 x.2.2
def dkP (a : Addr) (vs : List DV) (h : Heap) : Prop := ∃ xs : List (NestedKey × Addr × Value), Paired dvR vs xs ∧ (xs.map (·.1)).Nodup ∧ (a == sysModules) = false ∧ xs.length ≤ sizeLine ∧ ∃ o es ep, h.get? a = some o ∧ o.ExactDict ∧ o.data = .dict es ep ∧ ∀ w' : World, es.toList = xs.map fun x => (⟨x.1.hash w', .ref x.2.1, x.2.2⟩ : DictEntry)
def dkO (a : Addr) (vs : List DV) : HO := .ext (dkP a vs)
def kvT : List D → List V → List V → List DV
  | k :: ks, .ref b :: bs, v :: vs => ((keyN k, b), v) :: kvT ks bs vs
  | _, _, _ => []
def kvX : List D → List V → List (Key × V)
  | .int i :: ks, v :: vs => (.inl i, v) :: kvX ks vs
  | .str x :: ks, v :: vs => (.inr x, v) :: kvX ks vs
  | _, _ => []
def isIntD : D → Bool
  | .int _ => true
  | _ => false
def isStrD : D → Bool
  | .str _ => true
  | _ => false
def isTupD : D → Bool
  | .tup _ => true
  | _ => false
def DcO (a : Addr) (k : Nat) (ks : List D) (bs vs : List V) (u : HO) : Prop := match k with
  | 0 => ks.all isStrD = true ∧ u = .dK (kvX ks vs)
  | 1 => ks.all isIntD = true ∧ u = .dK (kvX ks vs)
  | _ => (tupIL ks = true ∧ ks.all isTupD = true) ∧ u = dkO a (kvT ks bs vs)
mutual
def Rep (K : PySem.W.Frag) (G : Addr → Prop) (ρ : List Addr) (H : Hp) : D → V → Prop
  | .non, v => v = .non
  | .bl b, v => v = .bl b
  | .int i, v => v = .int i
  | .str x, v => v = .str x
  | .ty n, v => v = .ty n
  | .tup ds, v => ∃ a vs, v = .ref a ∧ Rd H a (.tup vs) ∧ RepL K G ρ H ds vs
  | .lst ds, v => ∃ a vs, v = .ref a ∧ FrL G ρ H a vs ∧ RepL K G ρ H ds vs
  | .fz ds, v => ∃ a vs, v = .ref a ∧ FzL K H a vs ∧ RepL K G ρ H ds vs
  | .cell n, v => ∃ a, v = .ref a ∧ ρ[n]? = some a
  | .exc x, v => ExV K H x v
  | .cl x, v => ClV K x v
  | .dct k ks ds, v => ∃ a o u bs vs, v = .ref a ∧ H a = some (.frz o u) ∧ DcO a k ks bs vs u ∧ RepL K G ρ H ks bs ∧ RepL K G ρ H ds vs
def RepL (K : PySem.W.Frag) (G : Addr → Prop) (ρ : List Addr) (H : Hp) : List D → List V → Prop
  | [], vs => vs = []
  | d :: ds, vs => ∃ v vs', vs = v :: vs' ∧ Rep K G ρ H d v ∧ RepL K G ρ H ds vs'
end

structure Keep (G : Addr → Prop) (ρ : List Addr) (H : Hp) (ρ' : List Addr) (H' : Hp) : Prop where
  pre : ∃ t, ρ' = ρ ++ t
  tup : ∀ a xs, Rd H a (.tup xs) → Rd H' a (.tup xs)
  lst : ∀ a xs, a ∉ ρ → ¬ G a → H a = some (.lst xs) → a ∉ ρ' ∧ H' a = some (.lst xs)
  frz : ∀ a o u, H a = some (.frz o u) → H' a = some (.frz o u)
  grd : ∀ a, G a → H' a = H a
section
variable {K : PySem.W.Frag} {G : Addr → Prop} {ρ ρ' ρ'' : List Addr} {H H' H'' : Hp}
theorem Keep.refl : Keep G ρ H ρ H := ⟨⟨[], by simp⟩, fun _ _ h => h, fun _ _ h _ r => ⟨h, r⟩, fun _ _ _ h => h, fun _ _ => rfl⟩
theorem Keep.trans (a : Keep G ρ H ρ' H') (b : Keep G ρ' H' ρ'' H'') : Keep G ρ H ρ'' H'' := by
  obtain ⟨t, e⟩ := a.pre
  obtain ⟨u, e'⟩ := b.pre
  refine ⟨⟨t ++ u, by rw [e', e, List.append_assoc]⟩, fun x xs h => b.tup x xs (a.tup x xs h), fun x xs h g r => ?_, fun x o u h => b.frz x o u (a.frz x o u h), fun x h => (b.grd x h).trans (a.grd x h)⟩
  obtain ⟨h1, r1⟩ := a.lst x xs h g r
  exact b.lst x xs h1 g r1
theorem Keep.sqT (k : Keep G ρ H ρ' H') {a : Addr} {xs : List V} (h : SqT K H a xs) : SqT K H' a xs := by
  rcases h with h | h
  · exact .inl (k.tup a xs h)
  · exact .inr h
theorem Keep.frL (k : Keep G ρ H ρ' H') {a : Addr} {xs : List V} (h : FrL G ρ H a xs) : FrL G ρ' H' a xs :=
  let ⟨q1, q2⟩ := k.lst a xs h.1 h.2.1 h.2.2
  ⟨q1, h.2.1, q2⟩
theorem Keep.fzL (k : Keep G ρ H ρ' H') {a : Addr} {xs : List V} (h : FzL K H a xs) : FzL K H' a xs := by
  rcases h with ⟨o, h⟩ | h
  · exact .inl ⟨o, k.frz a o _ h⟩
  · exact .inr h
theorem Keep.get (k : Keep G ρ H ρ' H') {n : Nat} {a : Addr} (h : ρ[n]? = some a) : ρ'[n]? = some a := by
  obtain ⟨t, rfl⟩ := k.pre
  have hn : n < ρ.length := (List.getElem?_eq_some_iff.mp h).1
  rw [List.getElem?_append_left hn]
  exact h
mutual
theorem Rep.keep (k : Keep G ρ H ρ' H') : ∀ (d : D) (v : V), Rep K G ρ H d v → Rep K G ρ' H' d v
  | .non, _, h => h
  | .bl _, _, h => h
  | .int _, _, h => h
  | .str _, _, h => h
  | .ty _, _, h => h
  | .tup ds, v, h => by
    obtain ⟨a, vs, e, h1, h2⟩ := h
    exact ⟨a, vs, e, k.tup a vs h1, RepL.keep k ds vs h2⟩
  | .lst ds, v, h => by
    obtain ⟨a, vs, e, h1, h2⟩ := h
    exact ⟨a, vs, e, k.frL h1, RepL.keep k ds vs h2⟩
  | .fz ds, v, h => by
    obtain ⟨a, vs, e, h1, h2⟩ := h
    exact ⟨a, vs, e, k.fzL h1, RepL.keep k ds vs h2⟩
  | .cell n, v, h => by
    obtain ⟨a, e, h1⟩ := h
    exact ⟨a, e, k.get h1⟩
  | .exc _, _, h => ExV.keep k.frz h
  | .cl _, _, h => h
  | .dct _ ks ds, v, h => by
    obtain ⟨a, o, u, bs, vs, e, h1, h2, h3, h4⟩ := h
    exact ⟨a, o, u, bs, vs, e, k.frz a o u h1, h2, RepL.keep k ks bs h3, RepL.keep k ds vs h4⟩
theorem RepL.keep (k : Keep G ρ H ρ' H') : ∀ (ds : List D) (vs : List V), RepL K G ρ H ds vs → RepL K G ρ' H' ds vs
  | [], _, h => h
  | d :: ds, vs, h => by
    obtain ⟨v, vs', e, h1, h2⟩ := h
    exact ⟨v, vs', e, Rep.keep k d v h1, RepL.keep k ds vs' h2⟩
end
theorem RepL.length : ∀ {ds : List D} {vs : List V}, RepL K G ρ H ds vs → vs.length = ds.length
  | [], _, h => by rw [show _ = [] from h]; rfl
  | d :: ds, vs, h => by
    obtain ⟨v, vs', rfl, h1, h2⟩ := h
    show vs'.length + 1 = ds.length + 1
    rw [RepL.length h2]
theorem RepL.get : ∀ {ds : List D} {vs : List V} {i : Nat} {d : D}, RepL K G ρ H ds vs → ds[i]? = some d → ∃ v, vs[i]? = some v ∧ Rep K G ρ H d v
  | [], _, i, d, _, e => by simp at e
  | d0 :: ds, vs, 0, d, h, e => by
    obtain ⟨v, vs', rfl, h1, h2⟩ := h
    simp at e
    subst e
    exact ⟨v, rfl, h1⟩
  | d0 :: ds, vs, i + 1, d, h, e => by
    obtain ⟨v, vs', rfl, h1, h2⟩ := h
    obtain ⟨w, h3, h4⟩ := RepL.get (i := i) (d := d) h2 (by simpa using e)
    exact ⟨w, by simpa using h3, h4⟩
theorem RepL.app : ∀ {ds es : List D} {vs ws : List V}, RepL K G ρ H ds vs → RepL K G ρ H es ws → RepL K G ρ H (ds ++ es) (vs ++ ws)
  | [], es, vs, ws, h, h' => by rw [show vs = [] from h]; exact h'
  | d :: ds, es, vs, ws, h, h' => by
    obtain ⟨v, vs', rfl, h1, h2⟩ := h
    exact ⟨v, vs' ++ ws, rfl, h1, RepL.app h2 h'⟩
theorem RepL.snoc {ds : List D} {vs : List V} {d : D} {v : V} (h : RepL K G ρ H ds vs) (h1 : Rep K G ρ H d v) : RepL K G ρ H (ds ++ [d]) (vs ++ [v]) :=
  RepL.app h ⟨v, [], rfl, h1, rfl⟩
theorem RepL.take : ∀ (n : Nat) {ds : List D} {vs : List V}, RepL K G ρ H ds vs → RepL K G ρ H (ds.take n) (vs.take n)
  | 0, ds, vs, h => by simp [RepL]
  | n + 1, [], vs, h => by rw [show vs = [] from h]; simp [RepL]
  | n + 1, d :: ds, vs, h => by
    obtain ⟨v, vs', rfl, h1, h2⟩ := h
    exact ⟨v, vs'.take n, rfl, h1, RepL.take n h2⟩
theorem RepL.drop : ∀ (n : Nat) {ds : List D} {vs : List V}, RepL K G ρ H ds vs → RepL K G ρ H (ds.drop n) (vs.drop n)
  | 0, ds, vs, h => h
  | n + 1, [], vs, h => by rw [show vs = [] from h]; simp [RepL]
  | n + 1, d :: ds, vs, h => by
    obtain ⟨v, vs', rfl, h1, h2⟩ := h
    exact RepL.drop n h2
theorem RepL.set : ∀ (n : Nat) {ds : List D} {vs : List V} {d : D} {v : V}, RepL K G ρ H ds vs → Rep K G ρ H d v → RepL K G ρ H (ds.set n d) (vs.set n v)
  | _, [], vs, _, _, h, _ => by rw [show vs = [] from h]; simp [RepL]
  | 0, d0 :: ds, vs, d, v, h, h0 => by
    obtain ⟨w, vs', rfl, h1, h2⟩ := h
    exact ⟨v, vs', rfl, h0, h2⟩
  | n + 1, d0 :: ds, vs, d, v, h, h0 => by
    obtain ⟨w, vs', rfl, h1, h2⟩ := h
    exact ⟨w, vs'.set n v, rfl, h1, RepL.set n h2 h0⟩
def RepKV (K : PySem.W.Frag) (G : Addr → Prop) (ρ : List Addr) (H : Hp) : List (D × D) → List DV → Prop
  | [], vs => vs = []
  | (k, d) :: r, vs => ∃ b v vs', vs = ((keyN k, b), v) :: vs' ∧ tupI k = true ∧ Rep K G ρ H k (.ref b) ∧ Rep K G ρ H d v ∧ RepKV K G ρ H r vs'
def RepKI (K : PySem.W.Frag) (G : Addr → Prop) (ρ : List Addr) (H : Hp) : List (Int × D) → List (Key × V) → Prop
  | [], vs => vs = []
  | (k, d) :: r, vs => ∃ v vs', vs = (.inl k, v) :: vs' ∧ Rep K G ρ H d v ∧ RepKI K G ρ H r vs'
def RepF (K : PySem.W.Frag) (G : Addr → Prop) (ρ : List Addr) (H : Hp) : List (Str × D) → List (Str × V) → Prop
  | [], vs => vs = []
  | (k, d) :: r, vs => ∃ v vs', vs = (k, v) :: vs' ∧ Rep K G ρ H d v ∧ RepF K G ρ H r vs'
def ObRep (K : PySem.W.Frag) (G : Addr → Prop) (ρ : List Addr) (H : Hp) : Ob → Addr → Prop
  | .lst ds, a => ∃ vs, H a = some (.lst vs) ∧ RepL K G ρ H ds vs
  | .dK kvs, a => ∃ vs, H a = some (dkO a vs) ∧ RepKV K G ρ H kvs vs
  | .dI kvs, a => ∃ vs, H a = some (.dK vs) ∧ RepKI K G ρ H kvs vs
  | .ins x fs, a => ∃ vs, (∃ C dx, H a = some (.ins C dx vs) ∧ PySem.W.nsIn K mainGlobals x = some (some (.ref C))) ∧ RepF K G ρ H fs vs
  | .dS fs, a => ∃ vs, H a = some (.dK (vs.map fun p => (.inr p.1, p.2))) ∧ RepF K G ρ H fs vs
  | .gone, a => ∃ u, H a = some u
theorem RepF.keep (k : Keep G ρ H ρ' H') : ∀ (ds : List (Str × D)) (vs : List (Str × V)), RepF K G ρ H ds vs → RepF K G ρ' H' ds vs
  | [], _, h => h
  | (x, d) :: ds, vs, h => by
    obtain ⟨v, vs', e, h1, h2⟩ := h
    exact ⟨v, vs', e, Rep.keep k d v h1, RepF.keep k ds vs' h2⟩
theorem RepKI.keep (k : Keep G ρ H ρ' H') : ∀ (ds : List (Int × D)) (vs : List (Key × V)), RepKI K G ρ H ds vs → RepKI K G ρ' H' ds vs
  | [], _, h => h
  | (x, d) :: ds, vs, h => by
    obtain ⟨v, vs', e, h1, h2⟩ := h
    exact ⟨v, vs', e, Rep.keep k d v h1, RepKI.keep k ds vs' h2⟩
theorem RepKV.keep (k : Keep G ρ H ρ' H') : ∀ (ds : List (D × D)) (vs : List DV), RepKV K G ρ H ds vs → RepKV K G ρ' H' ds vs
  | [], _, h => h
  | (x, d) :: ds, vs, h => by
    obtain ⟨b, v, vs', e, h0, h3, h1, h2⟩ := h
    exact ⟨b, v, vs', e, h0, Rep.keep k x _ h3, Rep.keep k d v h1, RepKV.keep k ds vs' h2⟩
def okO : HO → Prop
  | .tup _ => False
  | .frz o (.tup _) => o.dict = none
  | _ => True
structure RelS (K : PySem.W.Frag) (G : Addr → Prop) (ρ : List Addr) (S : Store) (H : Hp) : Prop where
  len : ρ.length = S.length
  nd : ρ.Nodup
  ng : ∀ a ∈ ρ, ¬ G a
  gt : ∀ a, G a → ∃ u, H a = some u
  tp : ∀ a o, H a = some o → okO o
  ob : ∀ (i : Nat) (o : Ob) (a : Addr), S[i]? = some o → ρ[i]? = some a → ObRep K G ρ H o a
theorem RelS.at (r : RelS K G ρ S H) {i : Nat} {o : Ob} (h : S[i]? = some o) : ∃ a, ρ[i]? = some a ∧ ObRep K G ρ H o a := by
  have hi : i < ρ.length := by rw [r.len]; exact (List.getElem?_eq_some_iff.mp h).1
  exact ⟨ρ[i], by rw [List.getElem?_eq_getElem hi], r.ob i o _ h (by rw [List.getElem?_eq_getElem hi])⟩
theorem Keep.new {p : Addr} {o : HO} (hn : H p = none) (hg : ∀ a, G a → ∃ u, H a = some u) : Keep G ρ H ρ (upd H p o) := by
  refine ⟨⟨[], by simp⟩, fun a xs h => ?_, fun a xs h1 h2 h => ⟨h1, by rw [upd_ne (ne_of_none h hn)]; exact h⟩, fun a o u h => by rw [upd_ne (ne_of_none h hn)]; exact h, fun a h => ?_⟩
  · rcases h with h | ⟨ob, h⟩
    · exact .inl (by rw [upd_ne (ne_of_none h hn)]; exact h)
    · exact .inr ⟨ob, by rw [upd_ne (ne_of_none h hn)]; exact h⟩
  · obtain ⟨u, e⟩ := hg a h
    rw [upd_ne (ne_of_none e hn)]
theorem okU {p : Addr} {u : HO} (hp : ∀ a o, H a = some o → okO o) (hu : okO u) : ∀ a o, upd H p u a = some o → okO o := fun a o h => by
  by_cases e : a = p
  · subst e; rw [upd_same] at h; cases h; exact hu
  · rw [upd_ne e] at h; exact hp a o h
theorem RelS.keep_at (r : RelS K G ρ S H) (k : Keep G ρ H ρ H') (same : ∀ a ∈ ρ, H' a = H a) (tp : ∀ a o, H' a = some o → okO o) : RelS K G ρ S H' := by
  refine ⟨r.len, r.nd, r.ng, fun a h => by rw [k.grd a h]; exact r.gt a h, tp, fun i o a h1 h2 => ?_⟩
  have := r.ob i o a h1 h2
  cases o with
  | lst ds =>
    obtain ⟨vs, e, h⟩ := this
    exact ⟨vs, by rw [same a (List.mem_of_getElem? h2)]; exact e, RepL.keep k ds vs h⟩
  | dK kvs =>
    obtain ⟨vs, e, h⟩ := this
    exact ⟨vs, by rw [same a (List.mem_of_getElem? h2)]; exact e, RepKV.keep k kvs vs h⟩
  | dI kvs =>
    obtain ⟨vs, e, h⟩ := this
    exact ⟨vs, by rw [same a (List.mem_of_getElem? h2)]; exact e, RepKI.keep k kvs vs h⟩
  | ins x fs =>
    obtain ⟨vs, ⟨C, dx, e, hC⟩, h⟩ := this
    exact ⟨vs, ⟨C, dx, by rw [same a (List.mem_of_getElem? h2)]; exact e, hC⟩, RepF.keep k fs vs h⟩
  | dS fs =>
    obtain ⟨vs, e, h⟩ := this
    exact ⟨vs, by rw [same a (List.mem_of_getElem? h2)]; exact e, RepF.keep k fs vs h⟩
  | gone =>
    obtain ⟨u, e⟩ := this
    exact ⟨u, by rw [same a (List.mem_of_getElem? h2)]; exact e⟩
theorem ObRep.there {o : Ob} {a : Addr} (h : ObRep K G ρ H o a) : ∃ u, H a = some u := by
  cases o with
  | lst ds => obtain ⟨vs, e, _⟩ := h; exact ⟨_, e⟩
  | dK kvs => obtain ⟨vs, e, _⟩ := h; exact ⟨_, e⟩
  | dI kvs => obtain ⟨vs, e, _⟩ := h; exact ⟨_, e⟩
  | ins x fs => obtain ⟨vs, ⟨C, dx, e, _⟩, _⟩ := h; exact ⟨_, e⟩
  | dS fs => obtain ⟨vs, e, _⟩ := h; exact ⟨_, e⟩
  | gone => exact h
theorem RelS.there (r : RelS K G ρ S H) {a : Addr} (h : a ∈ ρ) : ∃ u, H a = some u := by
  obtain ⟨i, hi, e⟩ := List.getElem_of_mem h
  have hS : i < S.length := by rw [← r.len]; exact hi
  exact (r.ob i S[i] a (by rw [List.getElem?_eq_getElem hS]) (by rw [List.getElem?_eq_getElem hi, e])).there
theorem RelS.fresh (r : RelS K G ρ S H) {p : Addr} (hn : H p = none) : p ∉ ρ := fun h => by
  obtain ⟨u, e⟩ := r.there h
  rw [hn] at e
  cases e
theorem RelS.new (r : RelS K G ρ S H) {p : Addr} {o : HO} (hn : H p = none) (ho : okO o := by exact True.intro) : RelS K G ρ S (upd H p o) :=
  r.keep_at (Keep.new hn r.gt) (fun a ha => upd_ne fun e => r.fresh hn (e ▸ ha)) (okU r.tp ho)
theorem RelS.ngn (r : RelS K G ρ S H) {p : Addr} (hn : H p = none) : ¬ G p := fun h => by
  obtain ⟨u, e⟩ := r.gt p h
  rw [hn] at e
  cases e
theorem Keep.cell {p : Addr} {o : HO} (hn : H p = none) (hg : ∀ a, G a → ∃ u, H a = some u) : Keep G ρ H (ρ ++ [p]) (upd H p o) := by
  have k : Keep G ρ H ρ (upd H p o) := Keep.new hn hg
  refine ⟨⟨[p], rfl⟩, k.tup, fun a xs h1 h2 h => ⟨?_, (k.lst a xs h1 h2 h).2⟩, k.frz, k.grd⟩
  simp [h1, ne_of_none h hn]
theorem RelS.alloc (r : RelS K G ρ S H) {p : Addr} {o : Ob} {u : HO} (hn : H p = none) (ho : ObRep K G (ρ ++ [p]) (upd H p u) o p) (hu : okO u := by exact True.intro) : RelS K G (ρ ++ [p]) (S ++ [o]) (upd H p u) := by
  have k : Keep G ρ H (ρ ++ [p]) (upd H p u) := Keep.cell hn r.gt
  have np := r.fresh hn
  refine ⟨by simp [r.len], ?_, fun a ha => ?_, fun a h => by rw [k.grd a h]; exact r.gt a h, okU r.tp hu, fun i o' a h1 h2 => ?_⟩
  · rw [List.nodup_append]
    refine ⟨r.nd, by simp, fun a ha b hb => ?_⟩
    rintro rfl
    simp at hb
    exact np (hb ▸ ha)
  · rcases List.mem_append.mp ha with h | h
    · exact r.ng a h
    · simp at h; rw [h]; exact r.ngn hn
  · by_cases hi : i < S.length
    · rw [List.getElem?_append_left hi] at h1
      rw [List.getElem?_append_left (by rw [r.len]; exact hi)] at h2
      have hne : a ≠ p := fun e => np (e ▸ List.mem_of_getElem? h2)
      have := r.ob i o' a h1 h2
      cases o' with
      | lst ds =>
        obtain ⟨vs, e, h⟩ := this
        exact ⟨vs, by rw [upd_ne hne]; exact e, RepL.keep k ds vs h⟩
      | dK kvs =>
        obtain ⟨vs, e, h⟩ := this
        exact ⟨vs, by rw [upd_ne hne]; exact e, RepKV.keep k kvs vs h⟩
      | dI kvs =>
        obtain ⟨vs, e, h⟩ := this
        exact ⟨vs, by rw [upd_ne hne]; exact e, RepKI.keep k kvs vs h⟩
      | ins x fs =>
        obtain ⟨vs, ⟨C, dx, e, hC⟩, h⟩ := this
        exact ⟨vs, ⟨C, dx, by rw [upd_ne hne]; exact e, hC⟩, RepF.keep k fs vs h⟩
      | dS fs =>
        obtain ⟨vs, e, h⟩ := this
        exact ⟨vs, by rw [upd_ne hne]; exact e, RepF.keep k fs vs h⟩
      | gone =>
        obtain ⟨u, e⟩ := this
        exact ⟨u, by rw [upd_ne hne]; exact e⟩
    · have hi' : i = S.length := by
        have := (List.getElem?_eq_some_iff.mp h1).1
        simp at this
        omega
      subst hi'
      rw [List.getElem?_append_right (Nat.le_refl _)] at h1
      simp at h1
      subst h1
      rw [← r.len, List.getElem?_append_right (Nat.le_refl _)] at h2
      simp at h2
      subst h2
      exact ho
theorem Keep.write {p : Addr} {u : HO} (hp : p ∈ ρ) (hg : ¬ G p) (ht : (∃ vs, H p = some (.lst vs)) ∨ (∃ φ, H p = some (.ext φ)) ∨ (∃ kvs, H p = some (.dK kvs)) ∨ ∃ C dx fs, H p = some (.ins C dx fs)) : Keep G ρ H ρ (upd H p u) := by
  have nt : ∀ a o, H a = some o → (∀ vs, o ≠ .lst vs) → (∀ φ, o ≠ .ext φ) → (∀ kvs, o ≠ .dK kvs) → (∀ C dx fs, o ≠ .ins C dx fs) → a ≠ p := fun a o h n1 n2 n3 n4 e => by
    subst e
    rcases ht with ⟨vs, q⟩ | ⟨kvs, q⟩ | ⟨kvs, q⟩ | ⟨C, dx, fs, q⟩
    · rw [h] at q; cases q; exact n1 _ rfl
    · rw [h] at q; cases q; exact n2 _ rfl
    · rw [h] at q; cases q; exact n3 _ rfl
    · rw [h] at q; cases q; exact n4 _ _ _ rfl
  refine ⟨⟨[], by simp⟩, fun a xs h => ?_, fun a xs h1 h2 h => ⟨h1, ?_⟩, fun a o v h => ?_, fun a h => ?_⟩
  · rcases h with h | ⟨ob, h⟩
    · exact .inl (by rw [upd_ne (nt a _ h (fun _ q => nomatch q) (fun _ q => nomatch q) (fun _ q => nomatch q) (fun _ _ _ q => nomatch q))]; exact h)
    · exact .inr ⟨ob, by rw [upd_ne (nt a _ h (fun _ q => nomatch q) (fun _ q => nomatch q) (fun _ q => nomatch q) (fun _ _ _ q => nomatch q))]; exact h⟩
  · have hne : a ≠ p := fun e => h1 (e ▸ hp)
    rw [upd_ne hne]
    exact h
  · rw [upd_ne (nt a _ h (fun _ q => nomatch q) (fun _ q => nomatch q) (fun _ q => nomatch q) (fun _ _ _ q => nomatch q))]
    exact h
  · rw [upd_ne]
    rintro rfl
    exact hg h
theorem RelS.write (r : RelS K G ρ S H) {i : Nat} {p : Addr} {o : Ob} {u : HO} (hi : ρ[i]? = some p) (ht : (∃ vs, H p = some (.lst vs)) ∨ (∃ φ, H p = some (.ext φ)) ∨ (∃ kvs, H p = some (.dK kvs)) ∨ ∃ C dx fs, H p = some (.ins C dx fs)) (ho : ObRep K G ρ (upd H p u) o p) (hu : okO u := by exact True.intro) : RelS K G ρ (S.set i o) (upd H p u) ∧ Keep G ρ H ρ (upd H p u) := by
  have hm : p ∈ ρ := List.mem_of_getElem? hi
  have k : Keep G ρ H ρ (upd H p u) := Keep.write hm (r.ng p hm) ht
  refine ⟨⟨by simp [r.len], r.nd, r.ng, fun a h => by rw [k.grd a h]; exact r.gt a h, okU r.tp hu, fun j o' a h1 h2 => ?_⟩, k⟩
  by_cases hj : j = i
  · subst hj
    have : j < S.length := by rw [← r.len]; exact (List.getElem?_eq_some_iff.mp hi).1
    rw [List.getElem?_set_self this] at h1
    cases h1
    rw [hi] at h2
    cases h2
    exact ho
  · rw [List.getElem?_set_ne (Ne.symm hj)] at h1
    have hne : a ≠ p := fun e => hj (by
      have h3 := (List.getElem?_eq_some_iff.mp h2)
      have h4 := (List.getElem?_eq_some_iff.mp hi)
      obtain ⟨l3, e3⟩ := h3
      obtain ⟨l4, e4⟩ := h4
      exact (List.getElem_inj r.nd).mp (by rw [e3, e4, e]))
    have := r.ob j o' a h1 h2
    cases o' with
    | lst ds =>
      obtain ⟨vs, e, h⟩ := this
      exact ⟨vs, by rw [upd_ne hne]; exact e, RepL.keep k ds vs h⟩
    | dK kvs =>
      obtain ⟨vs, e, h⟩ := this
      exact ⟨vs, by rw [upd_ne hne]; exact e, RepKV.keep k kvs vs h⟩
    | dI kvs =>
      obtain ⟨vs, e, h⟩ := this
      exact ⟨vs, by rw [upd_ne hne]; exact e, RepKI.keep k kvs vs h⟩
    | ins x fs =>
      obtain ⟨vs, ⟨C, dx, e, hC⟩, h⟩ := this
      exact ⟨vs, ⟨C, dx, by rw [upd_ne hne]; exact e, hC⟩, RepF.keep k fs vs h⟩
    | dS fs =>
      obtain ⟨vs, e, h⟩ := this
      exact ⟨vs, by rw [upd_ne hne]; exact e, RepF.keep k fs vs h⟩
    | gone =>
      obtain ⟨u, e⟩ := this
      exact ⟨u, by rw [upd_ne hne]; exact e⟩

structure RelE (K : PySem.W.Frag) (G : Addr → Prop) (ρ : List Addr) (H : Hp) (env : En) (σ : L2.St) : Prop where
  len : σ.length = env.length
  get : ∀ (i : Nat) (d : D), env[i]? = some (some d) → ∃ v, σ[i]? = some (some v) ∧ Rep K G ρ H d v
theorem RelE.keep {env : En} {σ : L2.St} (k : Keep G ρ H ρ' H') (r : RelE K G ρ H env σ) : RelE K G ρ' H' env σ :=
  ⟨r.len, fun i d h => let ⟨v, h1, h2⟩ := r.get i d h; ⟨v, h1, Rep.keep k d v h2⟩⟩
theorem RelE.set {env : En} {σ : L2.St} (r : RelE K G ρ H env σ) {i : Nat} {d : D} {v : V} (h : Rep K G ρ H d v) : RelE K G ρ H (env.set i (some d)) (σ.set i (some v)) := by
  refine ⟨by simp [r.len], fun j d' e => ?_⟩
  by_cases hj : j = i
  · subst hj
    have hl : j < (env.set j (some d)).length := (List.getElem?_eq_some_iff.mp e).1
    rw [List.length_set] at hl
    rw [List.getElem?_set_self hl] at e
    cases e
    exact ⟨v, by rw [List.getElem?_set_self (by rw [r.len]; exact hl)], h⟩
  · rw [List.getElem?_set_ne (Ne.symm hj)] at e
    obtain ⟨w, h1, h2⟩ := r.get j d' e
    exact ⟨w, by rw [List.getElem?_set_ne (Ne.symm hj)]; exact h1, h2⟩
def clr (env : En) : List Nat → En
  | [] => env
  | i :: r => (clr env r).set i none
theorem clr_length (env : En) : ∀ l : List Nat, (clr env l).length = env.length
  | [] => rfl
  | i :: r => by unfold clr; rw [List.length_set, clr_length env r]
theorem clr_get {env : En} {i : Nat} {d : D} : ∀ {l : List Nat}, (clr env l)[i]? = some (some d) → env[i]? = some (some d)
  | [], h => h
  | j :: r, h => by
    unfold clr at h
    by_cases e : i = j
    · subst e
      have hl : i < ((clr env r).set i none).length := (List.getElem?_eq_some_iff.mp h).1
      rw [List.length_set] at hl
      rw [List.getElem?_set_self hl] at h
      cases h
    · rw [List.getElem?_set_ne (Ne.symm e)] at h
      exact clr_get h
theorem RelE.clr {env : En} {σ : L2.St} (r : RelE K G ρ H env σ) (l : List Nat) : RelE K G ρ H (clr env l) σ :=
  ⟨by rw [clr_length]; exact r.len, fun i d h => r.get i d (clr_get h)⟩
end
end Rf

namespace Rf
open PySem PySem.Spec PyProof.Rows L2

structure RoomG (k : Nat) (A : Around) : Prop extends Room k A where
  gd : A.guards = some []
theorem RoomG.mono {j k : Nat} {A : Around} (r : RoomG k A) (h : j ≤ k) : RoomG j A := ⟨r.toRoom.mono h, r.gd⟩
structure FnOkG (P : Program) (w : World) (K : PySem.W.Frag) (mg : Str → Option Value) (base : Heap) (CX : CXT) (k : Nat) (f : Addr) (fd : FuncData) (ps : List Str) (sp : Sp) : Prop where
  len : ∀ vs H Q E, sp vs H Q E → vs.length = ps.length
  run : ∀ A, A.guards = some [] → ∀ outer s H args us vs Q E, Room k A → Env0 P w K mg base A outer s H → BindsTo s fd args (ps.zip us) → Vals vs us → sp vs H Q E → codeAny (model P w) A (.call (.ref f) args) (CR CX outer P w H s Q E) s
theorem FnOkG.mono {P : Program} {w : World} {K : PySem.W.Frag} {mg : Str → Option Value} {base : Heap} {CX : CXT} {j k : Nat} {f : Addr} {fd : FuncData} {ps : List Str} {sp : Sp} (F : FnOkG P w K mg base CX j f fd ps sp) (h : j ≤ k) : FnOkG P w K mg base CX k f fd ps sp :=
  ⟨F.len, fun A g outer s H args us vs Q E hr => F.run A g outer s H args us vs Q E (hr.mono h)⟩
section
variable {P : Program} {w : World} {K : PySem.W.Frag} {mg : Str → Option Value} {base : Heap}
theorem fn_ofG {x qual : Str} {st : Stmt} {f : Addr} {fd : FuncData} {N ps : List Str} {k : Nat} {sp : Sp} (F : Fun K x qual st f fd) (Sc : FnScope N ps (defScope st)) (len : ∀ vs H Q E, sp vs H Q E → vs.length = ps.length)
    (hbody : ∀ (cdv : Value) (A : Around) (outer : List Env) (s : Shared) (H : Hp) (vs : List V) (Q : VK) (E : XK), RoomG k (A.deeper (envOfC qual (defScope st) s.heap.objs.size f cdv)) → sp vs H Q E →
      ∃ t, PSs (cxOf (L2.CX P w) P w K mg base N qual (defScope st) f cdv A outer s H E) (defBody st) t ∧ t { nx := fun _ H' => Q .non H', rt := Q } (start N vs) H) : FnOkG P w K mg base (L2.CX P w) (k + 1) f fd ps sp := by
  obtain ⟨oc, od, kV, doc, pm, an, cdv, ct, osl, rfl, lk, hcd⟩ := F.ex
  refine ⟨len, fun A gd outer s H args us vs Q E hr e0 hb r hsp => ?_⟩
  have keep : ∀ b o, base.get? b = some o → s.heap.get? b = some o := fun b o e => (e0.bs b o e).1
  have inK := e0.mod.kin.keeps keep
  refine codeAny_call_function hr.depth (inK _ _ lk) rfl Sc.co Sc.gen rfl (PySem.W.codeRec_of inK hcd) (hb _ _ _ _ ?_)
  refine wpAny_newFunctionEnv_cells Sc.kind (fun y hy => (Sc.par y.1 (List.of_mem_zip hy).1).imp id fun q => ⟨q, PySem.W.cellsFrom_some _ _ _ (.inl q)⟩) fun env he s1 x => ?_
  subst he
  refine ⟨(e0.mod.nolimit.keeps keep).keeps x.toInCall.keep, codeAny_func ?_⟩
  obtain ⟨t, ht, hq⟩ := hbody cdv A outer s H vs Q E ⟨hr.deeper _, gd⟩ hsp
  have I0 := inv_start (CX := L2.CX P w) (qual := qual) (f := f) (cd := cdv) (E := E) Sc hr.hd e0 (len _ _ _ _ hsp) r x
  refine wpAny_mono (ht.run [] s1 (start N vs) H _ I0 hq) (fun fl s2 h2 => ?_) fun _ _ h2 => h2
  cases fl with
  | ret u => obtain ⟨v, _, H', J, rv, q⟩ := h2; exact ⟨v, H', J.os, J.bare, J.base, J.hok, rv, q⟩
  | next => obtain ⟨_, H', J, q⟩ := h2; exact ⟨.non, H', J.os, J.bare, J.base, J.hok, rfl, q⟩
  | brk => obtain ⟨_, _, _, q⟩ := h2; exact q.elim
  | cont => obtain ⟨_, _, _, q⟩ := h2; exact q.elim
end
section
variable {X : Cx} {CX : CXT} {k : Nat} {f : Addr} {fd : FuncData} {ps : List Str} {sp : Sp} {E : L2.St → XK} {x : Str} {p pos : Pos} {e : Expr} {es : List Expr} {t : TA}
theorem run_fnG {pins : List (Addr × Obj)} {σ : L2.St} {H : Hp} {s : Shared} {Q : VK} {us : List Value} {vs : List V} (F : FnOkG X.prog X.w X.K X.mg X.base CX k f fd ps sp) (hr : RoomG k X.A) (hb : Binds X.K fd ps []) (hx : PassesAt CX X σ (E σ)) (I : Inv X pins σ H s) (r : Vals vs us) (h : sp vs H Q (E σ)) :
    wpAny (model X.prog X.w) X.A (call (.ref f) us) (EP X pins σ Q) X.xe s := by
  have b := hb s us I.kIn (by rw [List.append_nil, ← r.length]; exact F.len _ _ _ _ h)
  rw [List.append_nil] at b
  refine wpAny_call (codeAny_mono (F.run X.A hr.gd X.stack s H ⟨us, []⟩ us vs Q (E σ) hr.toRoom I.env0 b r h) fun r s' hq => ?_)
  match r, hq with
  | .error e, hq => exact hx pins H s e s' I hq
  | .ok (.ret u), hq => exact I.after hq
theorem pe_callG (F : FnOkG X.prog X.w X.K X.mg X.base CX k f fd ps sp) (hr : RoomG k X.A) (hg : Gl X x) (hm : X.mg x = some (.ref f)) (hk : PySem.W.keepIn X.K (.ref f) = true) (hb : Binds X.K fd ps []) (hx : ∀ σ, PassesAt CX X σ (E σ)) (ha : PA X (e :: es) t)
    (hdb : (x == ("__debug__" : Str)) = false) (he : starEach (e :: es) X.env = (false, eval e X.env) :: starEach es X.env) (hpl : (backTo pos (starEach es X.env)).any (·.1) = false) : PE X (.Call (.Name x p) (e :: es) [] pos) (tCallS sp E t) :=
  ⟨fun pins s σ H Q I h => wpAny_Call_Name_kw (ld_glob I hg hm (PySem.W.callWith_K (h₀ := X.base) I.ok.mod.kin hk (thn (ha.run pos pins s σ H _ I h) fun us s1 ⟨vs, H1, I1, r, q⟩ => ⟨I1.kIn, run_fnG F hr hb (hx σ) I1 r q⟩) he hpl) hdb)⟩
end
section
variable {P : Program} {w : World} {K : PySem.W.Frag} {mg mb : Str → Option Value} {CX : CXT} {k : Nat} {fa a : Addr} {fd : FuncData} {x : Str} {sp : Sp} {s₁ : Shared} {vs : List Value} {ns : List Int}
def scH (K : PySem.W.Frag) (a : Addr) (o : Obj) (xs : List V) : Hp := fun b => if b = a ∧ K.lookup a = none then some (.frz o (.lst xs)) else none
theorem scH_at {o : Obj} {xs : List V} {b : Addr} {u : HO} (h : scH K a o xs b = some u) : b = a ∧ K.lookup a = none ∧ u = .frz o (.lst xs) := by
  unfold scH at h
  split at h
  · rename_i z; cases h; exact ⟨z.1, z.2, rfl⟩
  · cases h
theorem env0_of (KX : K.In s₁.heap) (hns : s₁.heap.Ns mainGlobals mg) (hb : s₁.heap.Ns builtinsNs mb) (hbb : ∀ x : Str, x ≠ "__name__" → mb x = bootBuiltins x) (hlim : s₁.heap.NoLimit) (hg : s₁.gens = #[])
    (ha : s₁.heap.get? a = some { cls := .type "list", data := .seq vs.toArray }) (hi : IntsAre vs ns) (hl : ns.length ≤ sizeLine) :
    ∃ H base, Only H ∧ SqL K H a (ns.map V.int) ∧ K.In base ∧ base.Ns mainGlobals mg ∧ Env0 P w K mg base callerA [] s₁ H := by
  obtain ⟨o, ho⟩ : ∃ o : Obj, o = { cls := .type "list", data := .seq vs.toArray } := ⟨_, rfl⟩
  rw [← ho] at ha
  obtain ⟨H, hH⟩ : ∃ H, H = scH K a o (ns.map V.int) := ⟨_, rfl⟩
  have only : Only H := fun b => by
    cases q : H b with
    | none => exact .inl rfl
    | some u => rw [hH] at q; exact .inr ⟨_, _, by rw [(scH_at q).2.2]⟩
  have sq : SqL K H a (ns.map V.int) := by
    cases hk : K.lookup a with
    | none => exact .inl (.inr ⟨o, by rw [hH]; unfold scH; rw [if_pos ⟨rfl, hk⟩]⟩)
    | some o' =>
      have e := KX a o' hk
      rw [ha] at e
      cases e
      subst ho
      exact .inr ⟨_, vs.toArray, _, hk, rfl, rfl, rfl, by rw [List.size_toArray, hi.length]; exact hl, by simpa using vals_ints hi⟩
  have ok : HOk P w H s₁.heap := fun b u q => by
    rw [hH] at q
    obtain ⟨rfl, _, rfl⟩ := scH_at q
    exact ⟨ha, by rw [List.length_map]; exact hl, vs, _, vals_ints hi, by rw [ha, ho]⟩
  have ns1 : ∀ {b m}, s₁.heap.Ns b m → (hidT s₁.heap H).Ns b m := fun ⟨ob, es, ep, e, d, r⟩ => by
    refine ⟨ob, es, ep, hidT_get e ?_, d, r⟩
    cases q : H _ with
    | none => rfl
    | some u =>
      rw [hH] at q
      obtain ⟨rfl, _, _⟩ := scH_at q
      rw [ha] at e
      cases e
      subst ho
      exact nomatch (show Data.seq vs.toArray _ = Data.dict es ep from d)
  have inB : K.In (hidT s₁.heap H) := fun b ob e => by
    refine hidT_get (KX b ob e) ?_
    cases q : H b with
    | none => rfl
    | some u =>
      rw [hH] at q
      obtain ⟨rfl, z, _⟩ := scH_at q
      rw [z] at e
      cases e
  obtain ⟨mc, l1, l2⟩ := hlim
  exact ⟨H, hidT s₁.heap H, only, sq, inB, ns1 hns, rfl, ⟨inB, ns1 hns, ⟨mb, ns1 hb, hbb⟩, ⟨mc, ns1 l1, l2⟩⟩, fun _ _ e => of_hidT e, Nat.le_of_eq (hidT_size _ _), trivial, fun b z => (nomatch z), ok, .of_eq hg⟩
theorem law_callG (KX : K.In s₁.heap) (hns : s₁.heap.Ns mainGlobals mg) (hb : s₁.heap.Ns builtinsNs mb) (hbb : ∀ x : Str, x ≠ "__name__" → mb x = bootBuiltins x) (hlim : s₁.heap.NoLimit) (hg : s₁.gens = #[])
    (ha : s₁.heap.get? a = some { cls := .type "list", data := .seq vs.toArray }) (hi : IntsAre vs ns) (hl : ns.length ≤ sizeLine) (hr : Room k callerA) (F : ∀ base : Heap, K.In base → base.Ns mainGlobals mg → FnOkG P w K mg base CX k fa fd [x] sp)
    (hbind : ∀ (s : Shared) (u : Value), BindsTo s fd ⟨[u], []⟩ [(x, u)]) (hsp : ∀ H : Hp, Only H → SqL K H a (ns.map V.int) → sp [.ref a] H (fun v _ => v = .bl true) fun _ _ _ => False) (hCX : ∀ H e s', CX [] H s₁ (fun _ _ _ => False) e s' → False) :
    codeAny (model P w) callerA (.call (.ref fa) ⟨[.ref a], []⟩) (fun r s' => r = .ok (.ret (.bool true)) ∧ OldK s₁.heap s'.heap ∧ s'.os = s₁.os ∧ AllBare s'.gens) s₁ := by
  obtain ⟨H, base, only, sq, i1, i2, e0⟩ := env0_of (P := P) (w := w) KX hns hb hbb hlim hg ha hi hl
  refine codeAny_mono ((F base i1 i2).run callerA rfl [] s₁ H ⟨[.ref a], []⟩ [.ref a] [.ref a] _ _ hr e0 (hbind s₁ (.ref a)) (.cons rfl .nil) (hsp H only sq)) fun r s' h => ?_
  match r, h with
  | .error e, h => exact (hCX H e s' h).elim
  | .ok (.ret u), ⟨v, H', os, bare, un, ok', rv, q⟩ =>
    cases (show v = .bl true from q)
    cases (show u = Value.bool true from rv)
    refine ⟨rfl, OldK.of_keep fun b ob e => ?_, os, bare⟩
    rcases only b with z | ⟨o1, xs, z⟩
    · exact un.keep b ob e z (fun y => nomatch y) (fun y => nomatch y)
    · have k1 := (e0.hok b _ z).1
      rw [e] at k1
      cases k1
      exact (ok' b _ (un.frzs b _ _ z)).1
end
theorem walk_ofG {l : PySem.W.OpenLaw} {n k : Nat} {q : Program} {loose : List Str} {XP : (Str → Option Value) → Heap → Prop} {YP : World → Heap → Prop} {d : DefRec} {K : Params → PySem.W.Frag} {CX : World → CXT} {sp : World → Sp} {x : Str} (hn : l.most = some n) (hn2 : n ≤ sizeLine)
    (hdf : d.params.defaults = []) (hr : Room k callerA) (hY : ∀ (w : World) (h : Heap), YP w h → (K w.params).In h) (F : ∀ (w : World) (mg : Str → Option Value) (fa : Addr) (h : Heap), (K w.params).In h → h.Ns mainGlobals mg → mg d.name = some (.ref fa) → ∃ fd : FuncData, (∀ (s : Shared) (u : Value), BindsTo s fd ⟨[u], []⟩ [(x, u)]) ∧
        ∀ base : Heap, (K w.params).In base → base.Ns mainGlobals mg → FnOkG l.prog w (K w.params) mg base (CX w) k fa fd [x] (sp w))
    (hsp : ∀ (w : World) (H : Hp) (a : Addr) (ns : List Int), ns.length ≤ n → Only H → SqL (K w.params) H a (ns.map V.int) → sp w [.ref a] H (fun v _ => v = .bl true) fun _ _ _ => False) (hCX : ∀ (w : World) (H : Hp) (s : Shared) (e : Value) (s' : Shared), CX w [] H s (fun _ _ _ => False) e s' → False) :
    PySem.W.WalkO q loose XP YP l.row.toRowW d [] (fun f vs => PySem.call f vs) := Att.attach_call hn hdf fun w s₀ s₁ mg mb fa o pm cd doc a vs ns G Y ho hd hcd hmg hobj hints hlen hg => by
  have inK := hY w _ Y
  obtain ⟨fd, hb, hF⟩ := F w mg fa _ inK G.T.g hmg
  exact law_callG inK G.T.g G.T.b G.T.builtins G.T.nolimit hg hobj hints (Nat.le_trans hlen hn2) hr hF hb (fun H => hsp w H a ns hlen) fun H => hCX w H s₁
end Rf

namespace Rf
open PySem PySem.Spec PyProof.Rows L2

def Res.bind {α β : Type} (r : Res α) (f : α → Store → Res β) : Res β :=
  match r with
  | .ok a S => f a S
  | .err c S => .err c S
  | .bad => .bad
@[simp] theorem bind_ok {α β : Type} (a : α) (S : Store) (f : α → Store → Res β) : (Res.ok a S).bind f = f a S := rfl
@[simp] theorem bind_err {α β : Type} (c : Nat) (S : Store) (f : α → Store → Res β) : (Res.err c S : Res α).bind f = .err c S := rfl
@[simp] theorem bind_bad {α β : Type} (f : α → Store → Res β) : (Res.bad : Res α).bind f = .bad := rfl

def Ok {α β : Type} (K : PySem.W.Frag) (G : Addr → Prop) (rel : List Addr → Hp → α → β → Prop) (ρ : List Addr) (H : Hp) (r : Res α) (E : Nat → Hp → Prop) (Q : β → Hp → Prop) : Prop :=
  match r with
  | .ok a S' => ∀ b ρ' H', RelS K G ρ' S' H' → rel ρ' H' a b → Keep G ρ H ρ' H' → Q b H'
  | .err c S' => ∀ ρ' H', RelS K G ρ' S' H' → Keep G ρ H ρ' H' → E c H'
  | .bad => False
def OkF (K : PySem.W.Frag) (G : Addr → Prop) (ρ : List Addr) (H : Hp) (r : Res (List D)) (E : Nat → Hp → Prop) (Q : VK) : Prop :=
  match r with
  | .ok ds S' => ∀ a vs ρ' H', RelS K G ρ' S' H' → RepL K G ρ' H' ds vs → Keep G ρ H ρ' H' → H' a = none → Q (.ref a) (upd H' a (.lst vs))
  | .err c S' => ∀ ρ' H', RelS K G ρ' S' H' → Keep G ρ H ρ' H' → E c H'
  | .bad => False
def relB : List Addr → Hp → Bool → Bool → Prop := fun _ _ a b => b = a
section
variable {K : PySem.W.Frag} {G : Addr → Prop} {ρ ρ' : List Addr} {H H' : Hp} {E : Nat → Hp → Prop}
theorem Ok.keep {α β : Type} {rel : List Addr → Hp → α → β → Prop} {r : Res α} {Q : β → Hp → Prop} (k : Keep G ρ H ρ' H') (h : Ok K G rel ρ H r E Q) : Ok K G rel ρ' H' r E Q := by
  cases r with
  | ok a S => exact fun b ρ2 H2 r1 r2 k2 => h b ρ2 H2 r1 r2 (k.trans k2)
  | err c S => exact fun ρ2 H2 r1 k2 => h ρ2 H2 r1 (k.trans k2)
  | bad => exact h
theorem OkF.keep {r : Res (List D)} {Q : VK} (k : Keep G ρ H ρ' H') (h : OkF K G ρ H r E Q) : OkF K G ρ' H' r E Q := by
  cases r with
  | ok a S => exact fun b vs ρ2 H2 r1 r2 k2 => h b vs ρ2 H2 r1 r2 (k.trans k2)
  | err c S => exact fun ρ2 H2 r1 k2 => h ρ2 H2 r1 (k.trans k2)
  | bad => exact h
theorem Ok.bind {α β γ δ : Type} {rel : List Addr → Hp → α → β → Prop} {rel2 : List Addr → Hp → γ → δ → Prop} {r : Res α} {f : α → Store → Res γ} {Q : β → Hp → Prop} {Q2 : δ → Hp → Prop}
    (h : Ok K G rel2 ρ H (r.bind f) E Q2) (n : ∀ a S' b ρ' H', RelS K G ρ' S' H' → rel ρ' H' a b → Keep G ρ H ρ' H' → Ok K G rel2 ρ' H' (f a S') E Q2 → Q b H') : Ok K G rel ρ H r E Q := by
  cases r with
  | ok a S => exact fun b ρ2 H2 r1 r2 k2 => n a S b ρ2 H2 r1 r2 k2 (h.keep k2)
  | err c S => exact h
  | bad => exact h
theorem OkF.bind {α β : Type} {rel : List Addr → Hp → α → β → Prop} {r : Res α} {f : α → Store → Res (List D)} {Q : β → Hp → Prop} {Q2 : VK}
    (h : OkF K G ρ H (r.bind f) E Q2) (n : ∀ a S' b ρ' H', RelS K G ρ' S' H' → rel ρ' H' a b → Keep G ρ H ρ' H' → OkF K G ρ' H' (f a S') E Q2 → Q b H') : Ok K G rel ρ H r E Q := by
  cases r with
  | ok a S => exact fun b ρ2 H2 r1 r2 k2 => n a S b ρ2 H2 r1 r2 k2 (h.keep k2)
  | err c S => exact h
  | bad => exact h
theorem Ok.now {α β : Type} {rel : List Addr → Hp → α → β → Prop} {Q : β → Hp → Prop} {a : α} {b : β} {S : Store} (h : Ok K G rel ρ H (.ok a S) E Q) (r : RelS K G ρ S H) (x : rel ρ H a b) : Q b H := h b ρ H r x Keep.refl
end

abbrev WE' (cA : Nat → Addr) (W : WX) (σ : L2.St) : Nat → Hp → Prop := fun c H' => W (.ref (cA c)) none σ H'
def tE (K : PySem.W.Frag) (cA : Nat → Addr) (W : WX) (m : M D) : TE := fun σ H Q => ∃ G ρ env S, RelE K G ρ H env σ ∧ RelS K G ρ S H ∧ Ok K G (Rep K G) ρ H (m env S) (WE' cA W σ) Q
def tT (K : PySem.W.Frag) (cA : Nat → Addr) (W : WX) (m : M Bool) : TT := fun σ H Q => ∃ G ρ env S, RelE K G ρ H env σ ∧ RelS K G ρ S H ∧ Ok K G relB ρ H (m env S) (WE' cA W σ) Q
def tAr (K : PySem.W.Frag) (cA : Nat → Addr) (W : WX) (m : M (List D)) : TA := fun σ H Q => ∃ G ρ env S, RelE K G ρ H env σ ∧ RelS K G ρ S H ∧ Ok K G (RepL K G) ρ H (m env S) (WE' cA W σ) Q
def tFr (K : PySem.W.Frag) (cA : Nat → Addr) (W : WX) (m : M (List D)) : TE := fun σ H Q => ∃ G ρ env S, RelE K G ρ H env σ ∧ RelS K G ρ S H ∧ OkF K G ρ H (m env S) (WE' cA W σ) Q

section
variable {X : Cx} {e a b c : Expr} {pos : Pos}
theorem pe_imp {t t' : TE} (h : PE X e t) (i : ∀ σ H Q, t' σ H Q → t σ H Q) : PE X e t' := ⟨fun pins s σ H Q I hw => h.run pins s σ H Q I (i σ H Q hw)⟩
theorem pt_imp {t t' : TT} (h : PT X e t) (i : ∀ σ H Q, t' σ H Q → t σ H Q) : PT X e t' := ⟨fun pins s σ H Q I hw => h.run pins s σ H Q I (i σ H Q hw)⟩
theorem pw_imp {t t' : TT} (h : PW X e t) (i : ∀ σ H Q, t' σ H Q → t σ H Q) : PW X e t' := ⟨fun wh pins s σ H Q I hw => h.run wh pins s σ H Q I (i σ H Q hw)⟩
theorem pa_imp {es : List Expr} {t t' : TA} (h : PA X es t) (i : ∀ σ H Q, t' σ H Q → t σ H Q) : PA X es t' := ⟨fun pos pins s σ H Q I hw => h.run pos pins s σ H Q I (i σ H Q hw)⟩
theorem ps_imp {st : Stmt} {t t' : TS} (h : PS X st t) (i : ∀ D σ H, t' D σ H → t D σ H) : PS X st t' := ⟨fun pins s σ H D I hw => h.run pins s σ H D I (i D σ H hw)⟩
theorem pss_imp {st : List Stmt} {t t' : TS} (h : PSs X st t) (i : ∀ D σ H, t' D σ H → t D σ H) : PSs X st t' := ⟨fun pins s σ H D I hw => h.run pins s σ H D I (i D σ H hw)⟩
theorem pg_imp {tg : Expr} {t t' : TG} (h : PG X tg t) (i : ∀ v σ H Q, t' v σ H Q → t v σ H Q) : PG X tg t' := ⟨fun pins s σ H v u Q I r hw => h.run pins s σ H v u Q I r (i v σ H Q hw)⟩
theorem pi_imp {tg it : Expr} {t t' : TI} (h : PI X tg it t) (i : ∀ σ H Q, t' σ H Q → t σ H Q) : PI X tg it t' := ⟨fun pins s σ H Q I hw => h.run pins s σ H Q I (i σ H Q hw)⟩

variable {cA : Nat → Addr} {W : WX}
def eVar (i : Nat) : M D := fun env S => match env[i]? with
  | some (some d) => .ok d S
  | _ => .bad
def eC (d : D) : M D := fun _ S => .ok d S
theorem je_var (i : Nat) {x : Str} (hN : X.N[i]? = some x := by rfl) (hv : Vis X.env.scope x := by first | exact Or.inl rfl | exact Or.inr (Or.inl rfl) | exact Or.inr (Or.inr rfl)) (hd : (x == ("__debug__" : Str)) = false := by decide)
    (hcd : (x == ("__classdict__" : Str)) = false := by decide) : PE X (.Name x pos) (tE X.K cA W (eVar i)) := by
  refine pe_imp (pe_var hN hv hd hcd) ?_
  rintro σ H Q ⟨G, ρ, env, S, hE, hS, h⟩
  unfold eVar at h
  split at h
  · rename_i d e
    obtain ⟨v, h1, h2⟩ := hE.get i d e
    exact ⟨v, h1, h.now hS h2⟩
  · exact h.elim
theorem je_int {i : Int} {j} : PE X (.Constant (.int i) j pos) (tE X.K cA W (eC (.int i))) := pe_imp pe_int fun _ _ _ ⟨_, _, _, _, _, hS, h⟩ => h.now hS rfl
theorem je_bl {i : Bool} {j} : PE X (.Constant (.bool i) j pos) (tE X.K cA W (eC (.bl i))) := pe_imp pe_bl fun _ _ _ ⟨_, _, _, _, _, hS, h⟩ => h.now hS rfl
theorem je_non {j} : PE X (.Constant .none j pos) (tE X.K cA W (eC .non)) := pe_imp pe_non fun _ _ _ ⟨_, _, _, _, _, hS, h⟩ => h.now hS rfl
theorem je_str {x : Str} {j} : PE X (.Constant (.str x) j pos) (tE X.K cA W (eC (.str x))) := pe_imp pe_str fun _ _ _ ⟨_, _, _, _, _, hS, h⟩ => h.now hS rfl
theorem je_gint {x : Str} {i : Int} {t : Tok} (hg : Gl X x) (hm : X.mg x = some (.int i t)) (hd : (x == ("__debug__" : Str)) = false := by decide) : PE X (.Name x pos) (tE X.K cA W (eC (.int i))) :=
  pe_imp (pe_glob (v := .int i) hg hm ⟨_, rfl⟩ hd) fun _ _ _ ⟨_, _, _, _, _, hS, h⟩ => h.now hS rfl
theorem je_ty {x : Str} {T : String} (hg : Gl X x) (hm : X.mg x = none) (hv : bootBuiltins x = some (.type T)) (hn : x ≠ "__name__" := by decide) (hd : (x == ("__debug__" : Str)) = false := by decide) : PE X (.Name x pos) (tE X.K cA W (eC (.ty T))) :=
  pe_imp (pe_bltn (v := .ty T) hg hm hv rfl hn hd) fun _ _ _ ⟨_, _, _, _, _, hS, h⟩ => h.now hS rfl

def OpD (K : PySem.W.Frag) (r : R2) (f : D → D → Store → Res D) : Prop :=
  ∀ G ρ H S d1 d2 v1 v2 E Q, RelS K G ρ S H → Rep K G ρ H d1 v1 → Rep K G ρ H d2 v2 → Ok K G (Rep K G) ρ H (f d1 d2 S) E Q → r v1 v2 H Q
def e2 (f : D → D → Store → Res D) (ma mb : M D) : M D := fun env S => (ma env S).bind fun x S1 => (mb env S1).bind fun y S2 => f x y S2
theorem op_read {r : R2} {f : D → D → Store → Res D} (hd : OpD X.K r f) {ma mb : M D} : ∀ σ H Q, tE X.K cA W (e2 f ma mb) σ H Q → tOp r (tE X.K cA W ma) (tE X.K cA W mb) σ H Q := by
  rintro σ H Q ⟨G, ρ, env, S, hE, hS, h⟩
  refine ⟨G, ρ, env, S, hE, hS, Ok.bind h fun x S1 v ρ1 H1 r1 x1 k1 h1 => ?_⟩
  refine ⟨G, ρ1, env, S1, hE.keep k1, r1, Ok.bind h1 fun y S2 u ρ2 H2 r2 x2 k2 h2 => ?_⟩
  exact hd G ρ2 H2 S2 x y v u _ Q r2 (Rep.keep k2 x v x1) x2 h2
theorem je_op {op : Operator} {r : R2} {f : D → D → Store → Res D} {ma mb : M D} (ho : OpR X (binaryOp op) r) (hd : OpD X.K r f) (ha : PE X a (tE X.K cA W ma)) (hb : PE X b (tE X.K cA W mb)) : PE X (.BinOp a op b pos) (tE X.K cA W (e2 f ma mb)) :=
  pe_imp (pe_op ho ha hb) (op_read hd)
theorem je_cmp {op : CmpOp} {r : R2} {f : D → D → Store → Res D} {ma mb : M D} (ho : OpR X (compareOp op) r) (hd : OpD X.K r f) (ha : PE X a (tE X.K cA W ma)) (hb : PE X b (tE X.K cA W mb)) (hm : behindInMarks op b = false) : PE X (.Compare a [op] [b] pos) (tE X.K cA W (e2 f ma mb)) :=
  pe_imp (pe_cmpR ho ha hb hm) (op_read hd)
def tst (m : M D) : M Bool := fun env S => (m env S).bind fun d S1 => match d with
  | .bl b => .ok b S1
  | _ => .bad
theorem test_read {m : M D} : ∀ σ H Q, tT X.K cA W (tst m) σ H Q → (tTest (tE X.K cA W m)) σ H Q := by
  rintro σ H Q ⟨G, ρ, env, S, hE, hS, h⟩
  refine ⟨G, ρ, env, S, hE, hS, Ok.bind h fun x S1 v ρ1 H1 r1 x1 k1 h1 => ?_⟩
  cases x with
  | bl b =>
    rw [show v = .bl b from x1]
    exact ⟨b, rfl, h1.now r1 rfl⟩
  | _ => exact h1.elim
theorem jt_cmp {op : CmpOp} {r : R2} {f : D → D → Store → Res D} {ma mb : M D} (ho : OpR X (compareOp op) r) (hd : OpD X.K r f) (ha : PE X a (tE X.K cA W ma)) (hb : PE X b (tE X.K cA W mb)) (hm : behindInMarks op b = false) : PT X (.Compare a [op] [b] pos) (tT X.K cA W (tst (e2 f ma mb))) := by
  refine pt_imp (pt_cmpR ho ha hb hm) fun σ H Q h => ?_
  obtain ⟨G, ρ, env, S, hE, hS, h⟩ := h
  have := test_read (X := X) (cA := cA) (W := W) σ H Q ⟨G, ρ, env, S, hE, hS, h⟩
  exact op_read hd _ _ _ this
theorem jt_val {m : M D} (h : PE X e (tE X.K cA W m)) (he : ∀ whole, isTrue e X.env whole = (do let v ← whole; standAt e.pos; holding [v] (truthy v)) := by intro _; rfl) : PT X e (tT X.K cA W (tst m)) :=
  pt_imp (pt_val h he) test_read
def tAnd' (ma mb : M Bool) : M Bool := fun env S => (ma env S).bind fun x S1 => if x = true then mb env S1 else .ok false S1
def tOr' (ma mb : M Bool) : M Bool := fun env S => (ma env S).bind fun x S1 => if x = true then .ok true S1 else mb env S1
def tNot' (ma : M Bool) : M Bool := fun env S => (ma env S).bind fun x S1 => .ok (!x) S1
theorem jw_and1 {m : M Bool} (ha : PT X a (tT X.K cA W m)) : PW X (.BoolOp .And [a] pos) (tT X.K cA W m) := pw_and1 ha
theorem jw_or1 {m : M Bool} (ha : PT X a (tT X.K cA W m)) : PW X (.BoolOp .Or [a] pos) (tT X.K cA W m) := pw_or1 ha
theorem jw_and {m n : M Bool} {rest : List Expr} (ha : PT X a (tT X.K cA W m)) (hb : PW X (.BoolOp .And (b :: rest) pos) (tT X.K cA W n)) : PW X (.BoolOp .And (a :: b :: rest) pos) (tT X.K cA W (tAnd' m n)) := by
  refine pw_imp (pw_and ha hb) ?_
  rintro σ H Q ⟨G, ρ, env, S, hE, hS, h⟩
  refine ⟨G, ρ, env, S, hE, hS, Ok.bind h fun x S1 v ρ1 H1 r1 x1 k1 h1 => ?_⟩
  cases (show v = x from x1)
  cases x with
  | true => exact iteT ⟨G, ρ1, env, S1, hE.keep k1, r1, h1⟩
  | false => exact iteF (h1.now r1 rfl)
theorem jw_or {m n : M Bool} {rest : List Expr} (ha : PT X a (tT X.K cA W m)) (hb : PW X (.BoolOp .Or (b :: rest) pos) (tT X.K cA W n)) : PW X (.BoolOp .Or (a :: b :: rest) pos) (tT X.K cA W (tOr' m n)) := by
  refine pw_imp (pw_or ha hb) ?_
  rintro σ H Q ⟨G, ρ, env, S, hE, hS, h⟩
  refine ⟨G, ρ, env, S, hE, hS, Ok.bind h fun x S1 v ρ1 H1 r1 x1 k1 h1 => ?_⟩
  cases (show v = x from x1)
  cases x with
  | true => exact iteT (h1.now r1 rfl)
  | false => exact iteF ⟨G, ρ1, env, S1, hE.keep k1, r1, h1⟩
theorem jt_not {m : M Bool} (ha : PT X a (tT X.K cA W m)) : PT X (.UnaryOp .Not a pos) (tT X.K cA W (tNot' m)) := by
  refine pt_imp (pt_not ha) ?_
  rintro σ H Q ⟨G, ρ, env, S, hE, hS, h⟩
  refine ⟨G, ρ, env, S, hE, hS, Ok.bind h fun x S1 v ρ1 H1 r1 x1 k1 h1 => ?_⟩
  cases (show v = x from x1)
  exact h1.now r1 rfl
def eAnd (ma mb : M D) : M D := fun env S => (ma env S).bind fun x S1 => match x with
  | .bl true => mb env S1
  | .bl false => .ok (.bl false) S1
  | _ => .bad
def eNot (ma : M D) : M D := fun env S => (ma env S).bind fun x S1 => match x with
  | .bl b => .ok (.bl (!b)) S1
  | _ => .bad
theorem je_one {op} {m : M D} (h : PE X a (tE X.K cA W m)) : PE X (.BoolOp op [a] pos) (tE X.K cA W m) := pe_one h
theorem je_and {m n : M D} {rest : List Expr} (ha : PE X a (tE X.K cA W m)) (hb : PE X (.BoolOp .And (b :: rest) pos) (tE X.K cA W n)) : PE X (.BoolOp .And (a :: b :: rest) pos) (tE X.K cA W (eAnd m n)) := by
  refine pe_imp (pe_and ha hb) ?_
  rintro σ H Q ⟨G, ρ, env, S, hE, hS, h⟩
  refine ⟨G, ρ, env, S, hE, hS, Ok.bind h fun x S1 v ρ1 H1 r1 x1 k1 h1 => ?_⟩
  cases x with
  | bl k =>
    cases (show v = .bl k from x1)
    cases k with
    | true => exact ⟨true, rfl, iteT ⟨G, ρ1, env, S1, hE.keep k1, r1, h1⟩⟩
    | false => exact ⟨false, rfl, iteF (h1.now r1 rfl)⟩
  | _ => exact h1.elim
theorem je_not {m : M D} (ha : PE X a (tE X.K cA W m)) : PE X (.UnaryOp .Not a pos) (tE X.K cA W (eNot m)) := by
  refine pe_imp (pe_not ha) ?_
  rintro σ H Q ⟨G, ρ, env, S, hE, hS, h⟩
  refine ⟨G, ρ, env, S, hE, hS, Ok.bind h fun x S1 v ρ1 H1 r1 x1 k1 h1 => ?_⟩
  cases x with
  | bl k =>
    cases (show v = .bl k from x1)
    exact ⟨k, rfl, h1.now r1 rfl⟩
  | _ => exact h1.elim
def UnD (K : PySem.W.Frag) (r : V → Hp → VK → Prop) (f : D → Store → Res D) : Prop :=
  ∀ G ρ H S d v E Q, RelS K G ρ S H → Rep K G ρ H d v → Ok K G (Rep K G) ρ H (f d S) E Q → r v H Q
def e1 (f : D → Store → Res D) (ma : M D) : M D := fun env S => (ma env S).bind fun x S1 => f x S1
theorem je_un {op : UnaryOp} {r : V → Hp → VK → Prop} {f : D → Store → Res D} {ma : M D} (ho : UnR X (unaryOp op) r) (hd : UnD X.K r f) (ha : PE X a (tE X.K cA W ma)) : PE X (.UnaryOp op a pos) (tE X.K cA W (e1 f ma)) := by
  refine pe_imp (pe_un ho ha) ?_
  rintro σ H Q ⟨G, ρ, env, S, hE, hS, h⟩
  refine ⟨G, ρ, env, S, hE, hS, Ok.bind h fun x S1 v ρ1 H1 r1 x1 k1 h1 => ?_⟩
  exact hd G ρ1 H1 S1 x v _ Q r1 x1 h1
def aNil : M (List D) := fun _ S => .ok [] S
def aCons (m : M D) (r : M (List D)) : M (List D) := fun env S => (m env S).bind fun x S1 => (r env S1).bind fun xs S2 => .ok (x :: xs) S2
theorem ja_nil : PA X [] (tAr X.K cA W aNil) := pa_imp pa_nil fun _ _ _ ⟨_, _, _, _, _, hS, h⟩ => h.now hS (show RepL _ _ _ _ [] [] from rfl)
theorem ja_cons {es : List Expr} {m : M D} {r : M (List D)} (ha : PE X e (tE X.K cA W m)) (hr : PA X es (tAr X.K cA W r)) (hs : starEach (e :: es) X.env = (false, eval e X.env) :: starEach es X.env := by rfl) : PA X (e :: es) (tAr X.K cA W (aCons m r)) := by
  refine pa_imp (pa_cons ha hr hs) ?_
  rintro σ H Q ⟨G, ρ, env, S, hE, hS, h⟩
  refine ⟨G, ρ, env, S, hE, hS, Ok.bind h fun x S1 v ρ1 H1 r1 x1 k1 h1 => ?_⟩
  refine ⟨G, ρ1, env, S1, hE.keep k1, r1, Ok.bind h1 fun xs S2 vs ρ2 H2 r2 x2 k2 h2 => ?_⟩
  exact h2.now r2 ⟨v, vs, rfl, Rep.keep k2 x v x1, x2⟩
def CallD (K : PySem.W.Frag) (r : List V → Hp → VK → Prop) (f : List D → Store → Res D) : Prop :=
  ∀ G ρ H S ds vs E Q, RelS K G ρ S H → RepL K G ρ H ds vs → Ok K G (Rep K G) ρ H (f ds S) E Q → r vs H Q
def CallF (K : PySem.W.Frag) (r : List V → Hp → VK → Prop) (f : List D → Store → Res (List D)) : Prop :=
  ∀ G ρ H S ds vs E Q, RelS K G ρ S H → RepL K G ρ H ds vs → OkF K G ρ H (f ds S) E Q → r vs H Q
def eB {α : Type} (f : List D → Store → Res α) (ma : M (List D)) : M α := fun env S => (ma env S).bind fun xs S1 => f xs S1
variable {es : List Expr} {x : Str} {p : Pos} {r : List V → Hp → VK → Prop}
theorem call_read {f : List D → Store → Res D} {ma : M (List D)} (hd : CallD X.K r f) : ∀ σ H Q, tE X.K cA W (eB f ma) σ H Q → tCB r (tAr X.K cA W ma) σ H Q := by
  rintro σ H Q ⟨G, ρ, env, S, hE, hS, h⟩
  refine ⟨G, ρ, env, S, hE, hS, Ok.bind h fun x S1 v ρ1 H1 r1 x1 k1 h1 => ?_⟩
  exact hd G ρ1 H1 S1 x v _ Q r1 x1 h1
theorem callF_read {f : List D → Store → Res (List D)} {ma : M (List D)} (hd : CallF X.K r f) : ∀ σ H Q, tFr X.K cA W (eB f ma) σ H Q → tCB r (tAr X.K cA W ma) σ H Q := by
  rintro σ H Q ⟨G, ρ, env, S, hE, hS, h⟩
  refine ⟨G, ρ, env, S, hE, hS, OkF.bind h fun x S1 v ρ1 H1 r1 x1 k1 h1 => ?_⟩
  exact hd G ρ1 H1 S1 x v _ Q r1 x1 h1
theorem je_B {id : String} {f : List D → Store → Res D} {ma : M (List D)} (hc : CallR X (.builtin id) r) (hd : CallD X.K r f) (hg : Gl X x) (hm : X.mg x = none) (hv : bootBuiltins x = some (.builtin id)) (ha : PA X (e :: es) (tAr X.K cA W ma)) (hn : x ≠ "__name__" := by decide) (hdb : (x == ("__debug__" : Str)) = false := by decide)
    (he : starEach (e :: es) X.env = (false, eval e X.env) :: starEach es X.env := by rfl) (hpl : (backTo pos (starEach es X.env)).any (·.1) = false := by rfl) : PE X (.Call (.Name x p) (e :: es) [] pos) (tE X.K cA W (eB f ma)) :=
  pe_imp (pe_callB hc hg hm hv ha hn hdb he hpl) (call_read hd)
theorem je_Ty {T : String} {f : List D → Store → Res D} {ma : M (List D)} (hc : CallR X (.type T) r) (hd : CallD X.K r f) (hg : Gl X x) (hm : X.mg x = none) (hv : bootBuiltins x = some (.type T)) (ha : PA X (e :: es) (tAr X.K cA W ma)) (hn : x ≠ "__name__" := by decide) (hdb : (x == ("__debug__" : Str)) = false := by decide)
    (he : starEach (e :: es) X.env = (false, eval e X.env) :: starEach es X.env := by rfl) (hpl : (backTo pos (starEach es X.env)).any (·.1) = false := by rfl) : PE X (.Call (.Name x p) (e :: es) [] pos) (tE X.K cA W (eB f ma)) :=
  pe_imp (pe_callTy hc hg hm hv ha hn hdb he hpl) (call_read hd)
theorem jf_B {id : String} {f : List D → Store → Res (List D)} {ma : M (List D)} (hc : CallR X (.builtin id) r) (hd : CallF X.K r f) (hg : Gl X x) (hm : X.mg x = none) (hv : bootBuiltins x = some (.builtin id)) (ha : PA X (e :: es) (tAr X.K cA W ma)) (hn : x ≠ "__name__" := by decide) (hdb : (x == ("__debug__" : Str)) = false := by decide)
    (he : starEach (e :: es) X.env = (false, eval e X.env) :: starEach es X.env := by rfl) (hpl : (backTo pos (starEach es X.env)).any (·.1) = false := by rfl) : PE X (.Call (.Name x p) (e :: es) [] pos) (tFr X.K cA W (eB f ma)) :=
  pe_imp (pe_callB hc hg hm hv ha hn hdb he hpl) (callF_read hd)
def fz (m : M (List D)) : M D := fun env S => (m env S).bind fun ds S1 => .ok (.lst ds) S1
def cel (m : M (List D)) : M D := fun env S => (m env S).bind fun ds S1 => .ok (.cell S1.length) (S1 ++ [.lst ds])
theorem fz_read {m : M (List D)} : ∀ σ H Q, tE X.K cA W (fz m) σ H Q → tFr X.K cA W m σ H Q := by
  rintro σ H Q ⟨G, ρ, env, S, hE, hS, h⟩
  refine ⟨G, ρ, env, S, hE, hS, ?_⟩
  unfold fz at h
  revert h
  cases m env S with
  | ok ds S1 =>
    intro h a vs ρ' H' r x k hn
    exact h _ ρ' _ (r.new hn) ⟨a, vs, rfl, ⟨r.fresh hn, r.ngn hn, upd_same⟩, RepL.keep (Keep.new hn r.gt) ds vs x⟩ (k.trans (Keep.new hn r.gt))
  | err c S1 => exact fun h => h
  | bad => exact fun h => h
theorem cel_read {m : M (List D)} : ∀ σ H Q, tE X.K cA W (cel m) σ H Q → tFr X.K cA W m σ H Q := by
  rintro σ H Q ⟨G, ρ, env, S, hE, hS, h⟩
  refine ⟨G, ρ, env, S, hE, hS, ?_⟩
  unfold cel at h
  revert h
  cases m env S with
  | ok ds S1 =>
    intro h a vs ρ' H' r x k hn
    have k2 : Keep G ρ' H' (ρ' ++ [a]) (upd H' a (.lst vs)) := Keep.cell hn r.gt
    refine h _ (ρ' ++ [a]) _ (r.alloc hn ⟨vs, upd_same, RepL.keep k2 ds vs x⟩) ⟨a, rfl, ?_⟩ (k.trans k2)
    rw [← r.len, List.getElem?_append_right (Nat.le_refl _)]
    simp
  | err c S1 => exact fun h => h
  | bad => exact fun h => h
theorem je_fz {m : M (List D)} (h : PE X e (tFr X.K cA W m)) : PE X e (tE X.K cA W (fz m)) := pe_imp h fz_read
theorem je_cel {m : M (List D)} (h : PE X e (tFr X.K cA W m)) : PE X e (tE X.K cA W (cel m)) := pe_imp h cel_read
def big : Nat := 1000000
theorem big_line {n : Nat} (h : n ≤ big) : n ≤ sizeLine := Nat.le_trans h (by decide)
theorem big_lt {n : Nat} (h : n < big) : n < sizeLine := Nat.lt_of_lt_of_le h (by decide)
def eTup (ma : M (List D)) : M D := fun env S => (ma env S).bind fun ds S1 => if ds.length ≤ big then .ok (.tup ds) S1 else .bad
def fLst (ma : M (List D)) : M (List D) := fun env S => (ma env S).bind fun ds S1 => if ds.length ≤ big then .ok ds S1 else .bad
def tTupZ (t : TA) : TE := fun σ H Q => t σ H fun xs H1 => xs.length ≤ sizeLine ∧ ∀ p (o : Obj), H1 p = none → o.dict = none → Q (.ref p) (upd H1 p (.frz o (.tup xs)))
theorem pe_tupZ {x1} {t : TA} (h : PA X es t) : PE X (.Tuple es x1 pos) (tTupZ t) := by
  refine ⟨fun pins s σ H Q I hq => ?_⟩
  refine wpAny_Tuple_spliced (thn (h.run pos pins s σ H _ I hq) fun us s1 ⟨xs, H1, I1, r, z, q⟩ => ⟨by rw [← r.length]; exact z, ?_⟩)
  have hf : H1 s1.heap.objs.size = none := I1.hok.fresh (Nat.le_refl _)
  refine ⟨.ref s1.heap.objs.size, upd H1 s1.heap.objs.size (.frz { cls := .type "tuple", data := .seq us.toArray } (.tup xs)), I1.laid (t' := s1.toks) (fun b u e => Heap.get?_push_of_some _ e) (Nat.le_refl _) ?_, rfl, q _ _ hf rfl⟩
  exact ⟨Heap.get?_push_size _ rfl, z, us, r, ⟨_, Heap.get?_push_size _ rfl, rfl, _, rfl⟩⟩
theorem je_tup {x1} {ma : M (List D)} (ha : PA X es (tAr X.K cA W ma)) : PE X (.Tuple es x1 pos) (tE X.K cA W (eTup ma)) := by
  refine pe_imp (pe_tupZ ha) ?_
  rintro σ H Q ⟨G, ρ, env, S, hE, hS, h⟩
  refine ⟨G, ρ, env, S, hE, hS, Ok.bind h fun ds S1 vs ρ1 H1 r1 x1 k1 h1 => ?_⟩
  by_cases hl : ds.length ≤ big
  · rw [if_pos hl] at h1
    refine ⟨by rw [x1.length]; exact big_line hl, fun p o hp ho => ?_⟩
    have k2 : Keep G ρ1 H1 ρ1 (upd H1 p (.frz o (.tup vs))) := Keep.new hp r1.gt
    exact h1 _ ρ1 _ (r1.new hp ho) ⟨p, vs, rfl, .inr ⟨o, upd_same⟩, RepL.keep k2 ds vs x1⟩ k2
  · rw [if_neg hl] at h1
    exact h1.elim
theorem jf_lst {ma : M (List D)} (ha : PA X es (tAr X.K cA W ma)) : PE X (.List es pos) (tFr X.K cA W (fLst ma)) := by
  refine pe_imp (pe_lst ha) ?_
  rintro σ H Q ⟨G, ρ, env, S, hE, hS, h⟩
  refine ⟨G, ρ, env, S, hE, hS, OkF.bind h fun ds S1 vs ρ1 H1 r1 x1 k1 h1 => ?_⟩
  by_cases hl : ds.length ≤ big
  · rw [if_pos hl] at h1
    exact ⟨by rw [x1.length]; exact big_line hl, fun p hp => h1 p vs ρ1 H1 r1 x1 Keep.refl hp⟩
  · rw [if_neg hl] at h1
    exact h1.elim
end
end Rf

namespace Rf
open PySem PySem.Spec PyProof.Rows L2

def OkS (K : PySem.W.Frag) (cA : Nat → Addr) (W : WX) (G : Addr → Prop) (ρ : List Addr) (H : Hp) (D : Ends) : RS → Prop
  | .next e S' => ∀ σ' ρ' H', RelE K G ρ' H' e σ' → RelS K G ρ' S' H' → Keep G ρ H ρ' H' → D.nx σ' H'
  | .ret d S' => ∀ v ρ' H', RelS K G ρ' S' H' → Rep K G ρ' H' d v → Keep G ρ H ρ' H' → D.rt v H'
  | .brk e S' => ∀ σ' ρ' H', RelE K G ρ' H' e σ' → RelS K G ρ' S' H' → Keep G ρ H ρ' H' → D.bk σ' H'
  | .cont e S' => ∀ σ' ρ' H', RelE K G ρ' H' e σ' → RelS K G ρ' S' H' → Keep G ρ H ρ' H' → D.ct σ' H'
  | .err c e S' => ∀ σ' ρ' H', RelE K G ρ' H' e σ' → RelS K G ρ' S' H' → Keep G ρ H ρ' H' → W (.ref (cA c)) none σ' H'
  | .bad => False
def tS (K : PySem.W.Frag) (cA : Nat → Addr) (W : WX) (m : MS) : TS := fun D σ H => ∃ G ρ env S, RelE K G ρ H env σ ∧ RelS K G ρ S H ∧ OkS K cA W G ρ H D (m env S)
theorem OkS.keep {K : PySem.W.Frag} {cA : Nat → Addr} {W : WX} {G : Addr → Prop} {ρ ρ' : List Addr} {H H' : Hp} {D : Ends} {r : RS} (k : Keep G ρ H ρ' H') (h : OkS K cA W G ρ H D r) : OkS K cA W G ρ' H' D r := by
  cases r with
  | next e S => exact fun σ2 ρ2 H2 r1 r2 k2 => h σ2 ρ2 H2 r1 r2 (k.trans k2)
  | ret d S => exact fun v ρ2 H2 r1 r2 k2 => h v ρ2 H2 r1 r2 (k.trans k2)
  | brk e S => exact fun σ2 ρ2 H2 r1 r2 k2 => h σ2 ρ2 H2 r1 r2 (k.trans k2)
  | cont e S => exact fun σ2 ρ2 H2 r1 r2 k2 => h σ2 ρ2 H2 r1 r2 (k.trans k2)
  | err c e S => exact fun σ2 ρ2 H2 r1 r2 k2 => h σ2 ρ2 H2 r1 r2 (k.trans k2)
  | bad => exact h

def Res.then {α : Type} (r : Res α) (env : En) (f : α → Store → RS) : RS :=
  match r with
  | .ok a S => f a S
  | .err c S => .err c env S
  | .bad => .bad
@[simp] theorem then_ok {α : Type} (a : α) (S : Store) (env : En) (f : α → Store → RS) : (Res.ok a S).then env f = f a S := rfl
@[simp] theorem then_err {α : Type} (c : Nat) (S : Store) (env : En) (f : α → Store → RS) : (Res.err c S : Res α).then env f = .err c env S := rfl
@[simp] theorem then_bad {α : Type} (env : En) (f : α → Store → RS) : (Res.bad : Res α).then env f = .bad := rfl
section
variable {K : PySem.W.Frag} {G : Addr → Prop} {ρ ρ' : List Addr} {H H' : Hp} {cA : Nat → Addr} {W : WX}
theorem OkS.thn {α β : Type} {rel : List Addr → Hp → α → β → Prop} {r : Res α} {env : En} {σ : L2.St} {f : α → Store → RS} {D : Ends} {Q : β → Hp → Prop} (hE : RelE K G ρ H env σ)
    (h : OkS K cA W G ρ H D (r.then env f)) (n : ∀ a S' b ρ' H', RelS K G ρ' S' H' → rel ρ' H' a b → Keep G ρ H ρ' H' → OkS K cA W G ρ' H' D (f a S') → Q b H') : Ok K G rel ρ H r (WE' cA W σ) Q := by
  cases r with
  | ok a S => exact fun b ρ2 H2 r1 r2 k2 => n a S b ρ2 H2 r1 r2 k2 (h.keep k2)
  | err c S => exact fun ρ2 H2 r1 k2 => h σ ρ2 H2 (hE.keep k2) r1 k2
  | bad => exact h
end

section
variable {X : Cx} {st : Stmt} {rest : List Stmt} {e c : Expr} {pos : Pos} {cA : Nat → Addr} {W : WX}
def sNil : MS := fun env S => .next env S
def sSeq (m n : MS) : MS := fun env S => match m env S with
  | .next e S' => n e S'
  | r => r
theorem js_nil : PSs X [] (tS X.K cA W sNil) := pss_imp pss_nil fun D σ H ⟨G, ρ, env, S, hE, hS, h⟩ => h σ ρ H hE hS Keep.refl
theorem js_cons {m n : MS} (h1 : PS X st (tS X.K cA W m)) (h2 : PSs X rest (tS X.K cA W n)) : PSs X (st :: rest) (tS X.K cA W (sSeq m n)) := by
  refine pss_imp (pss_cons h1 h2) ?_
  rintro D σ H ⟨G, ρ, env, S, hE, hS, h⟩
  refine ⟨G, ρ, env, S, hE, hS, ?_⟩
  unfold sSeq at h
  revert h
  cases m env S with
  | next e S1 => exact fun h σ1 ρ1 H1 r1 r2 k => ⟨G, ρ1, e, S1, r1, r2, h.keep k⟩
  | ret d S1 => exact fun h => h
  | brk e S1 => exact fun h => h
  | cont e S1 => exact fun h => h
  | err c e S1 => exact fun h => h
  | bad => exact fun h => h
theorem js_one {m : MS} (h1 : PS X st (tS X.K cA W m)) : PSs X [st] (tS X.K cA W m) := pss_one h1
def sBad : MS := fun _ _ => .bad
def sCl (l : List Nat) (m : MS) : MS := fun env S => match m env S with
  | .next e S' => .next (clr e l) S'
  | r => r
theorem js_cl (l : List Nat) {m : MS} (h1 : PS X st (tS X.K cA W m)) : PS X st (tS X.K cA W (sCl l m)) := by
  refine ps_imp h1 ?_
  rintro D σ H ⟨G, ρ, env, S, hE, hS, h⟩
  refine ⟨G, ρ, env, S, hE, hS, ?_⟩
  unfold sCl at h
  revert h
  cases m env S with
  | next e S1 => exact fun h σ1 ρ1 H1 r1 r2 k => h σ1 ρ1 H1 (r1.clr l) r2 k
  | ret d S1 => exact fun h => h
  | brk e S1 => exact fun h => h
  | cont e S1 => exact fun h => h
  | err c e S1 => exact fun h => h
  | bad => exact fun h => h
def sExpr (m : M D) : MS := fun env S => (m env S).then env fun _ S1 => .next env S1
theorem js_expr {m : M D} (he : PE X e (tE X.K cA W m)) (hs : swapsWith e none pos.line X.env = pure false := by rfl) : PS X (.Expr e pos) (tS X.K cA W (sExpr m)) := by
  refine ps_imp (ps_expr he hs) ?_
  rintro D σ H ⟨G, ρ, env, S, hE, hS, h⟩
  exact ⟨G, ρ, env, S, hE, hS, OkS.thn hE h fun d S1 v ρ1 H1 r1 x1 k1 h1 => h1 σ ρ1 H1 (hE.keep k1) r1 Keep.refl⟩
def sRet (m : M D) : MS := fun env S => (m env S).then env fun d S1 => .ret d S1
theorem js_ret {m : M D} (he : PE X e (tE X.K cA W m)) : PS X (.Return (some e) pos) (tS X.K cA W (sRet m)) := by
  refine ps_imp (ps_ret he) ?_
  rintro D σ H ⟨G, ρ, env, S, hE, hS, h⟩
  exact ⟨G, ρ, env, S, hE, hS, OkS.thn hE h fun d S1 v ρ1 H1 r1 x1 k1 h1 => h1 v ρ1 H1 r1 x1 Keep.refl⟩
def sIf (c : M Bool) (m n : MS) : MS := fun env S => (c env S).then env fun b S1 => if b = true then m env S1 else n env S1
theorem js_if {mc : M Bool} {m n : MS} {a b : List Stmt} (hc : PT X c (tT X.K cA W mc)) (ha : PSs X a (tS X.K cA W m)) (hb : PSs X b (tS X.K cA W n)) : PS X (.If c a b pos) (tS X.K cA W (sIf mc m n)) := by
  refine ps_imp (ps_if hc ha hb) ?_
  rintro D σ H ⟨G, ρ, env, S, hE, hS, h⟩
  refine ⟨G, ρ, env, S, hE, hS, OkS.thn hE h fun x S1 v ρ1 H1 r1 x1 k1 h1 => ?_⟩
  cases (show v = x from x1)
  cases x with
  | true => exact iteT ⟨G, ρ1, env, S1, hE.keep k1, r1, h1⟩
  | false => exact iteF ⟨G, ρ1, env, S1, hE.keep k1, r1, h1⟩
abbrev Pat := D → En → Option En
def tG (K : PySem.W.Frag) (p : Pat) : TG := fun v σ H Q => ∃ G ρ env d, RelE K G ρ H env σ ∧ Rep K G ρ H d v ∧ match p d env with
  | some env' => ∀ σ', RelE K G ρ H env' σ' → Q σ' H
  | none => False
abbrev Pats := List D → En → Option En
def tGs (K : PySem.W.Frag) (p : Pats) : TGs := fun vs σ H Q => ∃ G ρ env ds, RelE K G ρ H env σ ∧ RepL K G ρ H ds vs ∧ match p ds env with
  | some env' => ∀ σ', RelE K G ρ H env' σ' → Q σ' H
  | none => False
def pName (i : Nat) : Pat := fun d env => some (env.set i (some d))
def pNil : Pats := fun ds env => match ds with
  | [] => some env
  | _ => none
def pCons (p : Pat) (q : Pats) : Pats := fun ds env => match ds with
  | d :: r => (p d env).bind fun e => q r e
  | [] => none
def pTup (n : Nat) (q : Pats) : Pat := fun d env => match d with
  | .tup ds => if ds.length = n then q ds env else none
  | _ => none
theorem jg_name (i : Nat) {x : Str} (hN : X.N.Nodup) (hi : X.N[i]? = some x := by rfl) (hx : Loc X.env.scope x := by first | exact Or.inl rfl | exact Or.inr rfl) (hf : X.fn x = true ∨ X.env.scope.names.lookup x = some .local := by first | exact .inl rfl | exact .inr rfl | assumption) : PG X (.Name x pos) (tG X.K (pName i)) :=
  pg_imp (pg_name hN hi hx hf) fun v σ H Q ⟨G, ρ, env, d, hE, hd, h⟩ => h _ (hE.set hd)
theorem pgs_imp {es : List Expr} {t t' : TGs} (h : PGs X es t) (i : ∀ v σ H Q, t' v σ H Q → t v σ H Q) : PGs X es t' := ⟨fun pins s σ H v u Q I r hw => h.run pins s σ H v u Q I r (i v σ H Q hw)⟩
theorem jgs_nil : PGs X [] (tGs X.K pNil) := pgs_imp pgs_nil fun vs σ H Q ⟨G, ρ, env, ds, hE, hd, h⟩ => by
  cases ds with
  | nil => exact ⟨hd, h σ hE⟩
  | cons d r => exact h.elim
theorem jgs_cons {tg : Expr} {es : List Expr} {p : Pat} {q : Pats} (h1 : PG X tg (tG X.K p)) (h2 : PGs X es (tGs X.K q))
    (hs : (assignEach (tg :: es) X.env).map (·.2) = assign tg X.env :: (assignEach es X.env).map (·.2) := by rfl) : PGs X (tg :: es) (tGs X.K (pCons p q)) := by
  refine pgs_imp (pgs_cons h1 h2 hs) ?_
  rintro vs σ H Q ⟨G, ρ, env, ds, hE, hd, h⟩
  cases ds with
  | nil => exact h.elim
  | cons d r =>
    obtain ⟨v, vs', rfl, x1, x2⟩ := hd
    refine ⟨v, vs', rfl, G, ρ, env, d, hE, x1, ?_⟩
    revert h
    show (match (p d env).bind fun e => q r e with | some env' => ∀ σ', RelE X.K G ρ H env' σ' → Q σ' H | none => False) → _
    cases p d env with
    | none => exact fun h => h
    | some e1 => exact fun h σ1 hE1 => ⟨G, ρ, e1, r, hE1, x2, h⟩
theorem jg_tup {es : List Expr} {k : Nat} {n : Nat} {q : Pats} (hc : X.calm = true) (h : PGs X es (tGs X.K q)) (hn : (assignEach es X.env).length = n := by rfl) (hst : (assignEach es X.env).findIdx? (·.1) = none := by rfl) : PG X (.Tuple es k pos) (tG X.K (pTup n q)) := by
  refine pg_imp (pg_tup hc h hn hst) ?_
  rintro v σ H Q ⟨G, ρ, env, d, hE, hd, h⟩
  cases d with
  | tup ds =>
    obtain ⟨a, vs, rfl, x1, x2⟩ := hd
    have h : (match (if ds.length = n then q ds env else none) with | some env' => ∀ σ', RelE X.K G ρ H env' σ' → Q σ' H | none => False) := h
    by_cases hl : ds.length = n
    · rw [if_pos hl] at h
      exact ⟨a, vs, rfl, .inl x1, by rw [x2.length]; exact hl, G, ρ, env, ds, hE, x2, h⟩
    · rw [if_neg hl] at h
      exact h.elim
  | _ => exact h.elim
def sAsg (m : M D) (p : Pat) : MS := fun env S => (m env S).then env fun d S1 => match p d env with
  | some e' => .next e' S1
  | none => .bad
theorem js_set (i : Nat) {x : Str} {m : M D} {pos' : Pos} (hN : X.N.Nodup) (he : PE X e (tE X.K cA W m)) (hi : X.N[i]? = some x := by rfl) (hx : Loc X.env.scope x := by first | exact Or.inl rfl | exact Or.inr rfl) (hs : swapsWith e (some (.Name x pos')) pos.line X.env = pure false := by rfl)
    (hf : X.fn x = true ∨ X.env.scope.names.lookup x = some .local := by first | exact .inl rfl | exact .inr rfl | assumption) : PS X (.Assign [.Name x pos'] e pos) (tS X.K cA W (sAsg m (pName i))) := by
  refine ps_imp (ps_set hN hi hx he hs hf) ?_
  intro D σ H h
  obtain ⟨G, ρ, env, S, hE, hS, h⟩ := h
  refine ⟨G, ρ, env, S, hE, hS, OkS.thn hE h fun d S1 v ρ1 H1 r1 x1 k1 h1 => ?_⟩
  exact h1 _ ρ1 H1 ((hE.keep k1).set x1) r1 Keep.refl
def sPar (i j : Nat) (ma : M (List D)) : MS := fun env S => (ma env S).then env fun ds S1 => match ds with
  | [d, d'] => .next ((env.set i (some d)).set j (some d')) S1
  | _ => .bad
def sSet (mv mo mi : M D) (f : D → D → D → Store → Option Store) : MS := fun env S => (mv env S).then env fun v S1 => (mo env S1).then env fun o S2 => (mi env S2).then env fun i S3 => match f o i v S3 with
  | some S4 => .next env S4
  | none => .bad
def SetD (K : PySem.W.Frag) (r : TSet) (f : D → D → D → Store → Option Store) : Prop :=
  ∀ G ρ H S do_ di dv o i v S', RelS K G ρ S H → Rep K G ρ H do_ o → Rep K G ρ H di i → Rep K G ρ H dv v → f do_ di dv S = some S' → ∀ Q : Hp → Prop, (∀ H', RelS K G ρ S' H' → Keep G ρ H ρ H' → Q H') → r o i v H Q
theorem js_sub {o i : Expr} {mv mo mi : M D} {r : TSet} {f : D → D → D → Store → Option Store} {pos' : Pos} (hv : PE X e (tE X.K cA W mv)) (ho : PE X o (tE X.K cA W mo)) (hi : PE X i (tE X.K cA W mi)) (hs : PSet X r) (hd : SetD X.K r f)
    (ha : ∀ v, assign (.Subscript o i pos') X.env v = (do
      let ov ← holding [v] (eval o X.env)
      let iv ← holding [v, ov] (eval i X.env)
      standAt pos'
      holding [v, ov, iv] (setItem ov iv v)
      release [v, ov, iv] []) := by intro _; rfl) (hsw : swapsWithSole [.Subscript o i pos'] e pos.line X.env = pure false := by rfl) (hw : swappedStores [.Subscript o i pos'] e X.env = pure none := by rfl)
    (h1 : (assignEach [.Subscript o i pos'] X.env).map (·.2) = [assign (.Subscript o i pos') X.env] := by rfl) : PS X (.Assign [.Subscript o i pos'] e pos) (tS X.K cA W (sSet mv mo mi f)) := by
  refine ps_imp (ps_asg hv (pg_sub ho hi hs ha) hsw hw h1) ?_
  rintro D σ H ⟨G, ρ, env, S, hE, hS, h⟩
  refine ⟨G, ρ, env, S, hE, hS, OkS.thn hE h fun dv S1 v ρ1 H1 r1 x1 k1 h1 => ?_⟩
  refine ⟨G, ρ1, env, S1, hE.keep k1, r1, OkS.thn (hE.keep k1) h1 fun d0 S2 o ρ2 H2 r2 x2 k2 h2 => ?_⟩
  refine ⟨G, ρ2, env, S2, (hE.keep k1).keep k2, r2, OkS.thn ((hE.keep k1).keep k2) h2 fun di S3 i ρ3 H3 r3 x3 k3 h3 => ?_⟩
  revert h3
  cases e4 : f d0 di dv S3 with
  | none => exact fun h => h.elim
  | some S4 =>
    intro h3
    exact hd G ρ3 H3 S3 d0 di dv o i v S4 r3 (Rep.keep k3 _ _ x2) x3 (Rep.keep (k2.trans k3) _ _ x1) e4 _ fun H4 r4 k4 => h3 σ ρ3 H4 (((hE.keep k1).keep k2).keep (k3.trans k4)) r4 k4
def sAug (i : Nat) (m : M D) (f : D → D → Store → Res D) : MS := fun env S => match env[i]? with
  | some (some d) => (m env S).then env fun y S1 => (f d y S1).then env fun z S2 => .next (env.set i (some z)) S2
  | _ => .bad
end
structure IT where
  ds : List D
  cells : List (Nat × List D)
def IT.chk (t : IT) (S : Store) : Prop := ∀ p ∈ t.cells, S[p.1]? = some (.lst p.2)
structure Keep2 (G : Addr → Prop) (ρ : List Addr) (H : Hp) (G' : Addr → Prop) (ρ' : List Addr) (H' : Hp) : Prop where
  pre : ∃ t, ρ' = ρ ++ t
  tup : ∀ a xs, Rd H a (.tup xs) → Rd H' a (.tup xs)
  lst : ∀ a xs, a ∉ ρ → ¬ G a → H a = some (.lst xs) → a ∉ ρ' ∧ ¬ G' a ∧ H' a = some (.lst xs)
  frz : ∀ a o u, H a = some (.frz o u) → H' a = some (.frz o u)
theorem Keep.two {G : Addr → Prop} {ρ ρ' : List Addr} {H H' : Hp} (k : Keep G ρ H ρ' H') : Keep2 G ρ H G ρ' H' := ⟨k.pre, k.tup, fun a xs h1 h2 h3 => let ⟨q1, q2⟩ := k.lst a xs h1 h2 h3; ⟨q1, h2, q2⟩, k.frz⟩
section
variable {K : PySem.W.Frag} {G G' : Addr → Prop} {ρ ρ' : List Addr} {H H' : Hp}
theorem Keep2.get (k : Keep2 G ρ H G' ρ' H') {n : Nat} {a : Addr} (h : ρ[n]? = some a) : ρ'[n]? = some a := by
  obtain ⟨t, rfl⟩ := k.pre
  have hn : n < ρ.length := (List.getElem?_eq_some_iff.mp h).1
  rw [List.getElem?_append_left hn]
  exact h
theorem Keep2.sqT (k : Keep2 G ρ H G' ρ' H') {a : Addr} {xs : List V} (h : SqT K H a xs) : SqT K H' a xs := by
  rcases h with h | h
  · exact .inl (k.tup a xs h)
  · exact .inr h
theorem Keep2.frL (k : Keep2 G ρ H G' ρ' H') {a : Addr} {xs : List V} (h : FrL G ρ H a xs) : FrL G' ρ' H' a xs :=
  k.lst a xs h.1 h.2.1 h.2.2
theorem Keep2.fzL (k : Keep2 G ρ H G' ρ' H') {a : Addr} {xs : List V} (h : FzL K H a xs) : FzL K H' a xs := by
  rcases h with ⟨o, h⟩ | h
  · exact .inl ⟨o, k.frz a o _ h⟩
  · exact .inr h
mutual
theorem Rep.keep2 (k : Keep2 G ρ H G' ρ' H') : ∀ (d : D) (v : V), Rep K G ρ H d v → Rep K G' ρ' H' d v
  | .non, _, h => h
  | .bl _, _, h => h
  | .int _, _, h => h
  | .str _, _, h => h
  | .ty _, _, h => h
  | .tup ds, v, h => by
    obtain ⟨a, vs, e, h1, h2⟩ := h
    exact ⟨a, vs, e, k.tup a vs h1, RepL.keep2 k ds vs h2⟩
  | .lst ds, v, h => by
    obtain ⟨a, vs, e, h1, h2⟩ := h
    exact ⟨a, vs, e, k.frL h1, RepL.keep2 k ds vs h2⟩
  | .fz ds, v, h => by
    obtain ⟨a, vs, e, h1, h2⟩ := h
    exact ⟨a, vs, e, k.fzL h1, RepL.keep2 k ds vs h2⟩
  | .cell n, v, h => by
    obtain ⟨a, e, h1⟩ := h
    exact ⟨a, e, k.get h1⟩
  | .exc _, _, h => ExV.keep k.frz h
  | .cl _, _, h => h
  | .dct _ ks ds, v, h => by
    obtain ⟨a, o, u, bs, vs, e, h1, h2, h3, h4⟩ := h
    exact ⟨a, o, u, bs, vs, e, k.frz a o u h1, h2, RepL.keep2 k ks bs h3, RepL.keep2 k ds vs h4⟩
theorem RepL.keep2 (k : Keep2 G ρ H G' ρ' H') : ∀ (ds : List D) (vs : List V), RepL K G ρ H ds vs → RepL K G' ρ' H' ds vs
  | [], _, h => h
  | d :: ds, vs, h => by
    obtain ⟨v, vs', e, h1, h2⟩ := h
    exact ⟨v, vs', e, Rep.keep2 k d v h1, RepL.keep2 k ds vs' h2⟩
end
theorem RepKV.keep2 (k : Keep2 G ρ H G' ρ' H') : ∀ (ds : List (D × D)) (vs : List DV), RepKV K G ρ H ds vs → RepKV K G' ρ' H' ds vs
  | [], _, h => h
  | (x, d) :: ds, vs, h => by
    obtain ⟨b, v, vs', e, h0, h3, h1, h2⟩ := h
    exact ⟨b, v, vs', e, h0, Rep.keep2 k x _ h3, Rep.keep2 k d v h1, RepKV.keep2 k ds vs' h2⟩
theorem RepF.keep2 (k : Keep2 G ρ H G' ρ' H') : ∀ (ds : List (Str × D)) (vs : List (Str × V)), RepF K G ρ H ds vs → RepF K G' ρ' H' ds vs
  | [], _, h => h
  | (x, d) :: ds, vs, h => by
    obtain ⟨v, vs', e, h1, h2⟩ := h
    exact ⟨v, vs', e, Rep.keep2 k d v h1, RepF.keep2 k ds vs' h2⟩
theorem RepKI.keep2 (k : Keep2 G ρ H G' ρ' H') : ∀ (ds : List (Int × D)) (vs : List (Key × V)), RepKI K G ρ H ds vs → RepKI K G' ρ' H' ds vs
  | [], _, h => h
  | (x, d) :: ds, vs, h => by
    obtain ⟨v, vs', e, h1, h2⟩ := h
    exact ⟨v, vs', e, Rep.keep2 k d v h1, RepKI.keep2 k ds vs' h2⟩
end
structure WD (K : PySem.W.Frag) (G : Addr → Prop) (ρ : List Addr) (H : Hp) (t : IT) (J : It) : Prop where
  go : ∀ G1 ρ1 S1 H1 i, Keep2 G ρ H G1 ρ1 H1 → RelS K G1 ρ1 S1 H1 → t.chk S1 → i < t.ds.length → J.go i H1
  stop : ∀ G1 ρ1 S1 H1, Keep2 G ρ H G1 ρ1 H1 → RelS K G1 ρ1 S1 H1 → t.chk S1 → J.stop t.ds.length H1
  yld : ∀ G1 ρ1 S1 H1 (i : Nat) d x H2, Keep2 G ρ H G1 ρ1 H1 → RelS K G1 ρ1 S1 H1 → t.chk S1 → t.ds[i]? = some d → J.yld i H1 x H2 → Rep K G1 ρ1 H2 d x ∧ Keep G1 ρ1 H1 ρ1 H2 ∧ RelS K G1 ρ1 S1 H2
def tI (K : PySem.W.Frag) (cA : Nat → Addr) (W : WX) (m : M IT) : TI := fun σ H R => ∃ G ρ env S, RelE K G ρ H env σ ∧ RelS K G ρ S H ∧ Ok K G (WD K G) ρ H (m env S) (WE' cA W σ) R
open Classical in
noncomputable def loopD (p : Pat) (body : MS) (dead : List Nat) (chk : Store → Prop) : List D → En → Store → RS
  | [], env, S => if chk S then .next env S else .bad
  | d :: ds, env, S => if chk S then (match p d env with
    | none => .bad
    | some e1 => match body e1 S with
      | .next e2 S2 => loopD p body dead chk ds (clr e2 dead) S2
      | .cont e2 S2 => loopD p body dead chk ds (clr e2 dead) S2
      | .brk e2 S2 => .next (clr e2 dead) S2
      | r => r) else .bad
noncomputable def sFor (m : M IT) (p : Pat) (body : MS) (dead : List Nat) : MS := fun env S => (m env S).then env fun t S1 => loopD p body dead t.chk t.ds (clr env dead) S1
section
variable {X : Cx} {e c tg : Expr} {pos : Pos} {cA : Nat → Addr} {W : WX}
theorem js_for {iter : Expr} {bd : List Stmt} {m : M IT} {p : Pat} {body : MS} (dead : List Nat) (hp : PassesOwn (model X.prog X.w) X.A X.env X.xe) (hc : X.calm = true) (hi : PI X tg iter (tI X.K cA W m)) (hg : PG X tg (tG X.K p)) (hb : PSs X bd (tS X.K cA W body))
    (hs : ∀ x, foldedSetIterable iter X.env x = pure x := by intro _; rfl) : PS X (.For tg iter bd [] pos) (tS X.K cA W (sFor m p body dead)) := by
  refine ps_imp (ps_for hp hc hi hg hb hs) ?_
  rintro D σ H ⟨G, ρ, env, S, hE, hS, h⟩
  refine ⟨G, ρ, env, S, hE, hS, OkS.thn hE h fun t S1 J ρ1 H1 r1 wd k1 h1 => ?_⟩
  let P : Nat → L2.St → Hp → Prop := fun i σ' H' => ∃ ρ' env' S', RelE X.K G ρ' H' env' σ' ∧ RelS X.K G ρ' S' H' ∧ Keep G ρ1 H1 ρ' H' ∧ OkS X.K cA W G ρ' H' D (loopD p body dead t.chk (t.ds.drop i) env' S')
  refine ⟨fun i m σ' H' => m = t.ds.length - i ∧ i ≤ t.ds.length ∧ P i σ' H', ⟨t.ds.length, rfl, Nat.zero_le _, ρ1, clr env dead, S1, (hE.keep k1).clr dead, r1, Keep.refl, h1⟩, ?_⟩
  rintro i m σ' H' ⟨rfl, hi, ρ2, env2, S2, e2, r2, k2, h2⟩
  by_cases hlt : i < t.ds.length
  · have hd : t.ds.drop i = t.ds[i] :: t.ds.drop (i + 1) := (List.getElem_cons_drop hlt).symm
    rw [hd] at h2
    unfold loopD at h2
    by_cases hch : t.chk S2
    · rw [if_pos hch] at h2
      refine .inr ⟨wd.go G ρ2 S2 H' i k2.two r2 hch hlt, P (i + 1), fun σ3 H3 q => ⟨t.ds.length - (i + 1), by omega, rfl, hlt, q⟩, fun x H3 hy => ?_⟩
      obtain ⟨x3, k3, r3⟩ := wd.yld G ρ2 S2 H' i t.ds[i] x H3 k2.two r2 hch (by rw [List.getElem?_eq_getElem hlt]) hy
      refine ⟨G, ρ2, env2, t.ds[i], e2.keep k3, x3, ?_⟩
      revert h2
      cases p t.ds[i] env2 with
      | none => exact fun h => h
      | some en1 =>
        intro h2 σ3 e3
        refine ⟨G, ρ2, en1, S2, e3, r3, ?_⟩
        have h2 := h2.keep k3
        revert h2
        show OkS X.K cA W G ρ2 H3 D (match body en1 S2 with | .next e2 S2 => _ | .cont e2 S2 => _ | .brk e2 S2 => _ | r => r) → _
        cases body en1 S2 with
        | next e4 S4 => exact fun h2 σ4 ρ4 H4 q1 q2 q3 => ⟨ρ4, _, S4, q1.clr dead, q2, (k2.trans k3).trans q3, h2.keep q3⟩
        | cont e4 S4 => exact fun h2 σ4 ρ4 H4 q1 q2 q3 => ⟨ρ4, _, S4, q1.clr dead, q2, (k2.trans k3).trans q3, h2.keep q3⟩
        | brk e4 S4 => exact fun h2 σ4 ρ4 H4 q1 q2 q3 => h2 σ4 ρ4 H4 (q1.clr dead) q2 q3
        | ret d S4 => exact fun h2 => h2
        | err c e4 S4 => exact fun h2 => h2
        | bad => exact fun h2 => h2
    · rw [if_neg hch] at h2
      exact h2.elim
  · have e : i = t.ds.length := by omega
    subst e
    rw [List.drop_length] at h2
    unfold loopD at h2
    by_cases hch : t.chk S2
    · rw [if_pos hch] at h2
      exact .inl ⟨wd.stop G ρ2 S2 H' k2.two r2 hch, h2 σ' ρ2 H' e2 r2 Keep.refl⟩
    · rw [if_neg hch] at h2
      exact h2.elim
def whileD (c : M Bool) (body : MS) (dead : List Nat) : Nat → En → Store → RS
  | 0, _, _ => .bad
  | n + 1, env, S => match c env S with
    | .ok true S1 => (match body env S1 with
      | .next e2 S2 => whileD c body dead n (clr e2 dead) S2
      | .cont e2 S2 => whileD c body dead n (clr e2 dead) S2
      | .brk e2 S2 => .next (clr e2 dead) S2
      | r => r)
    | .ok false S1 => .next env S1
    | .err k S1 => .err k env S1
    | .bad => .bad
def sWhile (fuel : Nat) (c : M Bool) (body : MS) (dead : List Nat) : MS := fun env S => whileD c body dead fuel (clr env dead) S
end
end Rf

namespace Rf
open PySem PySem.Spec PyProof.Rows L2

section
variable {K : PySem.W.Frag} {G : Addr → Prop} {ρ ρ' t : List Addr} {H H' : Hp} {S S' : Store}
mutual
theorem Rep.below : ∀ (d : D) (v : V), Rep K G ρ H d v → below ρ.length d
  | .non, _, _ => trivial
  | .bl _, _, _ => trivial
  | .int _, _, _ => trivial
  | .str _, _, _ => trivial
  | .ty _, _, _ => trivial
  | .exc _, _, _ => trivial
  | .cl _, _, _ => trivial
  | .dct _ ks ds, v, h => by
    obtain ⟨a, o, u, bs, vs, e, h1, h2, h3, h4⟩ := h
    exact ⟨RepL.below ks bs h3, RepL.below ds vs h4⟩
  | .tup ds, v, h => by
    obtain ⟨a, vs, e, h1, h2⟩ := h
    exact RepL.below ds vs h2
  | .lst ds, v, h => by
    obtain ⟨a, vs, e, h1, h2⟩ := h
    exact RepL.below ds vs h2
  | .fz ds, v, h => by
    obtain ⟨a, vs, e, h1, h2⟩ := h
    exact RepL.below ds vs h2
  | .cell n, v, h => by
    obtain ⟨a, e, h1⟩ := h
    exact (List.getElem?_eq_some_iff.mp h1).1
theorem RepL.below : ∀ (ds : List D) (vs : List V), RepL K G ρ H ds vs → belowL ρ.length ds
  | [], _, _ => trivial
  | d :: ds, vs, h => by
    obtain ⟨v, vs', e, h1, h2⟩ := h
    exact ⟨Rep.below d v h1, RepL.below ds vs' h2⟩
end
mutual
theorem pure_below (n : Nat) : ∀ d : D, pureD d = true → below n d
  | .non, _ => trivial
  | .bl _, _ => trivial
  | .int _, _ => trivial
  | .str _, _ => trivial
  | .ty _, _ => trivial
  | .exc _, _ => trivial
  | .cl _, _ => trivial
  | .dct _ ks ds, h => by
    have h : (pureL ks && pureL ds) = true := h
    rw [Bool.and_eq_true] at h
    exact ⟨pureL_below n ks h.1, pureL_below n ds h.2⟩
  | .tup ds, h => pureL_below n ds h
  | .lst ds, h => pureL_below n ds h
  | .fz ds, h => pureL_below n ds h
  | .cell k, h => by cases h
theorem pureL_below (n : Nat) : ∀ ds : List D, pureL ds = true → belowL n ds
  | [], _ => trivial
  | d :: ds, h => by
    have h : (pureD d && pureL ds) = true := h
    rw [Bool.and_eq_true] at h
    exact ⟨pure_below n d h.1, pureL_below n ds h.2⟩
end
mutual
theorem Rep.sub {n : Nat} {ρ1 ρ2 : List Addr} (hn : ∀ i, i < n → ρ2[i]? = ρ1[i]?) (hm : ∀ a ∈ ρ2, a ∈ ρ1) : ∀ (d : D) (v : V), below n d → Rep K G ρ1 H d v → Rep K G ρ2 H d v
  | .non, _, _, h => h
  | .bl _, _, _, h => h
  | .int _, _, _, h => h
  | .str _, _, _, h => h
  | .ty _, _, _, h => h
  | .exc _, _, _, h => h
  | .cl _, _, _, h => h
  | .dct _ ks ds, v, b, h => by
    obtain ⟨a, o, u, bs, vs, e, h1, h2, h3, h4⟩ := h
    exact ⟨a, o, u, bs, vs, e, h1, h2, RepL.sub hn hm ks bs b.1 h3, RepL.sub hn hm ds vs b.2 h4⟩
  | .tup ds, v, b, h => by
    obtain ⟨a, vs, e, h1, h2⟩ := h
    exact ⟨a, vs, e, h1, RepL.sub hn hm ds vs b h2⟩
  | .lst ds, v, b, h => by
    obtain ⟨a, vs, e, h1, h2⟩ := h
    exact ⟨a, vs, e, ⟨fun z => h1.1 (hm _ z), h1.2⟩, RepL.sub hn hm ds vs b h2⟩
  | .fz ds, v, b, h => by
    obtain ⟨a, vs, e, h1, h2⟩ := h
    exact ⟨a, vs, e, h1, RepL.sub hn hm ds vs b h2⟩
  | .cell k, v, b, h => by
    obtain ⟨a, e, h1⟩ := h
    exact ⟨a, e, by rw [hn k b]; exact h1⟩
theorem RepL.sub {n : Nat} {ρ1 ρ2 : List Addr} (hn : ∀ i, i < n → ρ2[i]? = ρ1[i]?) (hm : ∀ a ∈ ρ2, a ∈ ρ1) : ∀ (ds : List D) (vs : List V), belowL n ds → RepL K G ρ1 H ds vs → RepL K G ρ2 H ds vs
  | [], _, _, h => h
  | d :: ds, vs, b, h => by
    obtain ⟨v, vs', e, h1, h2⟩ := h
    exact ⟨v, vs', e, Rep.sub hn hm d v b.1 h1, RepL.sub hn hm ds vs' b.2 h2⟩
end
mutual
theorem tupI_pure : ∀ d : D, tupI d = true → pureD d = true
  | .int i, _ => by unfold pureD; rfl
  | .tup ds, h => by unfold tupI at h; unfold pureD; exact tupIL_pure ds h
  | .non, _ => rfl
  | .bl _, _ => rfl
  | .str _, _ => rfl
  | .ty _, _ => rfl
  | .lst _, h => by unfold tupI at h; cases h
  | .fz _, h => by unfold tupI at h; cases h
  | .cell _, h => by unfold tupI at h; cases h
  | .exc _, _ => rfl
  | .cl _, _ => rfl
  | .dct _ _ _, h => by unfold tupI at h; cases h
theorem tupIL_pure : ∀ ds : List D, tupIL ds = true → pureL ds = true
  | [], _ => rfl
  | d :: ds, h => by
    unfold tupIL at h
    rw [Bool.and_eq_true] at h
    show (pureD d && pureL ds) = true
    rw [tupI_pure d h.1, tupIL_pure ds h.2]
    rfl
end
theorem RepKV.sub {n : Nat} {ρ1 ρ2 : List Addr} (hn : ∀ i, i < n → ρ2[i]? = ρ1[i]?) (hm : ∀ a ∈ ρ2, a ∈ ρ1) : ∀ (ds : List (D × D)) (vs : List DV), (∀ p ∈ ds, Rf.below n p.2) → RepKV K G ρ1 H ds vs → RepKV K G ρ2 H ds vs
  | [], _, _, h => h
  | (x, d) :: ds, vs, b, h => by
    obtain ⟨k, v, vs', e, h0, h3, h1, h2⟩ := h
    exact ⟨k, v, vs', e, h0, Rep.sub hn hm x _ (pure_below n x (tupI_pure x h0)) h3, Rep.sub hn hm d v (b (x, d) List.mem_cons_self) h1, RepKV.sub hn hm ds vs' (fun p hp => b p (List.mem_cons_of_mem _ hp)) h2⟩
theorem RepKI.sub {n : Nat} {ρ1 ρ2 : List Addr} (hn : ∀ i, i < n → ρ2[i]? = ρ1[i]?) (hm : ∀ a ∈ ρ2, a ∈ ρ1) : ∀ (ds : List (Int × D)) (vs : List (Key × V)), (∀ p ∈ ds, Rf.below n p.2) → RepKI K G ρ1 H ds vs → RepKI K G ρ2 H ds vs
  | [], _, _, h => h
  | (x, d) :: ds, vs, b, h => by
    obtain ⟨v, vs', e, h1, h2⟩ := h
    exact ⟨v, vs', e, Rep.sub hn hm d v (b (x, d) List.mem_cons_self) h1, RepKI.sub hn hm ds vs' (fun p hp => b p (List.mem_cons_of_mem _ hp)) h2⟩
theorem RepF.sub {n : Nat} {ρ1 ρ2 : List Addr} (hn : ∀ i, i < n → ρ2[i]? = ρ1[i]?) (hm : ∀ a ∈ ρ2, a ∈ ρ1) : ∀ (ds : List (Str × D)) (vs : List (Str × V)), (∀ p ∈ ds, Rf.below n p.2) → RepF K G ρ1 H ds vs → RepF K G ρ2 H ds vs
  | [], _, _, h => h
  | (x, d) :: ds, vs, b, h => by
    obtain ⟨v, vs', e, h1, h2⟩ := h
    exact ⟨v, vs', e, Rep.sub hn hm d v (b (x, d) List.mem_cons_self) h1, RepF.sub hn hm ds vs' (fun p hp => b p (List.mem_cons_of_mem _ hp)) h2⟩
theorem pre_get {i : Nat} (h : i < ρ.length) : ρ[i]? = (ρ ++ t)[i]? := by rw [List.getElem?_append_left h]
theorem Rep.cut (d : D) (v : V) (b : Rf.below ρ.length d) (h : Rep K G (ρ ++ t) H d v) : Rep K G ρ H d v := Rep.sub (fun _ hi => pre_get hi) (fun _ z => List.mem_append_left _ z) d v b h
theorem RepL.cut (d : List D) (v : List V) (b : belowL ρ.length d) (h : RepL K G (ρ ++ t) H d v) : RepL K G ρ H d v := RepL.sub (fun _ hi => pre_get hi) (fun _ z => List.mem_append_left _ z) d v b h
theorem RepKV.below : ∀ (ds : List (D × D)) (vs : List DV), RepKV K G ρ H ds vs → ∀ p ∈ ds, below ρ.length p.2
  | [], _, _, _, hp => nomatch hp
  | (x, d) :: ds, vs, h, p, hp => by
    obtain ⟨k, v, vs', e, h0, h3, h1, h2⟩ := h
    rcases List.mem_cons.mp hp with rfl | hp
    · exact Rep.below d v h1
    · exact RepKV.below ds vs' h2 p hp
theorem RepKI.below : ∀ (ds : List (Int × D)) (vs : List (Key × V)), RepKI K G ρ H ds vs → ∀ p ∈ ds, below ρ.length p.2
  | [], _, _, _, hp => nomatch hp
  | (x, d) :: ds, vs, h, p, hp => by
    obtain ⟨v, vs', e, h1, h2⟩ := h
    rcases List.mem_cons.mp hp with rfl | hp
    · exact Rep.below d v h1
    · exact RepKI.below ds vs' h2 p hp
theorem RepF.below : ∀ (ds : List (Str × D)) (vs : List (Str × V)), RepF K G ρ H ds vs → ∀ p ∈ ds, below ρ.length p.2
  | [], _, _, _, hp => nomatch hp
  | (x, d) :: ds, vs, h, p, hp => by
    obtain ⟨v, vs', e, h1, h2⟩ := h
    rcases List.mem_cons.mp hp with rfl | hp
    · exact Rep.below d v h1
    · exact RepF.below ds vs' h2 p hp
def stOk (S S' : Store) : Prop := S.length ≤ S'.length ∧ ∀ i, i < S.length → S'[i]? = S[i]? ∨ ∃ ob, S'[i]? = some ob ∧ ob.pure = true
theorem stOk_app (S L : Store) : stOk S (S ++ L) := ⟨by simp, fun i hi => .inl (List.getElem?_append_left hi)⟩
theorem Keep.cut (k : Keep G ρ H ρ' H') : Keep G ρ H ρ H' := ⟨⟨[], by simp⟩, k.tup, fun a xs h1 h2 h3 => ⟨h1, (k.lst a xs h1 h2 h3).2⟩, k.frz, k.grd⟩
theorem st_below (r : RelS K G ρ S H) (st : stOk S S') {i : Nat} {o : Ob} (hi : i < S.length) (h1 : S'[i]? = some o) : (match o with | .lst ds => belowL ρ.length ds | .dK kvs => ∀ p ∈ kvs, Rf.below ρ.length p.2 | .dI kvs => ∀ p ∈ kvs, Rf.below ρ.length p.2 | .ins _ fs => ∀ p ∈ fs, Rf.below ρ.length p.2 | .dS fs => ∀ p ∈ fs, Rf.below ρ.length p.2 | .gone => True) := by
  rcases st.2 i hi with e | ⟨ob, e, hp⟩
  · rw [e] at h1
    obtain ⟨a, _, q0⟩ := r.at h1
    cases o with
    | lst ds => obtain ⟨vs, _, h⟩ := q0; exact RepL.below ds vs h
    | dK kvs => obtain ⟨vs, _, h⟩ := q0; exact RepKV.below kvs vs h
    | dI kvs => obtain ⟨vs, _, h⟩ := q0; exact RepKI.below kvs vs h
    | ins x fs => obtain ⟨vs, _, h⟩ := q0; exact RepF.below fs vs h
    | dS fs => obtain ⟨vs, _, h⟩ := q0; exact RepF.below fs vs h
    | gone => trivial
  · rw [e] at h1
    cases h1
    cases o with
    | lst ds => exact pureL_below _ ds hp
    | dK kvs => exact fun p hm => pure_below _ _ (List.all_eq_true.mp hp p hm)
    | dI kvs => exact fun p hm => pure_below _ _ (List.all_eq_true.mp hp p hm)
    | ins x fs => exact fun p hm => pure_below _ _ (List.all_eq_true.mp hp p hm)
    | dS fs => exact fun p hm => pure_below _ _ (List.all_eq_true.mp hp p hm)
    | gone => trivial
theorem RelS.cut (r : RelS K G ρ S H) (r' : RelS K G ρ' S' H') (k : Keep G ρ H ρ' H') (st : stOk S S') : RelS K G ρ (S'.take S.length) H' := by
  obtain ⟨t, rfl⟩ := k.pre
  refine ⟨by rw [List.length_take, r.len]; have := st.1; omega, r.nd, r.ng, fun a h => r'.gt a h, r'.tp, fun i o a h1 h2 => ?_⟩
  have hi : i < S.length := by rw [← r.len]; exact (List.getElem?_eq_some_iff.mp h2).1
  rw [List.getElem?_take_of_lt hi] at h1
  have h3 : (ρ ++ t)[i]? = some a := by rw [List.getElem?_append_left (by rw [r.len]; exact hi)]; exact h2
  have q := r'.ob i o a h1 h3
  have bl := st_below r st hi h1
  cases o with
  | lst ds => obtain ⟨vs, e, h⟩ := q; exact ⟨vs, e, RepL.cut ds vs bl h⟩
  | dK kvs => obtain ⟨vs, e, h⟩ := q; exact ⟨vs, e, RepKV.sub (fun _ hi => pre_get hi) (fun _ z => List.mem_append_left _ z) kvs vs bl h⟩
  | dI kvs => obtain ⟨vs, e, h⟩ := q; exact ⟨vs, e, RepKI.sub (fun _ hi => pre_get hi) (fun _ z => List.mem_append_left _ z) kvs vs bl h⟩
  | ins x fs => obtain ⟨vs, e, h⟩ := q; exact ⟨vs, e, RepF.sub (fun _ hi => pre_get hi) (fun _ z => List.mem_append_left _ z) fs vs bl h⟩
  | dS fs => obtain ⟨vs, e, h⟩ := q; exact ⟨vs, e, RepF.sub (fun _ hi => pre_get hi) (fun _ z => List.mem_append_left _ z) fs vs bl h⟩
  | gone => exact q
theorem RelS.cut1 (r : RelS K G ρ S H) (r' : RelS K G ρ' S' H') (k : Keep G ρ H ρ' H') (st : stOk S S') {j : Nat} {a : Addr} {ob : Ob} (hj : S.length ≤ j) (ha : ρ'[j]? = some a) (eo : S'[j]? = some ob) (hq : ob.pure = true) :
    RelS K G (ρ ++ [a]) (S'.take S.length ++ [ob]) H' ∧ Keep G ρ H (ρ ++ [a]) H' ∧ a ∉ ρ := by
  obtain ⟨t, et⟩ := k.pre
  have na : a ∉ ρ := fun hm => by
    obtain ⟨i, hi, ei⟩ := List.getElem_of_mem hm
    have hi' : i < ρ'.length := by rw [et, List.length_append]; omega
    have hj' : j < ρ'.length := (List.getElem?_eq_some_iff.mp ha).1
    have e1 : ρ'[i] = a := by
      have : ρ'[i]? = some a := by rw [et, List.getElem?_append_left hi, List.getElem?_eq_getElem hi, ei]
      exact (List.getElem?_eq_some_iff.mp this).2
    have e2 : ρ'[j] = a := (List.getElem?_eq_some_iff.mp ha).2
    have : i = j := (List.getElem_inj r'.nd).mp (e1.trans e2.symm)
    rw [r.len] at hi
    omega
  have ma : a ∈ ρ' := List.mem_of_getElem? ha
  have hsub : ∀ b ∈ ρ ++ [a], b ∈ ρ' := fun b hb => by
    rcases List.mem_append.mp hb with hb | hb
    · rw [et]; exact List.mem_append_left _ hb
    · simp at hb; rw [hb]; exact ma
  have hget : ∀ i, i < ρ.length → (ρ ++ [a])[i]? = ρ'[i]? := fun i hi => by rw [et, List.getElem?_append_left hi, List.getElem?_append_left hi]
  have k2 : Keep G ρ H (ρ ++ [a]) H' := by
    refine ⟨⟨[a], rfl⟩, k.tup, fun b xs h1 h2 h3 => ?_, k.frz, k.grd⟩
    obtain ⟨q1, q2⟩ := k.lst b xs h1 h2 h3
    exact ⟨fun hb => q1 (hsub b hb), q2⟩
  refine ⟨⟨?_, ?_, fun b hb => r'.ng b (hsub b hb), r'.gt, r'.tp, fun i o b h1 h2 => ?_⟩, k2, na⟩
  · rw [List.length_append, List.length_append, List.length_take, r.len]
    have := st.1
    simp
    omega
  · rw [List.nodup_append]
    refine ⟨r.nd, by simp, fun x hx y hy => ?_⟩
    rintro rfl
    simp at hy
    exact na (hy ▸ hx)
  · have lt : (S'.take S.length).length = S.length := by rw [List.length_take]; have := st.1; omega
    by_cases hi : i < S.length
    · rw [List.getElem?_append_left (by rw [lt]; exact hi), List.getElem?_take_of_lt hi] at h1
      rw [hget i (by rw [r.len]; exact hi)] at h2
      have q := r'.ob i o b h1 h2
      have bl := st_below r st hi h1
      cases o with
      | lst ds => obtain ⟨vs, e, h⟩ := q; exact ⟨vs, e, RepL.sub hget hsub ds vs bl h⟩
      | dK kvs => obtain ⟨vs, e, h⟩ := q; exact ⟨vs, e, RepKV.sub hget hsub kvs vs bl h⟩
      | dI kvs => obtain ⟨vs, e, h⟩ := q; exact ⟨vs, e, RepKI.sub hget hsub kvs vs bl h⟩
      | ins x fs => obtain ⟨vs, e, h⟩ := q; exact ⟨vs, e, RepF.sub hget hsub fs vs bl h⟩
      | dS fs => obtain ⟨vs, e, h⟩ := q; exact ⟨vs, e, RepF.sub hget hsub fs vs bl h⟩
      | gone => exact q
    · have hi' : i = S.length := by
        have := (List.getElem?_eq_some_iff.mp h1).1
        rw [List.length_append, lt] at this
        simp at this
        omega
      subst hi'
      rw [List.getElem?_append_right (by rw [lt]; exact Nat.le_refl _), lt] at h1
      simp at h1
      subst h1
      rw [← r.len, List.getElem?_append_right (Nat.le_refl _)] at h2
      simp at h2
      subst h2
      have q := r'.ob j _ a eo ha
      cases ob with
      | lst ds => obtain ⟨vs, e, h⟩ := q; exact ⟨vs, e, RepL.sub hget hsub ds vs (pureL_below _ ds hq) h⟩
      | dK kvs => obtain ⟨vs, e, h⟩ := q; exact ⟨vs, e, RepKV.sub hget hsub kvs vs (fun p hm => pure_below _ _ (List.all_eq_true.mp hq p hm)) h⟩
      | dI kvs => obtain ⟨vs, e, h⟩ := q; exact ⟨vs, e, RepKI.sub hget hsub kvs vs (fun p hm => pure_below _ _ (List.all_eq_true.mp hq p hm)) h⟩
      | ins x fs => obtain ⟨vs, e, h⟩ := q; exact ⟨vs, e, RepF.sub hget hsub fs vs (fun p hm => pure_below _ _ (List.all_eq_true.mp hq p hm)) h⟩
      | dS fs => obtain ⟨vs, e, h⟩ := q; exact ⟨vs, e, RepF.sub hget hsub fs vs (fun p hm => pure_below _ _ (List.all_eq_true.mp hq p hm)) h⟩
      | gone => exact q
end
inductive Mode where
  | val | own | raw
def unT (n : Nat) (S' : Store) : List D → Option (List D)
  | [] => some []
  | d :: r => match (if pureD d = true then some d else match d with
      | .cell j => if n ≤ j then (match S'[j]? with
        | some (.lst ds) => if pureL ds = true then some (.lst ds) else none
        | _ => none) else none
      | _ => none), unT n S' r with
    | some e, some es => some (e :: es)
    | _, _ => none
theorem unT_rep {K : PySem.W.Frag} {G : Addr → Prop} {ρ ρ' : List Addr} {H H' : Hp} {S S' : Store} (r : RelS K G ρ S H) (r' : RelS K G ρ' S' H') (k : Keep G ρ H ρ' H') (st : stOk S S') : ∀ (ds es : List D) (vs : List V), RepL K G ρ' H' ds vs → unT S.length S' ds = some es → RepL K G ρ H' es vs
  | [], es, vs, h, e => by cases e; exact h
  | d :: ds, es, vs, h, e => by
    obtain ⟨v, vs', rfl, h1, h2⟩ := h
    unfold unT at e
    split at e
    · rename_i x xs e1 e2
      cases e
      refine ⟨v, vs', rfl, ?_, unT_rep r r' k st ds xs vs' h2 e2⟩
      obtain ⟨t, et⟩ := k.pre
      by_cases hp : pureD d = true
      · rw [if_pos hp] at e1
        cases e1
        rw [et] at h1
        exact Rep.cut d v (pure_below _ d hp) h1
      · rw [if_neg hp] at e1
        cases d with
        | cell j =>
          dsimp only at e1
          by_cases hj : S.length ≤ j
          · rw [if_pos hj] at e1
            obtain ⟨a, rfl, ha⟩ := h1
            cases eo : S'[j]? with
            | none => rw [eo] at e1; cases e1
            | some o =>
              rw [eo] at e1
              cases o with
              | dK kvs => cases e1
              | dI kvs => cases e1
              | ins x fs => cases e1
              | dS fs => cases e1
              | gone => cases e1
              | lst ds =>
                dsimp only at e1
                by_cases hq : pureL ds = true
                · rw [if_pos hq] at e1
                  cases e1
                  obtain ⟨ws, e, q⟩ := r'.ob j _ a eo ha
                  obtain ⟨_, _, na⟩ := r.cut1 r' k st hj ha eo hq
                  rw [et] at q
                  exact ⟨a, ws, rfl, ⟨na, r'.ng a (List.mem_of_getElem? ha), e⟩, RepL.cut ds ws (pureL_below _ ds hq) q⟩
                · rw [if_neg hq] at e1; cases e1
          · rw [if_neg hj] at e1; cases e1
        | _ => cases e1
    · cases e
open Classical in
noncomputable def fin (md : Mode) (S : Store) (d : D) (S' : Store) : Res D :=
  if stOk S S' then
    match md with
    | .val => if pureD d = true then .ok d (S'.take S.length) else match d with
      | .cell j => if S.length ≤ j then (match S'[j]? with
        | some (.lst ds) => if pureL ds = true then .ok (.lst ds) (S'.take S.length) else .bad
        | _ => .bad) else .bad
      | .tup ds => (match unT S.length S' ds with
        | some es => .ok (.tup es) (S'.take S.length)
        | none => .bad)
      | _ => .bad
    | .own => match d with
      | .cell j => if S.length ≤ j then (match S'[j]? with
        | some (.lst ds) => if pureL ds = true then .ok (.cell S.length) (S'.take S.length ++ [.lst ds]) else .bad
        | some (.dI kvs) => if (Ob.dI kvs).pure = true then .ok (.cell S.length) (S'.take S.length ++ [.dI kvs]) else .bad
        | some (.dK kvs) => if (Ob.dK kvs).pure = true then .ok (.cell S.length) (S'.take S.length ++ [.dK kvs]) else .bad
        | _ => .bad) else .bad
      | _ => .bad
    | .raw => .ok d S'
  else .bad
theorem fin_ok {K : PySem.W.Frag} {G : Addr → Prop} {ρ ρ' : List Addr} {H H' : Hp} {S S' : Store} {md : Mode} {d : D} {v : V} {E : Nat → Hp → Prop} {Q : VK} (h : Ok K G (Rep K G) ρ H (fin md S d S') E Q) (r : RelS K G ρ S H) (r' : RelS K G ρ' S' H') (x : Rep K G ρ' H' d v) (k : Keep G ρ H ρ' H') : Q v H' := by
  unfold fin at h
  by_cases st : stOk S S'
  · rw [if_pos st] at h
    have rc := r.cut r' k st
    obtain ⟨t, et⟩ := k.pre
    cases md with
    | val =>
      dsimp only at h
      by_cases hp : pureD d = true
      · rw [if_pos hp] at h
        refine h v ρ H' rc ?_ k.cut
        rw [et] at x
        exact Rep.cut d v (pure_below _ d hp) x
      · rw [if_neg hp] at h
        cases d with
        | cell j =>
          dsimp only at h
          by_cases hj : S.length ≤ j
          · rw [if_pos hj] at h
            obtain ⟨a, rfl, ha⟩ := x
            cases eo : S'[j]? with
            | none => rw [eo] at h; exact h.elim
            | some o =>
              rw [eo] at h
              cases o with
              | dK kvs => exact h.elim
              | dI kvs => exact h.elim
              | ins x fs => exact h.elim
              | dS fs => exact h.elim
              | gone => exact h.elim
              | lst ds =>
                dsimp only at h
                by_cases hq : pureL ds = true
                · rw [if_pos hq] at h
                  obtain ⟨vs, e, q⟩ := r'.ob j _ a eo ha
                  obtain ⟨_, _, na⟩ := r.cut1 r' k st hj ha eo hq
                  refine h (.ref a) ρ H' rc ⟨a, vs, rfl, ⟨na, r'.ng a (List.mem_of_getElem? ha), e⟩, ?_⟩ k.cut
                  rw [et] at q
                  exact RepL.cut ds vs (pureL_below _ ds hq) q
                · rw [if_neg hq] at h; exact h.elim
          · rw [if_neg hj] at h; exact h.elim
        | tup ds =>
          dsimp only at h
          cases eu : unT S.length S' ds with
          | none => rw [eu] at h; exact h.elim
          | some es =>
            rw [eu] at h
            obtain ⟨a, vs, rfl, h1, h2⟩ := x
            exact h (.ref a) ρ H' rc ⟨a, vs, rfl, h1, unT_rep r r' k st ds es vs h2 eu⟩ k.cut
        | _ => exact h.elim
    | own =>
      cases d with
      | cell j =>
        dsimp only at h
        by_cases hj : S.length ≤ j
        · rw [if_pos hj] at h
          obtain ⟨a, rfl, ha⟩ := x
          cases eo : S'[j]? with
          | none => rw [eo] at h; exact h.elim
          | some o =>
            rw [eo] at h
            cases o with
            | dK kvs =>
              dsimp only at h
              by_cases hq : (Ob.dK kvs).pure = true
              · rw [if_pos hq] at h
                obtain ⟨q1, q2, q3⟩ := r.cut1 r' k st hj ha eo hq
                refine h (.ref a) (ρ ++ [a]) H' q1 ⟨a, rfl, ?_⟩ q2
                rw [← r.len, List.getElem?_append_right (Nat.le_refl _)]
                simp
              · rw [if_neg hq] at h; exact h.elim
            | dI kvs =>
              dsimp only at h
              by_cases hq : (Ob.dI kvs).pure = true
              · rw [if_pos hq] at h
                obtain ⟨q1, q2, q3⟩ := r.cut1 r' k st hj ha eo hq
                refine h (.ref a) (ρ ++ [a]) H' q1 ⟨a, rfl, ?_⟩ q2
                rw [← r.len, List.getElem?_append_right (Nat.le_refl _)]
                simp
              · rw [if_neg hq] at h; exact h.elim
            | ins x fs => exact h.elim
            | dS fs => exact h.elim
            | gone => exact h.elim
            | lst ds =>
              dsimp only at h
              by_cases hq : pureL ds = true
              · rw [if_pos hq] at h
                obtain ⟨q1, q2, q3⟩ := r.cut1 r' k st hj ha eo hq
                refine h (.ref a) (ρ ++ [a]) H' q1 ⟨a, rfl, ?_⟩ q2
                rw [← r.len, List.getElem?_append_right (Nat.le_refl _)]
                simp
              · rw [if_neg hq] at h; exact h.elim
        · rw [if_neg hj] at h; exact h.elim
      | _ => exact h.elim
    | raw => exact h v ρ' H' r' x k
  · rw [if_neg st] at h
    exact h.elim
open Classical in
noncomputable def runFn (md : Mode) (N : Nat) (body : MS) : List D → Store → Res D := fun ds S =>
  match body (ds.map some ++ List.replicate (N - ds.length) none) S with
  | .ret d S' => fin md S d S'
  | .next _ S' => fin md S .non S'
  | .err c _ S' => if stOk S S' then .err c (S'.take S.length) else .bad
  | _ => .bad
def spF (K : PySem.W.Frag) (cA : Nat → Addr) (n : Nat) (F : List D → Store → Res D) : Sp := fun vs H Q E => vs.length = n ∧ ∃ G ρ S ds, RelS K G ρ S H ∧ RepL K G ρ H ds vs ∧ Ok K G (Rep K G) ρ H (F ds S) (fun c H' => E (.ref (cA c)) none H') Q
theorem start_rel {K : PySem.W.Frag} {G : Addr → Prop} {ρ : List Addr} {H : Hp} {ds : List D} {vs : List V} (N : List Str) (h : RepL K G ρ H ds vs) : RelE K G ρ H (ds.map some ++ List.replicate (N.length - ds.length) none) (L2.start N vs) := by
  unfold L2.start
  have hl := h.length
  refine ⟨by simp [hl], fun i d e => ?_⟩
  by_cases hi : i < ds.length
  · rw [List.getElem?_append_left (by simpa using hi), List.getElem?_map] at e
    cases ed : ds[i]? with
    | none => rw [ed] at e; cases e
    | some d0 =>
      rw [ed] at e
      have e : some d0 = some d := by simpa using e
      cases e
      obtain ⟨v, h1, h2⟩ := h.get ed
      exact ⟨v, by rw [List.getElem?_append_left (by rw [List.length_map, hl]; exact hi), List.getElem?_map, h1]; rfl, h2⟩
  · rw [List.getElem?_append_right (by simpa using hi)] at e
    rw [List.getElem?_replicate] at e
    split at e <;> cases e
section
variable {P : Program} {w : World} {K : PySem.W.Frag} {mg : Str → Option Value} {base : Heap} {cA : Nat → Addr}
abbrev WF (E : XK) : WX := fun c d _ H => E c d H
theorem fn_ok {x qual : Str} {st : Stmt} {f : Addr} {fd : FuncData} {N ps : List Str} {k : Nat} {md : Mode} {body : MS} (F : Fun K x qual st f fd) (Sc : FnScope N ps (defScope st))
    (hb : ∀ (cdv : Value) (A : Around) (outer : List Env) (s : Shared) (H : Hp) (E : XK), RoomG k (A.deeper (envOfC qual (defScope st) s.heap.objs.size f cdv)) →
      PSs (cxOf (L2.CX P w) P w K mg base N qual (defScope st) f cdv A outer s H E) (defBody st) (tS K cA (WF E) body)) :
    FnOkG P w K mg base (L2.CX P w) (k + 1) f fd ps (spF K cA ps.length (runFn md N.length body)) := by
  refine fn_ofG F Sc (fun vs H Q E h => h.1) (fun cdv A outer s H vs Q E hr h => ⟨_, hb cdv A outer s H E hr, ?_⟩)
  obtain ⟨hl, G, ρ, S, ds, hS, hd, h⟩ := h
  refine ⟨G, ρ, _, S, start_rel N hd, hS, ?_⟩
  unfold runFn at h
  revert h
  cases body (ds.map some ++ List.replicate (N.length - ds.length) none) S with
  | next e S1 => exact fun h σ' ρ' H' q1 q2 q3 => fin_ok h hS q2 (show Rep K G ρ' H' .non .non from rfl) q3
  | ret d S1 => exact fun h v ρ' H' q1 q2 q3 => fin_ok h hS q1 q2 q3
  | brk e S1 => exact fun h => h.elim
  | cont e S1 => exact fun h => h.elim
  | err c e S1 =>
    intro h σ' ρ' H' q1 q2 q3
    dsimp only at h
    by_cases st : stOk S S1
    · rw [if_pos st] at h
      exact h ρ H' (hS.cut q2 q3 st) q3.cut
    · rw [if_neg st] at h
      exact h.elim
  | bad => exact fun h => h
end
section
variable {X : Cx} {e : Expr} {es : List Expr} {pos p : Pos} {cA : Nat → Addr} {W : WX} {x : Str}
def eCall (n : Nat) (F : List D → Store → Res D) (ma : M (List D)) : M D := fun env S => (ma env S).bind fun xs S1 => if xs.length = n then F xs S1 else .bad
theorem je_call {k n : Nat} {f : Addr} {fd : FuncData} {ps : List Str} {Fm : List D → Store → Res D} {ma : M (List D)} (F : FnOkG X.prog X.w X.K X.mg X.base (L2.CX X.prog X.w) k f fd ps (spF X.K cA n Fm)) (hr : RoomG k X.A) (hg : Gl X x) (hm : X.mg x = some (.ref f)) (hk : PySem.W.keepIn X.K (.ref f) = true) (hb : Binds X.K fd ps []) (tk : Takes X W)
    (ha : PA X (e :: es) (tAr X.K cA W ma)) (hdb : (x == ("__debug__" : Str)) = false := by decide) (he : starEach (e :: es) X.env = (false, eval e X.env) :: starEach es X.env := by rfl) (hpl : (backTo pos (starEach es X.env)).any (·.1) = false := by rfl) :
    PE X (.Call (.Name x p) (e :: es) [] pos) (tE X.K cA W (eCall n Fm ma)) := by
  refine pe_imp (pe_callG (E := WE W) F hr hg hm hk hb (fun σ => passAt tk σ) ha hdb he hpl) ?_
  rintro σ H Q ⟨G, ρ, env, S, hE, hS, h⟩
  refine ⟨G, ρ, env, S, hE, hS, Ok.bind h fun ds S1 vs ρ1 H1 r1 x1 k1 h1 => ?_⟩
  by_cases hl : ds.length = n
  · rw [if_pos hl] at h1
    exact ⟨by rw [x1.length]; exact hl, G, ρ1, S1, ds, r1, x1, h1⟩
  · rw [if_neg hl] at h1
    exact h1.elim
end
end Rf

namespace Rf
open PySem PySem.Spec PyProof.Rows L2

def era (H : Hp) (d : Addr) : Hp := fun b => if b = d then none else H b
def gAnd (G : Addr → Prop) (d : Addr) : Addr → Prop := fun a => G a ∨ a = d
section
variable {K : PySem.W.Frag} {G : Addr → Prop} {ρ ρ' : List Addr} {H H' : Hp} {d : Addr} {S S' : Store}
theorem era_same : era H d d = none := by unfold era; rw [if_pos rfl]
theorem era_ne {b : Addr} (h : b ≠ d) : era H d b = H b := by unfold era; rw [if_neg h]
theorem era_some {b : Addr} {o : HO} (h : era H d b = some o) : b ≠ d ∧ H b = some o := by
  by_cases e : b = d
  · subst e; rw [era_same] at h; cases h
  · exact ⟨e, by rw [era_ne e] at h; exact h⟩
theorem upd_era {o : HO} (h : H d = some o) : upd (era H d) d o = H := by
  funext b
  by_cases e : b = d
  · subst e; rw [upd_same, h]
  · rw [upd_ne e, era_ne e]
theorem era_upd {o : HO} : era (upd H d o) d = era H d := by
  funext b
  by_cases e : b = d
  · subst e; rw [era_same, era_same]
  · rw [era_ne e, era_ne e, upd_ne e]
theorem era_none (h : H d = none) : era H d = H := by
  funext b
  by_cases e : b = d
  · subst e; rw [era_same, h]
  · rw [era_ne e]
theorem up2 {o : HO} (h : H d = some o) : Keep2 G ρ (era H d) (gAnd G d) ρ H := by
  refine ⟨⟨[], by simp⟩, fun a xs r => ?_, fun a xs h1 h2 h3 => ?_, fun a o u r => (era_some r).2⟩
  · rcases r with r | ⟨o, r⟩
    · exact .inl (era_some r).2
    · exact .inr ⟨o, (era_some r).2⟩
  · obtain ⟨e1, e2⟩ := era_some h3
    exact ⟨h1, fun q => q.elim h2 e1, e2⟩
theorem down2 {vs : List V} (h : H d = some (.lst vs)) : Keep2 (gAnd G d) ρ H G ρ (era H d) := by
  refine ⟨⟨[], by simp⟩, fun a xs r => ?_, fun a xs h1 h2 h3 => ?_, fun a o u r => ?_⟩
  · have ne : a ≠ d := fun e => by
      subst e
      rcases r with r | ⟨o, r⟩
      · rw [h] at r; cases r
      · rw [h] at r; cases r
    rcases r with r | ⟨o, r⟩
    · exact .inl (by rw [era_ne ne]; exact r)
    · exact .inr ⟨o, by rw [era_ne ne]; exact r⟩
  · have ne : a ≠ d := fun e => h2 (.inr e)
    exact ⟨h1, fun g => h2 (.inl g), by rw [era_ne ne]; exact h3⟩
  · have ne : a ≠ d := fun e => by subst e; rw [h] at r; cases r
    rw [era_ne ne]; exact r
theorem RelS.up {o : HO} (r : RelS K G ρ S (era H d)) (h : H d = some o) (ho : okO o := by exact True.intro) : RelS K (gAnd G d) ρ S H := by
  have nd := r.fresh (p := d) era_same
  refine ⟨r.len, r.nd, fun a ha q => q.elim (r.ng a ha) fun e => nd (e ▸ ha), fun a q => ?_, fun a u e => ?_, fun i o' a h1 h2 => ?_⟩
  · rcases q with q | q
    · obtain ⟨u, e⟩ := r.gt a q
      exact ⟨u, (era_some e).2⟩
    · exact ⟨o, by rw [q]; exact h⟩
  · by_cases z : a = d
    · subst z; rw [h] at e; cases e; exact ho
    · exact r.tp a u (by rw [era_ne z]; exact e)
  · have q := r.ob i o' a h1 h2
    cases o' with
    | lst ds => obtain ⟨vs, e, x⟩ := q; exact ⟨vs, (era_some e).2, RepL.keep2 (up2 h) ds vs x⟩
    | dK kvs => obtain ⟨vs, e, x⟩ := q; exact ⟨vs, (era_some e).2, RepKV.keep2 (up2 h) kvs vs x⟩
    | dI kvs => obtain ⟨vs, e, x⟩ := q; exact ⟨vs, (era_some e).2, RepKI.keep2 (up2 h) kvs vs x⟩
    | ins x0 fs => obtain ⟨vs, ⟨C, dx, e, hC⟩, x⟩ := q; exact ⟨vs, ⟨C, dx, (era_some e).2, hC⟩, RepF.keep2 (up2 h) fs vs x⟩
    | dS fs => obtain ⟨vs, e, x⟩ := q; exact ⟨vs, (era_some e).2, RepF.keep2 (up2 h) fs vs x⟩
    | gone => obtain ⟨u, e⟩ := q; exact ⟨u, (era_some e).2⟩
theorem RelS.down {vs : List V} (r : RelS K (gAnd G d) ρ S H) (h : H d = some (.lst vs)) (hd : ¬ G d) : RelS K G ρ S (era H d) := by
  refine ⟨r.len, r.nd, fun a ha g => r.ng a ha (.inl g), fun a g => ?_, fun a u e => r.tp a u (era_some e).2, fun i o' a h1 h2 => ?_⟩
  · obtain ⟨u, e⟩ := r.gt a (.inl g)
    exact ⟨u, by rw [era_ne (fun (z : a = d) => hd (z ▸ g))]; exact e⟩
  · have ne : a ≠ d := fun e => r.ng a (List.mem_of_getElem? h2) (.inr e)
    have q := r.ob i o' a h1 h2
    cases o' with
    | lst ds => obtain ⟨vs, e, x⟩ := q; exact ⟨vs, by rw [era_ne ne]; exact e, RepL.keep2 (down2 h) ds vs x⟩
    | dK kvs => obtain ⟨vs, e, x⟩ := q; exact ⟨vs, by rw [era_ne ne]; exact e, RepKV.keep2 (down2 h) kvs vs x⟩
    | dI kvs => obtain ⟨vs, e, x⟩ := q; exact ⟨vs, by rw [era_ne ne]; exact e, RepKI.keep2 (down2 h) kvs vs x⟩
    | ins x0 fs => obtain ⟨vs, ⟨C, dx, e, hC⟩, x⟩ := q; exact ⟨vs, ⟨C, dx, by rw [era_ne ne]; exact e, hC⟩, RepF.keep2 (down2 h) fs vs x⟩
    | dS fs => obtain ⟨vs, e, x⟩ := q; exact ⟨vs, by rw [era_ne ne]; exact e, RepF.keep2 (down2 h) fs vs x⟩
    | gone => obtain ⟨u, e⟩ := q; exact ⟨u, by rw [era_ne ne]; exact e⟩
theorem RelE.keep2 {G' : Addr → Prop} {env : En} {σ : L2.St} (k : Keep2 G ρ H G' ρ' H') (r : RelE K G ρ H env σ) : RelE K G' ρ' H' env σ :=
  ⟨r.len, fun i d h => let ⟨v, h1, h2⟩ := r.get i d h; ⟨v, h1, Rep.keep2 k d v h2⟩⟩
theorem Keep.down {vs : List V} (k : Keep (gAnd G d) ρ H ρ' H') (h : H d = some (.lst vs)) (hd : ¬ G d) : Keep G ρ (era H d) ρ' (era H' d) := by
  have h' : H' d = some (.lst vs) := by rw [k.grd d (.inr rfl)]; exact h
  refine ⟨k.pre, fun a xs r => ?_, fun a xs h1 h2 h3 => ?_, fun a o u r => ?_, fun a g => ?_⟩
  · rcases r with r | ⟨o, r⟩
    · obtain ⟨e1, e2⟩ := era_some r
      rcases k.tup a xs (.inl e2) with q | ⟨o, q⟩
      · exact .inl (by rw [era_ne e1]; exact q)
      · exact .inr ⟨o, by rw [era_ne e1]; exact q⟩
    · obtain ⟨e1, e2⟩ := era_some r
      rcases k.tup a xs (.inr ⟨o, e2⟩) with q | ⟨o, q⟩
      · exact .inl (by rw [era_ne e1]; exact q)
      · exact .inr ⟨o, by rw [era_ne e1]; exact q⟩
  · obtain ⟨e1, e2⟩ := era_some h3
    obtain ⟨q1, q2⟩ := k.lst a xs h1 (fun q => q.elim h2 e1) e2
    exact ⟨q1, by rw [era_ne e1]; exact q2⟩
  · obtain ⟨e1, e2⟩ := era_some r
    rw [era_ne e1]
    exact k.frz a o u e2
  · have ne : a ≠ d := fun e => hd (e ▸ g)
    rw [era_ne ne, era_ne ne]
    exact k.grd a (.inl g)
end
def tGo (K : PySem.W.Frag) (p : Pat) (own : List Nat) : TG := fun v σ H Q => ∃ G ρ env d, RelE K G ρ H env σ ∧ Rep K G ρ H d v ∧ match p d env with
  | some env' => ∀ σ', RelE K G ρ H env' σ' → wipe σ' own = wipe σ own → Q σ' H
  | none => False
theorem set_comm' {α : Type} (l : List α) (i j : Nat) (a b : α) (h : i ≠ j) : (l.set i a).set j b = (l.set j b).set i a := List.set_comm _ _ h
theorem wipe_set {σ : L2.St} {i : Nat} {v : Option V} : ∀ {own : List Nat}, i ∈ own → wipe (σ.set i v) own = wipe σ own
  | [], h => nomatch h
  | j :: r, h => by
    unfold wipe
    by_cases e : i ∈ r
    · rw [wipe_set e]
    · have : i = j := by
        rcases List.mem_cons.mp h with h | h
        · exact h
        · exact absurd h e
      subst this
      have key : ∀ (r : List Nat) (σ : L2.St), i ∉ r → wipe (σ.set i v) r = (wipe σ r).set i v := by
        intro r
        induction r with
        | nil => intro σ _; rfl
        | cons k r ih =>
          intro σ hn
          unfold wipe
          rw [ih σ (fun z => hn (List.mem_cons_of_mem _ z))]
          exact set_comm' _ _ _ _ _ (fun z => hn (z ▸ List.mem_cons_self))
      rw [key r σ e, List.set_set]
theorem wipe_sub {σ : L2.St} {own : List Nat} : ∀ l : List Nat, (∀ i ∈ l, i ∈ own) → wipe (wipe σ l) own = wipe σ own
  | [], _ => rfl
  | i :: l, h => by
    show wipe ((wipe σ l).set i none) own = _
    rw [wipe_set (h i List.mem_cons_self)]
    exact wipe_sub l fun j hj => h j (List.mem_cons_of_mem _ hj)
theorem wipe_wipe {σ : L2.St} {own : List Nat} : wipe (wipe σ own) own = wipe σ own := wipe_sub own fun _ h => h
section
variable {X : Cx} {pos : Pos} {own : List Nat}
theorem jgo_name (i : Nat) {x : Str} (hN : X.N.Nodup) (ho : i ∈ own := by decide) (hi : X.N[i]? = some x := by rfl) (hx : Loc X.env.scope x := by first | exact Or.inl rfl | exact Or.inr rfl) (hf : X.fn x = true ∨ X.env.scope.names.lookup x = some .local := by first | exact .inl rfl | exact .inr rfl | assumption) : PG X (.Name x pos) (tGo X.K (pName i) own) :=
  pg_imp (pg_name hN hi hx hf) fun v σ H Q ⟨G, ρ, env, d, hE, hd, h⟩ => h _ (hE.set hd) (wipe_set ho)
end
open Classical in
noncomputable def compD (p : Pat) (mt : M Bool) (me : M D) (chk : Store → Prop) (env : En) : List D → Store → Res (List D)
  | [], S => if chk S then .ok [] S else .bad
  | d :: ds, S => if chk S then (match p d env with
    | none => .bad
    | some e1 => match mt e1 S with
      | .ok true S1 => (match me e1 S1 with
        | .ok x S2 => (compD p mt me chk env ds S2).bind fun xs S3 => .ok (x :: xs) S3
        | _ => .bad)
      | .ok false S1 => compD p mt me chk env ds S1
      | _ => .bad) else .bad
noncomputable def fComp (mi : M IT) (p : Pat) (mt : M Bool) (me : M D) (own : List Nat) : M (List D) := fun env S => (mi env S).bind fun t S1 => if t.ds.length ≤ big then compD p mt me t.chk (clr env own) t.ds S1 else .bad
abbrev W0 : WX := fun _ _ _ _ => False
theorem clr_wipe_rel {K : PySem.W.Frag} {G : Addr → Prop} {ρ : List Addr} {H : Hp} {env : En} {σ : L2.St} (r : RelE K G ρ H env σ) : ∀ own : List Nat, RelE K G ρ H (clr env own) (wipe σ own)
  | [] => r
  | i :: own => by
    have q := clr_wipe_rel r own
    refine ⟨by rw [clr_length, wipe_length]; exact r.len, fun j d e => ?_⟩
    unfold clr at e
    unfold wipe
    by_cases hj : j = i
    · subst hj
      have hl : j < ((clr env own).set j none).length := (List.getElem?_eq_some_iff.mp e).1
      rw [List.length_set] at hl
      rw [List.getElem?_set_self hl] at e
      cases e
    · rw [List.getElem?_set_ne (Ne.symm hj)] at e
      obtain ⟨v, h1, h2⟩ := q.get j d e
      exact ⟨v, by rw [List.getElem?_set_ne (Ne.symm hj)]; exact h1, h2⟩
section
variable {X : Cx} {elt tg iter : Expr} {pos : Pos} {cA : Nat → Addr} {W : WX}
theorem comp_read {K : PySem.W.Frag} {mi : M IT} {p : Pat} {mt : M Bool} {me : M D} {own : List Nat} : ∀ σ H Q, tFr K cA W (fComp mi p mt me own) σ H Q → tLc (tI K cA W mi) (tGo K p own) (tT K cA W0 mt) (tE K cA W0 me) own σ H Q := by
  rintro σ H Q ⟨G, ρ, env, S, hE, hS, h⟩
  refine ⟨G, ρ, env, S, hE, hS, OkF.bind h fun t S1 J ρ1 H1 r1 wd k1 h1 => ?_⟩
  intro dA hdA
  have ng : ¬ G dA := r1.ngn hdA
  by_cases hbig : t.ds.length ≤ big
  · rw [if_pos hbig] at h1
    have hE1 : RelE K G ρ1 H1 (clr env own) (wipe σ own) := clr_wipe_rel (hE.keep k1) own
    let P : Nat → Hp → Prop := fun i H' => ∃ ρ' S' acc vs, RelS K G ρ' S' (era H' dA) ∧ Keep G ρ1 H1 ρ' (era H' dA) ∧ H' dA = some (.lst vs) ∧ RepL K G ρ' (era H' dA) acc vs ∧ acc.length ≤ i ∧
      OkF K G ρ' (era H' dA) ((compD p mt me t.chk (clr env own) (t.ds.drop i) S').bind fun xs S3 => .ok (acc ++ xs) S3) (WE' cA W σ) Q
    refine ⟨fun i m H' => m = t.ds.length - i ∧ i ≤ t.ds.length ∧ P i H', ⟨t.ds.length, rfl, Nat.zero_le _, ρ1, S1, [], [], ?_, ?_, upd_same, rfl, Nat.le_refl _, ?_⟩, ?_⟩
    · rw [era_upd, era_none hdA]; exact r1
    · rw [era_upd, era_none hdA]; exact Keep.refl
    · rw [era_upd, era_none hdA]
      have e : (compD p mt me t.chk (clr env own) t.ds S1).bind (fun xs S3 => Res.ok ([] ++ xs) S3) = compD p mt me t.chk (clr env own) t.ds S1 := by
        cases compD p mt me t.chk (clr env own) t.ds S1 <;> rfl
      show OkF K G ρ1 H1 ((compD p mt me t.chk (clr env own) t.ds S1).bind fun xs S3 => .ok ([] ++ xs) S3) (WE' cA W σ) Q
      rw [e]
      exact h1
    · rintro i m H' ⟨rfl, hi, ρ2, S2, acc, vs, r2, k2, hD, ra, hacc, h2⟩
      have ru : RelS K (gAnd G dA) ρ2 S2 H' := r2.up hD
      have ku : Keep2 G ρ1 H1 (gAnd G dA) ρ2 H' := by
        refine ⟨k2.pre, fun a xs q => (up2 (G := G) (ρ := ρ2) hD).tup a xs (k2.tup a xs q), fun a xs q1 q2 q3 => ?_, fun a o u q => (up2 (G := G) (ρ := ρ2) hD).frz a o u (k2.frz a o u q)⟩
        obtain ⟨z1, z2⟩ := k2.lst a xs q1 q2 q3
        exact (up2 (G := G) (ρ := ρ2) hD).lst a xs z1 q2 z2
      by_cases hlt : i < t.ds.length
      · have hd : t.ds.drop i = t.ds[i] :: t.ds.drop (i + 1) := (List.getElem_cons_drop hlt).symm
        rw [hd] at h2
        unfold compD at h2
        by_cases hch : t.chk S2
        · rw [if_pos hch] at h2
          refine .inr ⟨wd.go (gAnd G dA) ρ2 S2 H' i ku ru hch hlt, P (i + 1), fun H3 q => ⟨t.ds.length - (i + 1), by omega, rfl, hlt, q⟩, fun x H3 hy => ?_⟩
          obtain ⟨x3, k3, r3⟩ := wd.yld (gAnd G dA) ρ2 S2 H' i t.ds[i] x H3 ku ru hch (by rw [List.getElem?_eq_getElem hlt]) hy
          have eu : RelE K (gAnd G dA) ρ2 H3 (clr env own) (wipe σ own) := ((hE1.keep k2).keep2 (up2 hD)).keep k3
          refine ⟨gAnd G dA, ρ2, clr env own, t.ds[i], eu, x3, ?_⟩
          have hD3 : H3 dA = some (.lst vs) := by rw [k3.grd dA (.inr rfl)]; exact hD
          revert h2
          cases p t.ds[i] (clr env own) with
          | none => exact fun h => h
          | some en1 =>
            intro h2 σ3 e3 w3
            refine ⟨by rw [w3, wipe_wipe], gAnd G dA, ρ2, en1, S2, e3, r3, ?_⟩
            revert h2
            dsimp only
            cases mt en1 S2 with
            | bad => exact fun h => h
            | err c S4 => exact fun h => h.elim
            | ok b S4 =>
              intro h2 b' ρ4 H4 r4 eb k4
              cases (show b' = b from eb)
              have hD4 : H4 dA = some (.lst vs) := by rw [k4.grd dA (.inr rfl)]; exact hD3
              have kk4 : Keep (gAnd G dA) ρ2 H' ρ4 H4 := k3.trans k4
              have kd4 := kk4.down hD ng
              cases b with
              | false =>
                refine iteF ⟨ρ4, S4, acc, vs, r4.down hD4 ng, k2.trans kd4, hD4, RepL.keep kd4 _ _ ra, by omega, h2.keep kd4⟩
              | true =>
                refine iteT ⟨gAnd G dA, ρ4, en1, S4, e3.keep k4, r4, ?_⟩
                revert h2
                dsimp only
                cases me en1 S4 with
                | bad => exact fun h => h
                | err c S5 => exact fun h => h.elim
                | ok y S5 =>
                  intro h2 v ρ5 H5 r5 x5 k5
                  have hD5 : H5 dA = some (.lst vs) := by rw [k5.grd dA (.inr rfl)]; exact hD4
                  have kd5 := (kk4.trans k5).down hD ng
                  refine ⟨vs, hD5, ?_, ρ5, S5, acc ++ [y], vs ++ [v], ?_, ?_, upd_same, ?_, by simp; omega, ?_⟩
                  · have := ra.length
                    exact big_lt (by omega)
                  · rw [era_upd]; exact r5.down hD5 ng
                  · rw [era_upd]; exact k2.trans kd5
                  · rw [era_upd]
                    exact (RepL.keep kd5 _ _ ra).snoc (Rep.keep2 (down2 hD5) y v x5)
                  · rw [era_upd]
                    refine OkF.keep kd5 ?_
                    have e : ((compD p mt me t.chk (clr env own) (t.ds.drop (i + 1)) S5).bind fun xs S3 => Res.ok (y :: xs) S3).bind (fun xs S3 => Res.ok (acc ++ xs) S3) = (compD p mt me t.chk (clr env own) (t.ds.drop (i + 1)) S5).bind fun xs S3 => .ok (acc ++ [y] ++ xs) S3 := by
                      cases compD p mt me t.chk (clr env own) (t.ds.drop (i + 1)) S5 <;> simp [Res.bind]
                    rw [← e]
                    exact h2
        · rw [if_neg hch] at h2
          exact h2.elim
      · have e : i = t.ds.length := by omega
        subst e
        rw [List.drop_length] at h2
        unfold compD at h2
        by_cases hch : t.chk S2
        · rw [if_pos hch] at h2
          refine .inl ⟨wd.stop (gAnd G dA) ρ2 S2 H' ku ru hch, ?_⟩
          have q := h2 dA vs ρ2 (era H' dA) r2 (by rw [List.append_nil]; exact ra) Keep.refl era_same
          rw [upd_era hD] at q
          exact q
        · rw [if_neg hch] at h2
          exact h2.elim
  · rw [if_neg hbig] at h1
    exact h1.elim
theorem pts_imp {ifs : List Expr} {t t' : TT} (h : PTs X ifs t) (i : ∀ σ H Q, t' σ H Q → t σ H Q) : PTs X ifs t' := ⟨fun pins s σ H Q I hw => h.run pins s σ H Q I (i σ H Q hw)⟩
def tYes' : M Bool := fun _ S => .ok true S
theorem jts_nil : PTs X [] (tT X.K cA W tYes') := pts_imp pts_nil fun _ _ _ ⟨_, _, _, _, _, hS, h⟩ => h.now hS rfl
theorem jf_lc {ifs : List Expr} {scope : Scope} (own : List (Str × Nat)) {mi : M IT} {p : Pat} {mt : M Bool} {me : M D} (hc : X.calm = true) (hN : X.N.Nodup) (hi : PI X tg iter (tI X.K cA W mi)) (ok : BlkOk X.N X.env.scope scope own)
    (hg : ∀ (s : Shared) (H : Hp) (C : Addr) (cl : List (Str × Addr)) (fp : List Addr), PG (X.blk s H scope (compEnvC scope cl C X.env) fp) tg (tGo X.K p (own.map (·.2)))) (ht : ∀ (s : Shared) (H : Hp) (C : Addr) (cl : List (Str × Addr)) (fp : List Addr), PTs (X.blk s H scope (compEnvC scope cl C X.env) fp) ifs (tT X.K cA W0 mt))
    (he : ∀ (s : Shared) (H : Hp) (C : Addr) (cl : List (Str × Addr)) (fp : List Addr), PE (X.blk s H scope (compEnvC scope cl C X.env) fp) elt (tE X.K cA W0 me)) (hs : ∀ x, foldedSetIterable iter X.env x = pure x := by intro _; rfl) :
    PE X (.ListComp elt [⟨tg, iter, ifs, 0⟩] scope pos) (tFr X.K cA W (fComp mi p mt me (own.map (·.2)))) :=
  pe_imp (pe_lc hc hN hi ok hg ht he hs) comp_read
end
end Rf

namespace Rf
open PySem PySem.Spec PyProof.Rows L2

mutual
def py : D → PyData
  | .non => .none
  | .bl b => .bool b
  | .int i => .int i
  | .str x => .str x
  | .ty _ => .none
  | .exc _ => .none
  | .cl _ => .none
  | .dct _ _ _ => .none
  | .tup ds => .tuple (pyL ds)
  | .lst ds => .list (pyL ds)
  | .fz ds => .list (pyL ds)
  | .cell _ => .none
def pyL : List D → List PyData
  | [] => []
  | d :: ds => py d :: pyL ds
end
theorem pyL_map : ∀ ds : List D, pyL ds = ds.map py
  | [] => rfl
  | d :: ds => by unfold pyL; rw [pyL_map ds]; rfl
def shD : Nat → D → Bool
  | _, .non | _, .bl _ | _, .int _ => true
  | _, .str x => PyData.strOk x
  | n + 1, .tup ds => ds.all (shD n)
  | n + 1, .lst ds => ds.all (shD n)
  | n + 1, .fz ds => ds.all (shD n)
  | _, _ => false
theorem lay_all {ps : List PyData} (h : ∀ p ∈ ps, p.canLay0 = true) : PyData.canLayAll0 ps = true := by
  induction ps with
  | nil => rfl
  | cons p r ih =>
    unfold PyData.canLayAll0
    rw [h p List.mem_cons_self, ih fun q hq => h q (List.mem_cons_of_mem _ hq)]
    rfl
theorem depth_all {n : Nat} {ps : List PyData} (h : ∀ p ∈ ps, p.depth ≤ n) : PyData.depthAll ps ≤ n := by
  induction ps with
  | nil => unfold PyData.depthAll; exact Nat.zero_le _
  | cons p r ih =>
    unfold PyData.depthAll
    exact Nat.max_le.mpr ⟨h p List.mem_cons_self, ih fun q hq => h q (List.mem_cons_of_mem _ hq)⟩
theorem shD_ok : ∀ (n : Nat) (d : D), shD n d = true → (py d).canLay0 = true ∧ (py d).depth ≤ n
  | _, .non, _ => ⟨rfl, Nat.zero_le _⟩
  | _, .bl _, _ => ⟨rfl, Nat.zero_le _⟩
  | _, .int _, _ => ⟨rfl, Nat.zero_le _⟩
  | 0, .str x, h => ⟨by simpa [py, PyData.canLay0, shD] using h, by simp [py, PyData.depth]⟩
  | n + 1, .str x, h => ⟨by simpa [py, PyData.canLay0, shD] using h, by simp [py, PyData.depth]⟩
  | 0, .ty _, h => by simp [shD] at h
  | 0, .exc _, h => by simp [shD] at h
  | 0, .cl _, h => by simp [shD] at h
  | 0, .dct _ _ _, h => by simp [shD] at h
  | n + 1, .dct _ _ _, h => by simp [shD] at h
  | n + 1, .ty _, h => by simp [shD] at h
  | n + 1, .exc _, h => by simp [shD] at h
  | n + 1, .cl _, h => by simp [shD] at h
  | 0, .cell _, h => by simp [shD] at h
  | n + 1, .cell _, h => by simp [shD] at h
  | 0, .tup ds, h => by simp [shD] at h
  | 0, .lst ds, h => by simp [shD] at h
  | 0, .fz ds, h => by simp [shD] at h
  | n + 1, .tup ds, h => by
    have h : ds.all (shD n) = true := h
    have k : ∀ p ∈ pyL ds, p.canLay0 = true ∧ p.depth ≤ n := fun p hp => by
      rw [pyL_map] at hp
      obtain ⟨d, hd, rfl⟩ := List.mem_map.mp hp
      exact shD_ok n d (List.all_eq_true.mp h d hd)
    refine ⟨by unfold py PyData.canLay0; exact lay_all fun p hp => (k p hp).1, ?_⟩
    unfold py PyData.depth
    exact Nat.succ_le_succ (depth_all fun p hp => (k p hp).2)
  | n + 1, .lst ds, h => by
    have h : ds.all (shD n) = true := h
    have k : ∀ p ∈ pyL ds, p.canLay0 = true ∧ p.depth ≤ n := fun p hp => by
      rw [pyL_map] at hp
      obtain ⟨d, hd, rfl⟩ := List.mem_map.mp hp
      exact shD_ok n d (List.all_eq_true.mp h d hd)
    refine ⟨by unfold py PyData.canLay0; exact lay_all fun p hp => (k p hp).1, ?_⟩
    unfold py PyData.depth
    exact Nat.succ_le_succ (depth_all fun p hp => (k p hp).2)
  | n + 1, .fz ds, h => by
    have h : ds.all (shD n) = true := h
    have k : ∀ p ∈ pyL ds, p.canLay0 = true ∧ p.depth ≤ n := fun p hp => by
      rw [pyL_map] at hp
      obtain ⟨d, hd, rfl⟩ := List.mem_map.mp hp
      exact shD_ok n d (List.all_eq_true.mp h d hd)
    refine ⟨by unfold py PyData.canLay0; exact lay_all fun p hp => (k p hp).1, ?_⟩
    unfold py PyData.depth
    exact Nat.succ_le_succ (depth_all fun p hp => (k p hp).2)
def dpt : Nat := 12
theorem shaped_of {d : D} (h : shD dpt d = true) : SeqAt.shaped (py d) = true := by
  obtain ⟨h1, h2⟩ := shD_ok dpt d h
  unfold SeqAt.shaped
  rw [h1, decide_eq_true (Nat.le_trans h2 (by decide))]
  rfl
section
variable {K : PySem.W.Frag} {G : Addr → Prop} {ρ : List Addr} {H : Hp}
theorem rep_dpL {n : Nat} (ih : ∀ (d : D) (v : V), shD n d = true → Rep K G ρ H d v → Dp K H v (py d)) : ∀ (ds : List D) (vs : List V), ds.all (shD n) = true → RepL K G ρ H ds vs → DpAll K H vs (pyL ds)
  | [], vs, _, h => by rw [show vs = [] from h]; exact .nil
  | d :: ds, vs, hs, h => by
    obtain ⟨v, vs', rfl, h1, h2⟩ := h
    rw [List.all_cons, Bool.and_eq_true] at hs
    exact .cons (ih d v hs.1 h1) (rep_dpL ih ds vs' hs.2 h2)
theorem rep_dp : ∀ (n : Nat) (d : D) (v : V), shD n d = true → Rep K G ρ H d v → Dp K H v (py d)
  | _, .non, v, _, h => by rw [show v = .non from h]; exact .non
  | _, .bl b, v, _, h => by rw [show v = .bl b from h]; exact .bl b
  | _, .int i, v, _, h => by rw [show v = .int i from h]; exact .int i
  | _, .str x, v, _, h => by rw [show v = .str x from h]; exact .str x
  | 0, .ty _, _, h, _ => by simp [shD] at h
  | 0, .exc _, _, h, _ => by simp [shD] at h
  | 0, .cl _, _, h, _ => by simp [shD] at h
  | 0, .dct _ _ _, _, h, _ => by simp [shD] at h
  | n + 1, .dct _ _ _, _, h, _ => by simp [shD] at h
  | n + 1, .ty _, _, h, _ => by simp [shD] at h
  | n + 1, .exc _, _, h, _ => by simp [shD] at h
  | n + 1, .cl _, _, h, _ => by simp [shD] at h
  | 0, .cell _, _, h, _ => by simp [shD] at h
  | n + 1, .cell _, _, h, _ => by simp [shD] at h
  | 0, .tup ds, _, h, _ => by simp [shD] at h
  | 0, .lst ds, _, h, _ => by simp [shD] at h
  | 0, .fz ds, _, h, _ => by simp [shD] at h
  | n + 1, .tup ds, v, hs, h => by
    obtain ⟨a, vs, rfl, h1, h2⟩ := h
    exact .tup (.inl h1) (rep_dpL (rep_dp n) ds vs hs h2)
  | n + 1, .lst ds, v, hs, h => by
    obtain ⟨a, vs, rfl, h1, h2⟩ := h
    exact .lst h1.sq (rep_dpL (rep_dp n) ds vs hs h2)
  | n + 1, .fz ds, v, hs, h => by
    obtain ⟨a, vs, rfl, h1, h2⟩ := h
    exact .lst h1.sq (rep_dpL (rep_dp n) ds vs hs h2)
end
def val (S : Store) : D → D
  | .cell n => match S[n]? with
    | some (.lst ds) => .lst ds
    | _ => .cell n
  | d => d
theorem rep_val {K : PySem.W.Frag} {G : Addr → Prop} {ρ : List Addr} {H : Hp} {S : Store} {d : D} {v : V} (r : RelS K G ρ S H) (h : Rep K G ρ H d v) (hs : shD dpt (val S d) = true) : Dp K H v (py (val S d)) := by
  cases d with
  | cell n =>
    unfold val at hs ⊢
    dsimp only at hs ⊢
    cases e : S[n]? with
    | none => rw [e] at hs; simp [shD, dpt] at hs
    | some o =>
      rw [e] at hs
      cases o with
      | dK kvs => simp [shD, dpt] at hs
      | dI kvs => simp [shD, dpt] at hs
      | ins _ _ => simp [shD, dpt] at hs
      | dS _ => simp [shD, dpt] at hs
      | gone => simp [shD, dpt] at hs
      | lst ds =>
        obtain ⟨a, rfl, ha⟩ := h
        obtain ⟨vs, h1, h2⟩ := r.ob n _ a e ha
        exact .lst (.of h1) (rep_dpL (rep_dp 11) ds vs hs h2)
  | _ => exact rep_dp dpt _ v hs h
def dEq (d e : D) (S : Store) : Res D := match d, e with
  | .int i, .int j => .ok (.bl (decide (i = j))) S
  | .bl i, .bl j => .ok (.bl (decide (i = j))) S
  | d, e => if shD dpt (val S d) = true ∧ shD dpt (val S e) = true then .ok (.bl (PyData.eqv (py (val S d)) (py (val S e)))) S else .bad
def dNe (d e : D) (S : Store) : Res D := match d, e with
  | .int i, .int j => .ok (.bl (!decide (i = j))) S
  | .bl i, .bl j => .ok (.bl (!decide (i = j))) S
  | d, e => if shD dpt (val S d) = true ∧ shD dpt (val S e) = true then .ok (.bl (!PyData.eqv (py (val S d)) (py (val S e)))) S else .bad
theorem eqv_int (i j : Int) : PyData.eqv (.int i) (.int j) = decide (i = j) := by
  unfold PyData.eqv
  by_cases h : i = j
  · rw [decide_eq_true h, h]; simp
  · rw [decide_eq_false h]; simpa using h
theorem eqv_bl (i j : Bool) : PyData.eqv (.bool i) (.bool j) = decide (i = j) := by
  unfold PyData.eqv
  cases i <;> cases j <;> rfl
theorem od_eq {K : PySem.W.Frag} : OpD K (rEqD K) dEq := by
  intro G ρ H S d1 d2 v1 v2 E Q r x1 x2 h
  have gen : (if shD dpt (val S d1) = true ∧ shD dpt (val S d2) = true then Res.ok (D.bl (PyData.eqv (py (val S d1)) (py (val S d2)))) S else Res.bad) = dEq d1 d2 S → rEqD K v1 v2 H Q := fun e => by
    rw [← e] at h
    by_cases hs : shD dpt (val S d1) = true ∧ shD dpt (val S d2) = true
    · rw [if_pos hs] at h
      exact ⟨_, _, rep_val r x1 hs.1, rep_val r x2 hs.2, shaped_of hs.1, shaped_of hs.2, h.now r rfl⟩
    · rw [if_neg hs] at h
      exact h.elim
  refine gen ?_
  cases d1 <;> cases d2 <;> first
    | rfl
    | (rename_i i j; rw [if_pos ⟨rfl, rfl⟩]; show Res.ok (D.bl (PyData.eqv (.int i) (.int j))) S = Res.ok (D.bl (decide (i = j))) S; rw [eqv_int])
    | (rename_i i j; rw [if_pos ⟨rfl, rfl⟩]; show Res.ok (D.bl (PyData.eqv (.bool i) (.bool j))) S = Res.ok (D.bl (decide (i = j))) S; rw [eqv_bl])
theorem od_ne {K : PySem.W.Frag} : OpD K (rNeD K) dNe := by
  intro G ρ H S d1 d2 v1 v2 E Q r x1 x2 h
  have gen : (if shD dpt (val S d1) = true ∧ shD dpt (val S d2) = true then Res.ok (D.bl (!PyData.eqv (py (val S d1)) (py (val S d2)))) S else Res.bad) = dNe d1 d2 S → rNeD K v1 v2 H Q := fun e => by
    rw [← e] at h
    by_cases hs : shD dpt (val S d1) = true ∧ shD dpt (val S d2) = true
    · rw [if_pos hs] at h
      exact ⟨_, _, rep_val r x1 hs.1, rep_val r x2 hs.2, shaped_of hs.1, shaped_of hs.2, h.now r rfl⟩
    · rw [if_neg hs] at h
      exact h.elim
  refine gen ?_
  cases d1 <;> cases d2 <;> first
    | rfl
    | (rename_i i j; rw [if_pos ⟨rfl, rfl⟩]; show Res.ok (D.bl (!PyData.eqv (.int i) (.int j))) S = Res.ok (D.bl (!decide (i = j))) S; rw [eqv_int])
    | (rename_i i j; rw [if_pos ⟨rfl, rfl⟩]; show Res.ok (D.bl (!PyData.eqv (.bool i) (.bool j))) S = Res.ok (D.bl (!decide (i = j))) S; rw [eqv_bl])
def rInU (K : PySem.W.Frag) (neg : Bool) : R2 := fun x y H Q => ∃ d ds b, Dp K H x d ∧ Dp K H y (if b = true then .list ds else .tuple ds) ∧ SeqAt.shaped d = true ∧ SeqAt.shaped (if b = true then PyData.list ds else .tuple ds) = true ∧ Q (.bl (if neg then !(ds.any fun z => PyData.eqv z d) else ds.any fun z => PyData.eqv z d)) H
section
variable {X : Cx}
theorem op_inU (hu : X.A.units + 65 < cLine) : OpR X (compareOp .In) (rInU X.K false) := by
  intro pins s σ H x y v u Q I rx ry h
  obtain ⟨d, ds, b, hd, he, sd, se, q⟩ := h
  obtain ⟨as, r1⟩ := Dp.reads I d x v hd rx
  obtain ⟨bs, r2⟩ := Dp.reads I _ y u he ry
  cases b with
  | true => exact SeqAt.in_list_reads r2 r1 (SeqAt.canLay_of_shaped se) (SeqAt.canLay_of_shaped sd) (room_in_shaped sd hu) ⟨.bl _, H, I, rfl, q⟩
  | false => exact SeqAt.in_tuple_reads r2 r1 (SeqAt.canLay_of_shaped se) (SeqAt.canLay_of_shaped sd) (room_in_shaped sd hu) ⟨.bl _, H, I, rfl, q⟩
theorem op_notInU (hu : X.A.units + 65 < cLine) : OpR X (compareOp .NotIn) (rInU X.K true) := by
  intro pins s σ H x y v u Q I rx ry h
  obtain ⟨d, ds, b, hd, he, sd, se, q⟩ := h
  obtain ⟨as, r1⟩ := Dp.reads I d x v hd rx
  obtain ⟨bs, r2⟩ := Dp.reads I _ y u he ry
  cases b with
  | true => exact SeqAt.notIn_list_reads r2 r1 (SeqAt.canLay_of_shaped se) (SeqAt.canLay_of_shaped sd) (room_in_shaped sd hu) ⟨.bl _, H, I, rfl, q⟩
  | false => exact SeqAt.notIn_tuple_reads r2 r1 (SeqAt.canLay_of_shaped se) (SeqAt.canLay_of_shaped sd) (room_in_shaped sd hu) ⟨.bl _, H, I, rfl, q⟩
end
def isIn (d : D) (ds : List D) : Bool := ds.any fun z => PyData.eqv (py z) (py d)
def dInG (neg : Bool) (d e : D) (S : Store) : Res D := match val S e with
  | .tup ds => if shD dpt (val S d) = true ∧ ds.all (shD 11) = true then .ok (.bl (if neg then !isIn (val S d) ds else isIn (val S d) ds)) S else .bad
  | .lst ds => if shD dpt (val S d) = true ∧ ds.all (shD 11) = true then .ok (.bl (if neg then !isIn (val S d) ds else isIn (val S d) ds)) S else .bad
  | .fz ds => if shD dpt (val S d) = true ∧ ds.all (shD 11) = true then .ok (.bl (if neg then !isIn (val S d) ds else isIn (val S d) ds)) S else .bad
  | _ => .bad
theorem any_pyL (d : PyData) : ∀ ds : List D, ((pyL ds).any fun z => PyData.eqv z d) = ds.any fun z => PyData.eqv (py z) d
  | [] => rfl
  | x :: ds => by unfold pyL; rw [List.any_cons, List.any_cons, any_pyL d ds]
theorem od_in {K : PySem.W.Frag} {neg : Bool} : OpD K (rInU K neg) (dInG neg) := by
  intro G ρ H S d1 d2 v1 v2 E Q r x1 x2 h
  have key : ∀ ds (b : Bool), py (val S d2) = (if b = true then PyData.list (pyL ds) else .tuple (pyL ds)) → shD dpt (val S d2) = ds.all (shD 11) →
      (Ok K G (Rep K G) ρ H (if shD dpt (val S d1) = true ∧ ds.all (shD 11) = true then .ok (.bl (if neg then !isIn (val S d1) ds else isIn (val S d1) ds)) S else .bad) E Q) → rInU K neg v1 v2 H Q := fun ds b e1 e2 h => by
    by_cases hs : shD dpt (val S d1) = true ∧ ds.all (shD 11) = true
    · rw [if_pos hs] at h
      have hs2 : shD dpt (val S d2) = true := by rw [e2]; exact hs.2
      refine ⟨_, pyL ds, b, rep_val r x1 hs.1, by rw [← e1]; exact rep_val r x2 hs2, shaped_of hs.1, by rw [← e1]; exact shaped_of hs2, ?_⟩
      rw [any_pyL]
      exact h.now r rfl
    · rw [if_neg hs] at h
      exact h.elim
  unfold dInG at h
  revert h
  cases e : val S d2 with
  | tup ds => exact key ds false (by rw [e]; rfl) (by rw [e]; rfl)
  | lst ds => exact key ds true (by rw [e]; rfl) (by rw [e]; rfl)
  | fz ds => exact key ds true (by rw [e]; rfl) (by rw [e]; rfl)
  | _ => exact fun h => h.elim
def i2 (f : Int → Int → D) (C : Int → Int → Bool) (d e : D) (S : Store) : Res D := match d, e with
  | .int i, .int j => if C i j = true then .ok (f i j) S else .bad
  | _, _ => .bad
def cT : Int → Int → Bool := fun _ _ => true
theorem od_i0 {K : PySem.W.Frag} {g : Int → Int → V} {f : Int → Int → D} (hf : ∀ G ρ H i j, Rep K G ρ H (f i j) (g i j)) : OpD K (rI0 g) (i2 f cT) := by
  intro G ρ H S d1 d2 v1 v2 E Q r x1 x2 h
  cases d1 with
  | int i =>
    cases d2 with
    | int j => exact ⟨i, j, x1, x2, Ok.now (a := f i j) h r (hf _ _ _ _ _)⟩
    | _ => exact h.elim
  | _ => exact h.elim
theorem od_i {K : PySem.W.Frag} {P : Int → Int → Prop} {C : Int → Int → Bool} {g : Int → Int → V} {f : Int → Int → D} (hC : ∀ i j, C i j = true → P i j) (hf : ∀ G ρ H i j, Rep K G ρ H (f i j) (g i j)) : OpD K (rI P g) (i2 f C) := by
  intro G ρ H S d1 d2 v1 v2 E Q r x1 x2 h
  cases d1 with
  | int i =>
    cases d2 with
    | int j =>
      have h : Ok K G (Rep K G) ρ H (if C i j = true then .ok (f i j) S else .bad) E Q := h
      by_cases hc : C i j = true
      · rw [if_pos hc] at h
        exact ⟨i, j, x1, x2, hC i j hc, h.now r (hf _ _ _ _ _)⟩
      · rw [if_neg hc] at h; exact h.elim
    | _ => exact h.elim
  | _ => exact h.elim
def dSub := i2 (fun i j => .int (i - j)) cT
instance (i j : Int) : Decidable (CMul i j) := by unfold CMul; infer_instance
instance (i j : Int) : Decidable (CDiv i j) := by unfold CDiv; infer_instance
def WMul (i j : Int) : Prop := CMul i j ∨ CMulW i j
def WDiv (i j : Int) : Prop := 0 < j ∧ (j < 1073741824 ∨ j.natAbs.log2 < 9000)
instance (i j : Int) : Decidable (CMulW i j) := by unfold CMulW; infer_instance
instance (i j : Int) : Decidable (WMul i j) := by unfold WMul; infer_instance
instance (i j : Int) : Decidable (WDiv i j) := by unfold WDiv; infer_instance
theorem op_mulY {X : Cx} : OpR X (binaryOp .Mult) (rI WMul fun i j => .int (i * j)) := by
  intro pins s σ H x y v u Q I rx ry h
  obtain ⟨i, j, e1, e2, hc, q⟩ := h
  rcases hc with hc | hc
  · exact op_mul pins s σ H x y v u Q I rx ry ⟨i, j, e1, e2, hc, q⟩
  · exact op_mulW pins s σ H x y v u Q I rx ry ⟨i, j, e1, e2, hc, q⟩
theorem op_fdivY {X : Cx} : OpR X (binaryOp .FloorDiv) (rI WDiv fun i j => .int (i / j)) := by
  intro pins s σ H x y v u Q I rx ry h
  obtain ⟨i, j, e1, e2, ⟨h0, hc⟩, q⟩ := h
  rcases hc with hc | hc
  · exact op_fdiv pins s σ H x y v u Q I rx ry ⟨i, j, e1, e2, ⟨h0, hc⟩, q⟩
  · exact op_fdivW pins s σ H x y v u Q I rx ry ⟨i, j, e1, e2, ⟨h0, hc⟩, q⟩
instance (i j : Int) : Decidable (CPow i j) := by unfold CPow; infer_instance
def dMulI := i2 (fun i j => .int (i * j)) fun i j => decide (WMul i j)
def dFdiv := i2 (fun i j => .int (i / j)) fun i j => decide (WDiv i j)
def dMod := i2 (fun i j => .int (i % j)) fun i j => decide (0 < j)
def dPow := i2 (fun i j => .int (i ^ j.toNat)) fun i j => decide (CPow i j)
def dGt := i2 (fun i j => .bl (decide (j < i))) cT
def dGe := i2 (fun i j => .bl (decide (j ≤ i))) cT
def dNeg (d : D) (S : Store) : Res D := match d with
  | .int i => .ok (.int (-i)) S
  | _ => .bad
section
variable {K : PySem.W.Frag}
theorem od_sub : OpD K (rI0 fun i j => .int (i - j)) dSub := od_i0 fun _ _ _ _ _ => rfl
theorem od_mulI : OpD K (rI WMul fun i j => .int (i * j)) dMulI := od_i (fun _ _ h => of_decide_eq_true h) fun _ _ _ _ _ => rfl
theorem od_fdiv : OpD K (rI WDiv fun i j => .int (i / j)) dFdiv := od_i (fun _ _ h => of_decide_eq_true h) fun _ _ _ _ _ => rfl
theorem od_mod : OpD K (rI (fun _ j => 0 < j) fun i j => .int (i % j)) dMod := od_i (fun _ _ h => of_decide_eq_true h) fun _ _ _ _ _ => rfl
theorem od_pow : OpD K (rI CPow fun i j => .int (i ^ j.toNat)) dPow := od_i (fun _ _ h => of_decide_eq_true h) fun _ _ _ _ _ => rfl
theorem od_gt : OpD K (rI0 fun i j => .bl (decide (j < i))) dGt := od_i0 fun _ _ _ _ _ => rfl
theorem od_ge : OpD K (rI0 fun i j => .bl (decide (j ≤ i))) dGe := od_i0 fun _ _ _ _ _ => rfl
theorem ud_neg : UnD K (rU fun i => .int (-i)) dNeg := by
  intro G ρ H S d v E Q r x h
  cases d with
  | int i => exact ⟨i, x, h.now r rfl⟩
  | _ => exact h.elim
end
theorem OpD.or {K : PySem.W.Frag} {r r' : R2} {f f' : D → D → Store → Res D} (h : OpD K r f) (h' : OpD K r' f') (g : D → D → Store → Res D) (hg : ∀ d e S, g d e S = f d e S ∨ g d e S = f' d e S) : OpD K (fun x y H Q => r x y H Q ∨ r' x y H Q) g := by
  intro G ρ H S d1 d2 v1 v2 E Q hr x1 x2 q
  rcases hg d1 d2 S with e | e
  · rw [e] at q; exact .inl (h G ρ H S d1 d2 v1 v2 E Q hr x1 x2 q)
  · rw [e] at q; exact .inr (h' G ρ H S d1 d2 v1 v2 E Q hr x1 x2 q)
def lstOf (S : Store) : D → Option (List D)
  | .lst ds => some ds
  | .cell n => match S[n]? with
    | some (.lst ds) => some ds
    | _ => none
  | _ => none
def dAddI := i2 (fun i j => .int (i + j)) cT
def dCatT (d e : D) (S : Store) : Res D := match d, e with
  | .tup xs, .tup ys => if xs.length + ys.length ≤ big then .ok (.tup (xs ++ ys)) S else .bad
  | _, _ => .bad
def dCatL (d e : D) (S : Store) : Res D := match lstOf S d, lstOf S e with
  | some xs, some ys => if xs.length + ys.length ≤ big then .ok (.lst (xs ++ ys)) S else .bad
  | _, _ => .bad
def dAdd (d e : D) (S : Store) : Res D := match d, e with
  | .int i, .int j => .ok (.int (i + j)) S
  | .tup xs, .tup ys => if xs.length + ys.length ≤ big then .ok (.tup (xs ++ ys)) S else .bad
  | d, e => dCatL d e S
section
variable {K : PySem.W.Frag} {G : Addr → Prop} {ρ : List Addr} {H : Hp} {S : Store}
theorem rep_lst (r : RelS K G ρ S H) {d : D} {v : V} {ds : List D} (h : Rep K G ρ H d v) (e : lstOf S d = some ds) : ∃ a vs, v = .ref a ∧ H a = some (.lst vs) ∧ RepL K G ρ H ds vs := by
  cases d with
  | lst ds' =>
    cases e
    obtain ⟨a, vs, rfl, h1, h2⟩ := h
    exact ⟨a, vs, rfl, h1.2.2, h2⟩
  | cell n =>
    unfold lstOf at e
    dsimp only at e
    cases eo : S[n]? with
    | none => rw [eo] at e; cases e
    | some o =>
      rw [eo] at e
      cases o with
      | dK kvs => cases e
      | dI kvs => cases e
      | ins _ _ => cases e
      | dS _ => cases e
      | gone => cases e
      | lst ds' =>
        cases e
        obtain ⟨a, rfl, ha⟩ := h
        obtain ⟨vs, h1, h2⟩ := r.ob n _ a eo ha
        exact ⟨a, vs, rfl, h1, h2⟩
  | _ => cases e
end
theorem od_catL {K : PySem.W.Frag} : OpD K rCat dCatL := by
  intro G ρ H S d1 d2 v1 v2 E Q r x1 x2 h
  unfold dCatL at h
  revert h
  cases e1 : lstOf S d1 with
  | none => exact fun h => h.elim
  | some xs =>
    cases e2 : lstOf S d2 with
    | none => exact fun h => h.elim
    | some ys =>
      intro h
      dsimp only at h
      obtain ⟨a, vs, rfl, h1, h2⟩ := rep_lst r x1 e1
      obtain ⟨b, ws, rfl, h3, h4⟩ := rep_lst r x2 e2
      by_cases hl : xs.length + ys.length ≤ big
      · rw [if_pos hl] at h
        refine ⟨a, b, vs, ws, rfl, rfl, h1, h3, by rw [h2.length, h4.length]; exact big_line hl, fun p hp => ?_⟩
        have k2 : Keep G ρ H ρ (upd H p (.lst (vs ++ ws))) := Keep.new hp r.gt
        exact h _ ρ _ (r.new hp) ⟨p, vs ++ ws, rfl, ⟨r.fresh hp, r.ngn hp, upd_same⟩, RepL.keep k2 _ _ (h2.app h4)⟩ k2
      · rw [if_neg hl] at h; exact h.elim
def rCatZ (K : PySem.W.Frag) : R2 := fun x y H Q => ∃ a b xs ys, x = .ref a ∧ y = .ref b ∧ SqT K H a xs ∧ SqT K H b ys ∧ xs.length + ys.length ≤ sizeLine ∧
  (xs = [] → Q (.ref b) H) ∧ (xs ≠ [] → ys = [] → Q (.ref a) H) ∧ (xs ≠ [] → ys ≠ [] → ∀ p (o : Obj), H p = none → o.dict = none → Q (.ref p) (upd H p (.frz o (.tup (xs ++ ys)))))
theorem op_catZ {X : Cx} : OpR X (binaryOp .Add) (rCatZ X.K) := by
  intro pins s σ H x y v u Q I rx ry h
  obtain ⟨a, b, xs, ys, rfl, rfl, ha, hb, hz, q0, q1, q2⟩ := h
  cases rx
  cases ry
  obtain ⟨its, r1, p1, _⟩ := I.tuple ha
  obtain ⟨its2, r2, p2, _⟩ := I.tuple hb
  by_cases hx : xs = []
  · subst hx
    cases r1
    exact cat_tup0 p1 p2 ⟨.ref b, H, I, rfl, q0 rfl⟩
  · refine HT.cat_tup p1 p2 (fun z => hx (r1.nil_iff.mp z)) (fun z => ⟨.ref a, H, I, rfl, q1 hx (r2.nil_iff.mp z)⟩) (fun z => ?_) (by rw [← r1.length, ← r2.length]; exact hz)
    refine ⟨.ref s.heap.objs.size, _, I.laid (t' := s.toks) (o := .frz { cls := .type "tuple", data := .seq (its ++ its2).toArray } (.tup (xs ++ ys))) (fun b ob q => Heap.get?_push_of_some _ q) (Nat.le_refl _) ?_, rfl, q2 hx (fun w => z (r2.nil_iff.mpr w)) _ _ (I.hok.fresh (Nat.le_refl _)) rfl⟩
    exact ⟨Heap.get?_push_size _ rfl, by rw [List.length_append]; exact hz, _, r1.append r2, IsTup.new _ _⟩
theorem od_catT {K : PySem.W.Frag} : OpD K (rCatZ K) dCatT := by
  intro G ρ H S d1 d2 v1 v2 E Q r x1 x2 h
  cases d1 with
  | tup xs =>
    cases d2 with
    | tup ys =>
      obtain ⟨a, vs, rfl, h1, h2⟩ := x1
      obtain ⟨b, ws, rfl, h3, h4⟩ := x2
      have h : Ok K G (Rep K G) ρ H (if xs.length + ys.length ≤ big then .ok (.tup (xs ++ ys)) S else .bad) E Q := h
      by_cases hl : xs.length + ys.length ≤ big
      · rw [if_pos hl] at h
        refine ⟨a, b, vs, ws, rfl, rfl, .inl h1, .inl h3, by rw [h2.length, h4.length]; exact big_line hl, ?_⟩
        refine ⟨fun e => ?_, fun _ e => ?_, fun _ _ p o hp ho => ?_⟩
        · subst e
          have e0 : xs = [] := List.eq_nil_of_length_eq_zero (by rw [← h2.length]; rfl)
          subst e0
          exact h.now r ⟨b, ws, rfl, h3, h4⟩
        · subst e
          have e0 : ys = [] := List.eq_nil_of_length_eq_zero (by rw [← h4.length]; rfl)
          subst e0
          exact h.now r ⟨a, vs, rfl, h1, by rw [List.append_nil]; exact h2⟩
        · have k2 : Keep G ρ H ρ (upd H p (.frz o (.tup (vs ++ ws)))) := Keep.new hp r.gt
          exact h _ ρ _ (r.new hp ho) ⟨p, vs ++ ws, rfl, .inr ⟨o, upd_same⟩, RepL.keep k2 _ _ (h2.app h4)⟩ k2
      · rw [if_neg hl] at h; exact h.elim
    | _ => exact h.elim
  | _ => exact h.elim
theorem od_add {K : PySem.W.Frag} : OpD K (fun x y H Q => (rI0 fun i j => .int (i + j)) x y H Q ∨ (rCatZ K x y H Q ∨ rCat x y H Q)) dAdd :=
  OpD.or (f := dAddI) (f' := fun d e S => match d, e with | .tup xs, .tup ys => dCatT d e S | d, e => dCatL d e S) (od_i0 (f := fun i j => .int (i + j)) (g := fun i j => .int (i + j)) fun _ _ _ _ _ => rfl) (OpD.or od_catT od_catL _ fun d e S => by
    cases d <;> cases e <;> first | exact .inl rfl | exact .inr rfl) _ fun d e S => by
    cases d <;> cases e <;> first | exact .inr rfl | exact .inl rfl
theorem op_add3 {X : Cx} : OpR X (binaryOp .Add) (fun x y H Q => (rI0 fun i j => .int (i + j)) x y H Q ∨ (rCatZ X.K x y H Q ∨ rCat x y H Q)) := op_add.or (op_catZ.or op_cat)
end Rf

namespace PySem
open Sem (wp)
open AutoSeq1 (wpAny_loadPart')
section
variable {prog : Program} {w : World} {A : Around} {E : Value → Shared → Prop} {s : Shared}
end
end PySem
namespace Rf
open PySem PySem.Spec PyProof.Rows L2
end Rf

namespace Rf
open PySem PySem.Spec PyProof.Rows L2
def seqOf (S : Store) : D → Option (List D)
  | .tup ds => some ds
  | .lst ds => some ds
  | .fz ds => some ds
  | .cell n => match S[n]? with
    | some (.lst ds) => some ds
    | _ => none
  | _ => none
def isTup : D → Bool
  | .tup _ => true
  | _ => false
section
variable {K : PySem.W.Frag} {G : Addr → Prop} {ρ : List Addr} {H : Hp} {S : Store}
theorem rep_seq (r : RelS K G ρ S H) {d : D} {v : V} {ds : List D} (h : Rep K G ρ H d v) (e : seqOf S d = some ds) : ∃ a vs, v = .ref a ∧ (if isTup d = true then SqT K H a vs else SqL K H a vs) ∧ RepL K G ρ H ds vs := by
  cases d with
  | tup ds' =>
    cases e
    obtain ⟨a, vs, rfl, h1, h2⟩ := h
    exact ⟨a, vs, rfl, .inl h1, h2⟩
  | lst ds' =>
    cases e
    obtain ⟨a, vs, rfl, h1, h2⟩ := h
    exact ⟨a, vs, rfl, h1.sq, h2⟩
  | fz ds' =>
    cases e
    obtain ⟨a, vs, rfl, h1, h2⟩ := h
    exact ⟨a, vs, rfl, h1.sq, h2⟩
  | cell n =>
    unfold seqOf at e
    dsimp only at e
    cases eo : S[n]? with
    | none => rw [eo] at e; cases e
    | some o =>
      rw [eo] at e
      cases o with
      | dK kvs => cases e
      | dI kvs => cases e
      | ins _ _ => cases e
      | dS _ => cases e
      | gone => cases e
      | lst ds' =>
        cases e
        obtain ⟨a, rfl, ha⟩ := h
        obtain ⟨vs, h1, h2⟩ := r.ob n _ a eo ha
        exact ⟨a, vs, rfl, .of h1, h2⟩
  | _ => cases e
end
def dIx (d i : D) (S : Store) : Res D := match seqOf S d, i with
  | some ds, .int k => (match atI ds k with
    | some x => .ok x S
    | none => .bad)
  | _, _ => .bad
theorem atI_rep {K : PySem.W.Frag} {G : Addr → Prop} {ρ : List Addr} {H : Hp} {ds : List D} {vs : List V} {k : Int} {x : D} (h : RepL K G ρ H ds vs) (e : atI ds k = some x) : ∃ v, atI vs k = some v ∧ Rep K G ρ H x v := by
  unfold atI at e ⊢
  rw [h.length]
  cases ej : ixN ds.length k with
  | none => rw [ej] at e; cases e
  | some j =>
    rw [ej] at e
    have e : ds[j]? = some x := e
    obtain ⟨v, h1, h2⟩ := h.get e
    exact ⟨v, h1, h2⟩
theorem od_ix {K : PySem.W.Frag} : OpD K (rIx K) dIx := by
  intro G ρ H S d1 d2 v1 v2 E Q r x1 x2 h
  unfold dIx at h
  revert h
  cases e1 : seqOf S d1 with
  | none => exact fun h => h.elim
  | some ds =>
    cases d2 with
    | int k =>
      dsimp only
      cases e2 : atI ds k with
      | none => exact fun h => h.elim
      | some x =>
        intro h
        obtain ⟨a, vs, rfl, h1, h2⟩ := rep_seq r x1 e1
        obtain ⟨v, h3, h4⟩ := atI_rep h2 e2
        by_cases ht : isTup d1 = true
        · rw [if_pos ht] at h1
          exact .inr (.inl ⟨a, vs, k, v, rfl, x2, h1, h3, h.now r h4⟩)
        · rw [if_neg ht] at h1
          exact .inl ⟨a, vs, k, v, rfl, x2, h1, h3, h.now r h4⟩
    | _ => exact fun h => h.elim
def cutD (ds : List D) (lo hi : Option Int) : List D := (ds.drop (HT.sIx ds.length 0 lo)).take (HT.sIx ds.length ds.length hi - HT.sIx ds.length 0 lo)
def dSl (d : D) (lo hi : Option Int) (S : Store) : Res D := match d with
  | .tup ds => .ok (.tup (cutD ds lo hi)) S
  | d => match seqOf S d with
    | some ds => .ok (.lst (cutD ds lo hi)) S
    | none => .bad
def SlD (K : PySem.W.Frag) (r : V → Option Int → Option Int → Hp → VK → Prop) (f : D → Option Int → Option Int → Store → Res D) : Prop :=
  ∀ G ρ H S d v lo hi E Q, RelS K G ρ S H → Rep K G ρ H d v → Ok K G (Rep K G) ρ H (f d lo hi S) E Q → r v lo hi H Q
theorem cut_rep {K : PySem.W.Frag} {G : Addr → Prop} {ρ : List Addr} {H : Hp} {ds : List D} {vs : List V} {lo hi : Option Int} (h : RepL K G ρ H ds vs) : RepL K G ρ H (cutD ds lo hi) (cutV vs lo hi) := by
  unfold cutD cutV
  rw [h.length]
  exact (h.drop _).take _
def rSlZ (K : PySem.W.Frag) : V → Option Int → Option Int → Hp → VK → Prop := fun x lo hi H Q => ∃ a xs, x = .ref a ∧ SqT K H a xs ∧
  (HT.sIx xs.length 0 lo = 0 ∧ HT.sIx xs.length xs.length hi = xs.length → Q (.ref a) H) ∧ (¬ (HT.sIx xs.length 0 lo = 0 ∧ HT.sIx xs.length xs.length hi = xs.length) → ∀ p (o : Obj), H p = none → o.dict = none → Q (.ref p) (upd H p (.frz o (.tup (cutV xs lo hi)))))
theorem sl_tupZ {X : Cx} : SlR X (rSlZ X.K) := by
  intro pins s σ H x v vl vu lo hi sl Q I rx hs pl pu h
  obtain ⟨a, xs, rfl, hx, q1, q2⟩ := h
  cases rx
  obtain ⟨its, r, ht, hz⟩ := I.tuple hx
  have hlen : its.toArray.size = xs.length := by rw [List.size_toArray]; exact r.length.symm
  refine ⟨"tuple", _, PyProof.Rows.slot_tuple_getitem.lookup, ht.typeIs, ?_⟩
  by_cases hw : HT.sIx xs.length 0 lo = 0 ∧ HT.sIx xs.length xs.length hi = xs.length
  · exact getItem_tuple_whole ht hs pl pu (by rw [hlen]; exact hw) ⟨.ref a, H, I, rfl, q1 hw⟩
  · refine HT.getItem_tuple_cut ht hs pl pu (by rw [hlen]; exact hw) ?_ (by rw [hlen]; exact hz)
    rw [hlen]
    refine ⟨.ref s.heap.objs.size, _, I.laid (t' := s.toks) (o := .frz { cls := .type "tuple", data := .seq ((its.toArray.toList.drop (HT.sIx xs.length 0 lo)).take (HT.sIx xs.length xs.length hi - HT.sIx xs.length 0 lo)).toArray } (.tup (cutV xs lo hi))) (fun b ob q => Heap.get?_push_of_some _ q) (Nat.le_refl _) ?_, rfl, q2 hw _ _ (I.hok.fresh (Nat.le_refl _)) rfl⟩
    exact ⟨Heap.get?_push_size _ rfl, Nat.le_trans (cutV_length xs lo hi) hz, _, (r.drop (HT.sIx xs.length 0 lo)).take (HT.sIx xs.length xs.length hi - HT.sIx xs.length 0 lo), IsTup.new _ _⟩
theorem sld_any {K : PySem.W.Frag} : SlD K (fun x lo hi H Q => rSlZ K x lo hi H Q ∨ rSlL K x lo hi H Q) dSl := by
  intro G ρ H S d v lo hi E Q r x h
  have lst : isTup d = false → ∀ ds, seqOf S d = some ds → Ok K G (Rep K G) ρ H (.ok (.lst (cutD ds lo hi)) S) E Q → rSlL K v lo hi H Q := fun ht ds e h => by
    obtain ⟨a, vs, rfl, h1, h2⟩ := rep_seq r x e
    rw [if_neg (by rw [ht]; decide)] at h1
    refine ⟨a, vs, rfl, h1, fun p hp => ?_⟩
    have k2 : Keep G ρ H ρ (upd H p (.lst (cutV vs lo hi))) := Keep.new hp r.gt
    exact h _ ρ _ (r.new hp) ⟨p, _, rfl, ⟨r.fresh hp, r.ngn hp, upd_same⟩, RepL.keep k2 _ _ (cut_rep h2)⟩ k2
  cases d with
  | tup ds =>
    obtain ⟨a, vs, rfl, h1, h2⟩ := x
    refine .inl ⟨a, vs, rfl, .inl h1, fun hw => ?_, fun hw p o hp ho => ?_⟩
    · refine Ok.now (a := D.tup (cutD ds lo hi)) h r ⟨a, vs, rfl, h1, ?_⟩
      have e : cutV vs lo hi = vs := by
        unfold cutV
        rw [hw.1, hw.2]
        simp
      have := cut_rep (lo := lo) (hi := hi) h2
      rw [e] at this
      exact this
    · have k2 : Keep G ρ H ρ (upd H p (.frz o (.tup (cutV vs lo hi)))) := Keep.new hp r.gt
      exact h (.ref p) ρ _ (r.new hp ho) ⟨p, _, rfl, .inr ⟨o, upd_same⟩, RepL.keep k2 _ _ (cut_rep h2)⟩ k2
  | lst ds => exact .inr (lst rfl ds rfl h)
  | fz ds => exact .inr (lst rfl ds rfl h)
  | cell n =>
    have h : Ok K G (Rep K G) ρ H (match seqOf S (.cell n) with | some ds => .ok (.lst (cutD ds lo hi)) S | none => .bad) E Q := h
    cases e : seqOf S (.cell n) with
    | none => rw [e] at h; exact h.elim
    | some ds => rw [e] at h; exact .inr (lst rfl ds e h)
  | _ => exact h.elim
section
variable {X : Cx} {e a b : Expr} {lo hi : Option Expr} {pos p2 : Pos} {cA : Nat → Addr} {W : WX}
theorem je_ix {ma mb : M D} (ha : PE X a (tE X.K cA W ma)) (hb : PE X b (tE X.K cA W mb)) (hs : PlainIx b := by exact fun _ _ => rfl) : PE X (.Subscript a b pos) (tE X.K cA W (e2 dIx ma mb)) :=
  pe_imp (pe_ix ix_seq ha hb hs) (op_read od_ix)
theorem po_imp {o : Option Expr} {t t' : TO} (h : PO X o t) (i : ∀ σ H Q, t' σ H Q → t σ H Q) : PO X o t' := ⟨fun pins s σ H Q I hw => h.run pins s σ H Q I (i σ H Q hw)⟩
def tOo (K : PySem.W.Frag) (cA : Nat → Addr) (W : WX) (m : M (Option Int)) : TO := fun σ H Q => ∃ G ρ env S, RelE K G ρ H env σ ∧ RelS K G ρ S H ∧ Ok K G (fun _ _ (a b : Option Int) => b = a) ρ H (m env S) (WE' cA W σ) Q
def oNone : M (Option Int) := fun _ S => .ok none S
def oSome (m : M D) : M (Option Int) := fun env S => (m env S).bind fun d S1 => match d with
  | .int i => .ok (some i) S1
  | _ => .bad
theorem jo_none : PO X none (tOo X.K cA W oNone) := po_imp po_none fun _ _ _ ⟨_, _, _, _, _, hS, h⟩ => h.now hS rfl
theorem jo_some {m : M D} (h : PE X e (tE X.K cA W m)) : PO X (some e) (tOo X.K cA W (oSome m)) := by
  refine po_imp (po_some h) ?_
  rintro σ H Q ⟨G, ρ, env, S, hE, hS, h⟩
  refine ⟨G, ρ, env, S, hE, hS, Ok.bind h fun x S1 v ρ1 H1 r1 x1 k1 h1 => ?_⟩
  cases x with
  | int i => exact ⟨i, x1, h1.now r1 rfl⟩
  | _ => exact h1.elim
def eSl (f : D → Option Int → Option Int → Store → Res D) (ma : M D) (ml mh : M (Option Int)) : M D := fun env S => (ma env S).bind fun x S1 => (ml env S1).bind fun l S2 => (mh env S2).bind fun u S3 => f x l u S3
theorem je_sl {ma : M D} {ml mh : M (Option Int)} (ha : PE X a (tE X.K cA W ma)) (hl : PO X lo (tOo X.K cA W ml)) (hh : PO X hi (tOo X.K cA W mh)) : PE X (.Subscript a (.Slice lo hi none p2) pos) (tE X.K cA W (eSl dSl ma ml mh)) := by
  refine pe_imp (pe_slice (sl_tupZ.or sl_list) ha hl hh) ?_
  rintro σ H Q ⟨G, ρ, env, S, hE, hS, h⟩
  refine ⟨G, ρ, env, S, hE, hS, Ok.bind h fun x S1 v ρ1 H1 r1 x1 k1 h1 => ?_⟩
  refine ⟨G, ρ1, env, S1, hE.keep k1, r1, Ok.bind h1 fun l S2 l' ρ2 H2 r2 x2 k2 h2 => ?_⟩
  refine ⟨G, ρ2, env, S2, (hE.keep k1).keep k2, r2, Ok.bind h2 fun u S3 u' ρ3 H3 r3 x3 k3 h3 => ?_⟩
  cases (show l' = l from x2)
  cases (show u' = u from x3)
  exact sld_any G ρ3 H3 S3 x v l u _ Q r3 (Rep.keep (k2.trans k3) _ _ x1) h3
end
def fIt (S : Store) : D → Option IT
  | .tup ds => some ⟨ds, []⟩
  | .lst ds => some ⟨ds, []⟩
  | .fz ds => some ⟨ds, []⟩
  | .cell n => match S[n]? with
    | some (.lst ds) => some ⟨ds, [(n, ds)]⟩
    | _ => none
  | _ => none
def iSeq (m : M D) : M IT := fun env S => (m env S).bind fun d S1 => match fIt S1 d with
  | some t => .ok t S1
  | none => .bad
section
variable {K : PySem.W.Frag} {G : Addr → Prop} {ρ : List Addr} {H : Hp} {S : Store}
structure SeqT (K : PySem.W.Frag) (G : Addr → Prop) (ρ : List Addr) (H : Hp) (t : IT) (a : Addr) (b : Bool) : Prop where
  st : ∀ G1 ρ1 S1 H1, Keep2 G ρ H G1 ρ1 H1 → RelS K G1 ρ1 S1 H1 → t.chk S1 → ∃ vs, (if b = true then SqT K H1 a vs else SqL K H1 a vs) ∧ RepL K G1 ρ1 H1 t.ds vs
theorem seq_at (r : RelS K G ρ S H) {d : D} {v : V} {t : IT} (h : Rep K G ρ H d v) (e : fIt S d = some t) : ∃ a, v = .ref a ∧ SeqT K G ρ H t a (isTup d) ∧ t.chk S := by
  cases d with
  | tup ds =>
    cases e
    obtain ⟨a, vs, rfl, h1, h2⟩ := h
    exact ⟨a, rfl, ⟨fun G1 ρ1 S1 H1 k r1 c => ⟨vs, .inl (k.tup a vs h1), RepL.keep2 k ds vs h2⟩⟩, fun p hp => nomatch hp⟩
  | lst ds =>
    cases e
    obtain ⟨a, vs, rfl, h1, h2⟩ := h
    exact ⟨a, rfl, ⟨fun G1 ρ1 S1 H1 k r1 c => ⟨vs, (k.frL h1).sq, RepL.keep2 k ds vs h2⟩⟩, fun p hp => nomatch hp⟩
  | fz ds =>
    cases e
    obtain ⟨a, vs, rfl, h1, h2⟩ := h
    exact ⟨a, rfl, ⟨fun G1 ρ1 S1 H1 k r1 c => ⟨vs, (k.fzL h1).sq, RepL.keep2 k ds vs h2⟩⟩, fun p hp => nomatch hp⟩
  | cell n =>
    unfold fIt at e
    dsimp only at e
    cases eo : S[n]? with
    | none => rw [eo] at e; cases e
    | some o =>
      rw [eo] at e
      cases o with
      | dK kvs => cases e
      | dI kvs => cases e
      | ins _ _ => cases e
      | dS _ => cases e
      | gone => cases e
      | lst ds =>
        cases e
        obtain ⟨a, rfl, ha⟩ := h
        refine ⟨a, rfl, ⟨fun G1 ρ1 S1 H1 k r1 c => ?_⟩, fun p hp => ?_⟩
        · have c1 : S1[n]? = some (.lst ds) := c (n, ds) List.mem_cons_self
          obtain ⟨vs, h1, h2⟩ := r1.ob n _ a c1 (k.get ha)
          exact ⟨vs, .of h1, h2⟩
        · have : p = (n, ds) := by simpa using hp
          subst this
          exact eo
  | _ => cases e
end
section
variable {X : Cx} {tg e e2 : Expr} {pos p : Pos} {cA : Nat → Addr} {W : WX}
theorem wd_tup {K : PySem.W.Frag} {G : Addr → Prop} {ρ : List Addr} {H : Hp} {t : IT} {a : Addr} (q : SeqT K G ρ H t a true) : WD K G ρ H t (Itt K a) where
  go := fun G1 ρ1 S1 H1 i k r c hi => by
    obtain ⟨vs, h1, h2⟩ := q.st G1 ρ1 S1 H1 k r c
    have hv : i < vs.length := by rw [h2.length]; exact hi
    exact ⟨vs, vs[i], h1, List.getElem?_eq_getElem hv⟩
  stop := fun G1 ρ1 S1 H1 k r c => by
    obtain ⟨vs, h1, h2⟩ := q.st G1 ρ1 S1 H1 k r c
    exact ⟨vs, h1, Nat.le_of_eq h2.length⟩
  yld := fun G1 ρ1 S1 H1 i d x H2 k r c hd y => by
    obtain ⟨vs, h1, h2⟩ := q.st G1 ρ1 S1 H1 k r c
    obtain ⟨rfl, y2⟩ := y
    obtain ⟨v, h3, h4⟩ := h2.get hd
    have : some x = some v := (y2 vs h1).symm.trans h3
    cases this
    exact ⟨h4, Keep.refl, r⟩
theorem wd_lst {K : PySem.W.Frag} {G : Addr → Prop} {ρ : List Addr} {H : Hp} {t : IT} {a : Addr} (q : SeqT K G ρ H t a false) : WD K G ρ H t (Itl K a) where
  go := fun G1 ρ1 S1 H1 i k r c hi => by
    obtain ⟨vs, h1, h2⟩ := q.st G1 ρ1 S1 H1 k r c
    have hv : i < vs.length := by rw [h2.length]; exact hi
    exact ⟨vs, vs[i], h1, List.getElem?_eq_getElem hv⟩
  stop := fun G1 ρ1 S1 H1 k r c => by
    obtain ⟨vs, h1, h2⟩ := q.st G1 ρ1 S1 H1 k r c
    exact ⟨vs, h1, Nat.le_of_eq h2.length⟩
  yld := fun G1 ρ1 S1 H1 i d x H2 k r c hd y => by
    obtain ⟨vs, h1, h2⟩ := q.st G1 ρ1 S1 H1 k r c
    obtain ⟨rfl, y2⟩ := y
    obtain ⟨v, h3, h4⟩ := h2.get hd
    have : some x = some v := (y2 vs h1).symm.trans h3
    cases this
    exact ⟨h4, Keep.refl, r⟩
theorem pi_or {t u : TI} (h : PI X tg e t) (h' : PI X tg e u) : PI X tg e (fun σ H R => t σ H R ∨ u σ H R) := ⟨fun pins s σ H R I q => q.elim (h.run pins s σ H R I) (h'.run pins s σ H R I)⟩
theorem Keep2.refl {G : Addr → Prop} {ρ : List Addr} {H : Hp} : Keep2 G ρ H G ρ H := Keep.refl.two
theorem ji_seq {m : M D} (h : PE X e (tE X.K cA W m)) : PI X tg e (tI X.K cA W (iSeq m)) := by
  refine pi_imp (pi_or (pi_tup h) (pi_list h)) ?_
  rintro σ H R ⟨G, ρ, env, S, hE, hS, h⟩
  unfold iSeq at h
  cases hm : m env S with
  | bad => rw [hm] at h; exact h.elim
  | err c S1 =>
    rw [hm] at h
    refine .inl ⟨G, ρ, env, S, hE, hS, ?_⟩
    rw [hm]
    exact h
  | ok d S1 =>
    rw [hm] at h
    dsimp only [bind_ok] at h
    cases ei : fIt S1 d with
    | none => rw [ei] at h; exact h.elim
    | some t =>
      rw [ei] at h
      dsimp only at h
      cases ht : isTup d with
      | true =>
        refine .inl ⟨G, ρ, env, S, hE, hS, ?_⟩
        rw [hm]
        intro v ρ1 H1 r1 x1 k1
        obtain ⟨a, rfl, q, c⟩ := seq_at r1 x1 ei
        rw [ht] at q
        obtain ⟨vs, q1, q2⟩ := q.st G ρ1 S1 H1 Keep2.refl r1 c
        exact ⟨a, rfl, ⟨vs, q1⟩, h _ ρ1 H1 r1 (wd_tup q) k1⟩
      | false =>
        refine .inr ⟨G, ρ, env, S, hE, hS, ?_⟩
        rw [hm]
        intro v ρ1 H1 r1 x1 k1
        obtain ⟨a, rfl, q, c⟩ := seq_at r1 x1 ei
        rw [ht] at q
        obtain ⟨vs, q1, q2⟩ := q.st G ρ1 S1 H1 Keep2.refl r1 c
        exact ⟨a, rfl, ⟨vs, q1⟩, h _ ρ1 H1 r1 (wd_lst q) k1⟩
def rangeD (lo : Int) (n : Nat) : List D := (List.range n).map fun i => .int (lo + (i : Nat))
def iR1 (ma : M (List D)) : M IT := fun env S => (ma env S).bind fun ds S1 => match ds with
  | [.int j] => if -(2 ^ 62) ≤ j ∧ j < 2 ^ 62 then .ok ⟨(List.range j.toNat).map fun i => .int (i : Nat), []⟩ S1 else .bad
  | _ => .bad
theorem wd_range {K : PySem.W.Frag} {G : Addr → Prop} {ρ : List Addr} {H : Hp} (lo : Int) (n : Nat) : WD K G ρ H ⟨rangeD lo n, []⟩ (Itr lo n) where
  go := fun G1 ρ1 S1 H1 i k r c hi => by
    have hi : i < (rangeD lo n).length := hi
    unfold rangeD at hi
    simp at hi
    exact hi
  stop := fun G1 ρ1 S1 H1 k r c => by
    show n ≤ (rangeD lo n).length
    unfold rangeD
    simp
  yld := fun G1 ρ1 S1 H1 i d x H2 k r c hd y => by
    obtain ⟨rfl, rfl⟩ := y
    have hd1 : (rangeD lo n)[i]? = some d := hd
    unfold rangeD at hd1
    rw [List.getElem?_map] at hd1
    cases hr : (List.range n)[i]? with
    | none => rw [hr] at hd1; cases hd1
    | some j =>
      rw [hr] at hd1
      have ej : j = i := by
        have := List.getElem?_eq_some_iff.mp hr
        obtain ⟨h1, h2⟩ := this
        simp at h2
        exact h2.symm
      rw [ej] at hd1
      have hd2 : some (D.int (lo + (i : Nat))) = some d := hd1
      rw [← Option.some.inj hd2]
      exact ⟨rfl, Keep.refl, r⟩
theorem ji_range1 {ma : M (List D)} (hg : Gl X "range") (hm : X.mg "range" = none) (ha : PA X [e] (tAr X.K cA W ma)) (hs : starEach [e] X.env = [(false, eval e X.env)] := by rfl) : PI X tg (.Call (.Name "range" p) [e] [] pos) (tI X.K cA W (iR1 ma)) := by
  refine pi_imp (pi_range1 hg hm ha hs) ?_
  rintro σ H R ⟨G, ρ, env, S, hE, hS, h⟩
  refine ⟨G, ρ, env, S, hE, hS, Ok.bind h fun ds S1 vs ρ1 H1 r1 x1 k1 h1 => ?_⟩
  match ds, h1, x1 with
  | [.int j], h1, x1 =>
    obtain ⟨v, _, rfl, q1, rfl⟩ := x1
    cases (show v = .int j from q1)
    dsimp only at h1
    by_cases hj : -(2 ^ 62) ≤ j ∧ j < 2 ^ 62
    · rw [if_pos hj] at h1
      refine ⟨j, rfl, hj.1, hj.2, h1 _ ρ1 H1 r1 ?_ Keep.refl⟩
      have e : (List.range j.toNat).map (fun i => D.int (i : Nat)) = rangeD 0 j.toNat := by
        unfold rangeD
        congr
        funext i
        rw [Int.zero_add]
      rw [e]
      exact wd_range 0 j.toNat
    · rw [if_neg hj] at h1; exact h1.elim
end
end Rf

namespace Rf
open PySem PySem.Spec PyProof.Rows L2
def dLen (ds : List D) (S : Store) : Res D := match ds with
  | [d] => (match seqOf S d with
    | some xs => .ok (.int (xs.length : Nat)) S
    | none => .bad)
  | _ => .bad
theorem cd_len {K : PySem.W.Frag} : CallD K (fun xs H Q => ∃ p ys, xs = [.ref p] ∧ (SqL K H p ys ∨ SqT K H p ys) ∧ Q (.int ys.length) H) dLen := by
  intro G ρ H S ds vs E Q r x h
  match ds, h, x with
  | [d], h, x =>
    obtain ⟨v, _, rfl, q1, rfl⟩ := x
    unfold dLen at h
    dsimp only at h
    cases e : seqOf S d with
    | none => rw [e] at h; exact h.elim
    | some xs =>
      rw [e] at h
      obtain ⟨a, ws, rfl, h1, h2⟩ := rep_seq r q1 e
      refine ⟨a, ws, rfl, ?_, h.now r (by rw [h2.length]; rfl)⟩
      by_cases ht : isTup d = true
      · rw [if_pos ht] at h1; exact .inr h1
      · rw [if_neg ht] at h1; exact .inl h1
def tyN : D → Option String
  | .non => some "NoneType"
  | .bl _ => some "bool"
  | .int _ => some "int"
  | .str _ => some "str"
  | .tup _ => some "tuple"
  | .lst _ => some "list"
  | .fz _ => some "list"
  | .cell _ => none
  | .ty _ => none
  | .exc _ => none
  | .cl _ => none
  | .dct _ _ _ => none
def isiT : String → String → Option Bool
  | "NoneType", "int" => some false | "NoneType", "bool" => some false | "NoneType", "tuple" => some false | "NoneType", "str" => some false
  | "bool", "int" => some true | "bool", "bool" => some true | "bool", "tuple" => some false | "bool", "str" => some false
  | "int", "int" => some true | "int", "bool" => some false | "int", "tuple" => some false | "int", "str" => some false
  | "str", "int" => some false | "str", "bool" => some false | "str", "tuple" => some false | "str", "str" => some true
  | "tuple", "int" => some false | "tuple", "bool" => some false | "tuple", "tuple" => some true | "tuple", "str" => some false
  | "list", "int" => some false | "list", "bool" => some false | "list", "tuple" => some false | "list", "str" => some false
  | _, _ => none
theorem isiT_ok {a b : String} {r : Bool} (h : isiT a b = some r) : kitB a b = some r := by
  unfold isiT at h
  split at h <;> first | (cases h; decide +kernel) | cases h
def dIsi (ds : List D) (S : Store) : Res D := match ds with
  | [d, .ty T] => (match tyN d with
    | some a => (match isiT a T with
      | some b => .ok (.bl b) S
      | none => .bad)
    | none => .bad)
  | _ => .bad
theorem sqT_ty {K : PySem.W.Frag} {H : Hp} {a : Addr} {vs : List V} (h : SqT K H a vs) : TyX K H (.ref a) (.type "tuple") := by
  rcases h with (h | ⟨o, h⟩) | ⟨o, its, n, h1, h2, _⟩
  · exact .base (.tup h)
  · exact .fTuple h
  · exact .kTuple h1 h2
theorem tyN_ok {K : PySem.W.Frag} {G : Addr → Prop} {ρ : List Addr} {H : Hp} {d : D} {v : V} {a : String} (x : Rep K G ρ H d v) (e : tyN d = some a) : TyX K H v (.type a) := by
  cases d with
  | non => cases e; cases (show v = .non from x); exact .base .non
  | bl b => cases e; cases (show v = .bl b from x); exact .base (.bl b)
  | int b => cases e; cases (show v = .int b from x); exact .base (.int b)
  | str b => cases e; cases (show v = .str b from x); exact .base (.str b)
  | tup ds => cases e; obtain ⟨a, vs, rfl, h1, _⟩ := x; exact sqT_ty (.inl h1)
  | lst ds => cases e; obtain ⟨a, vs, rfl, h1, _⟩ := x; exact .base (.lst h1.2.2)
  | fz ds =>
    cases e
    obtain ⟨a, vs, rfl, h1, _⟩ := x
    rcases h1 with ⟨o, h⟩ | ⟨o, its, n, h1, h2, _⟩
    · exact .base (.frz h)
    · exact .kList h1 h2
  | cell n => cases e
  | ty n => cases e
  | exc n => cases e
  | cl n => cases e
  | dct _ _ _ => cases e
theorem cd_isi {K : PySem.W.Frag} : CallD K (rIsi K) dIsi := by
  intro G ρ H S ds vs E Q r x h
  unfold dIsi at h
  split at h
  · rename_i d T
    obtain ⟨v, _, rfl, q1, w, _, rfl, q2, rfl⟩ := x
    cases (show w = .ty T from q2)
    split at h
    · rename_i a ea
      split at h
      · rename_i b eb
        exact ⟨v, .ty T, .type a, .type T, b, rfl, .ty T, tyN_ok q1 ea, kit_ty (isiT_ok eb), h.now r rfl⟩
      · exact h.elim
    · exact h.elim
  · exact h.elim
def dInt (ds : List D) (S : Store) : Res D := match ds with
  | [.int i] => .ok (.int i) S
  | [.bl b] => .ok (.int (if b then 1 else 0)) S
  | _ => .bad
theorem cd_int {K : PySem.W.Frag} : CallD K (fun xs H Q => (∃ i, xs = [.int i] ∧ Q (.int i) H) ∨ ∃ k, xs = [.bl k] ∧ Q (.int (if k then 1 else 0)) H) dInt := by
  intro G ρ H S ds vs E Q r x h
  unfold dInt at h
  split at h
  · rename_i i
    obtain ⟨v, _, rfl, q1, rfl⟩ := x
    cases (show v = .int i from q1)
    exact .inl ⟨i, rfl, h.now r rfl⟩
  · rename_i b
    obtain ⟨v, _, rfl, q1, rfl⟩ := x
    cases (show v = .bl b from q1)
    exact .inr ⟨b, rfl, h.now r rfl⟩
  · exact h.elim
def dTuple (ds : List D) (S : Store) : Res D := match ds with
  | [d] => (match seqOf S d with
    | some xs => .ok (.tup xs) S
    | none => .bad)
  | _ => .bad
theorem call_tupleZ {X : Cx} : CallR X (.type "tuple") (fun xs H Q => ∃ p ys, xs = [.ref p] ∧ ((SqL X.K H p ys ∧ ∀ l (o : Obj), H l = none → o.dict = none → Q (.ref l) (upd H l (.frz o (.tup ys)))) ∨ (SqT X.K H p ys ∧ Q (.ref p) H))) := by
  intro pins s σ H xs us Q I r h
  obtain ⟨p, ys, rfl, h⟩ := h
  obtain ⟨u, rfl, rx⟩ := vals1 r
  cases rx
  rcases h with ⟨hq, q⟩ | ⟨hq, q⟩
  · obtain ⟨its, r', pl, hz⟩ := I.list hq
    have hlen := r'.length
    refine call_tuple_list pl.isList (fun h' kp => ?_) (by simp only [List.size_toArray] <;> omega)
    have I1 : Inv X pins σ H { s with heap := h' } := I.kept (t' := s.toks) kp
    have I2 : Inv X pins σ (upd H h'.objs.size (.frz { cls := .type "tuple", data := .seq its.toArray } (.tup ys))) { s with heap := h'.push { cls := .type "tuple", data := .seq its.toArray } } :=
      I1.laid (t' := s.toks) (fun b o e => Heap.get?_push_of_some _ e) (Nat.le_refl _) (show ObjOk X.prog X.w _ _ _ (.frz _ (.tup ys)) from ⟨Heap.get?_push_size _ rfl, hz, its, r', IsTup.new _ _⟩)
    exact ⟨.ref h'.objs.size, _, I2, rfl, q _ _ (I1.hok.fresh (Nat.le_refl _)) rfl⟩
  · obtain ⟨its, r', pl, hz⟩ := I.tuple hq
    exact call_tuple_same pl ⟨.ref p, H, I, rfl, q⟩
theorem cd_tuple {K : PySem.W.Frag} : CallD K (fun xs H Q => ∃ p ys, xs = [.ref p] ∧ ((SqL K H p ys ∧ ∀ l (o : Obj), H l = none → o.dict = none → Q (.ref l) (upd H l (.frz o (.tup ys)))) ∨ (SqT K H p ys ∧ Q (.ref p) H))) dTuple := by
  intro G ρ H S ds vs E Q r x h
  match ds, h, x with
  | [d], h, x =>
    obtain ⟨v, _, rfl, q1, rfl⟩ := x
    unfold dTuple at h
    dsimp only at h
    cases e : seqOf S d with
    | none => rw [e] at h; exact h.elim
    | some xs =>
      rw [e] at h
      obtain ⟨a, ws, rfl, h1, h2⟩ := rep_seq r q1 e
      refine ⟨a, ws, rfl, ?_⟩
      by_cases ht : isTup d = true
      · rw [if_pos ht] at h1
        refine .inr ⟨h1, h.now r ?_⟩
        cases d with
        | tup ds => cases e; exact q1
        | _ => cases ht
      · rw [if_neg ht] at h1
        refine .inl ⟨h1, fun p o hp ho => ?_⟩
        have k2 : Keep G ρ H ρ (upd H p (.frz o (.tup ws))) := Keep.new hp r.gt
        exact h _ ρ _ (r.new hp ho) ⟨p, ws, rfl, .inr ⟨o, upd_same⟩, RepL.keep k2 _ _ h2⟩ k2
def nums : List D → Option (List Int)
  | [] => some []
  | .int i :: r => (nums r).map (i :: ·)
  | _ :: _ => none
theorem ints_map : ∀ {ds : List D} {ns : List Int}, nums ds = some ns → ds = ns.map .int
  | [], ns, h => by cases h; rfl
  | .int i :: r, ns, h => by
    unfold nums at h
    cases e : nums r with
    | none => rw [e] at h; cases h
    | some ms =>
      rw [e] at h
      have h : some (i :: ms) = some ns := h
      cases h
      rw [ints_map e]; rfl
  | .non :: _, _, h => by cases h
  | .bl _ :: _, _, h => by cases h
  | .str _ :: _, _, h => by cases h
  | .ty _ :: _, _, h => by cases h
  | .exc _ :: _, _, h => by cases h
  | .tup _ :: _, _, h => by cases h
  | .lst _ :: _, _, h => by cases h
  | .fz _ :: _, _, h => by cases h
  | .cell _ :: _, _, h => by cases h
@[simp] theorem ints_of : ∀ ns : List Int, nums (ns.map .int) = some ns
  | [] => rfl
  | n :: ns => by show (nums (ns.map .int)).map (n :: ·) = _; rw [ints_of]; rfl
theorem rep_ints {K : PySem.W.Frag} {G : Addr → Prop} {ρ : List Addr} {H : Hp} : ∀ {ns : List Int} {vs : List V}, RepL K G ρ H (ns.map .int) vs → vs = ns.map V.int
  | [], vs, h => h
  | n :: ns, vs, h => by
    obtain ⟨v, vs', rfl, h1, h2⟩ := h
    cases (show v = .int n from h1)
    rw [rep_ints h2]; rfl
def dLt (d e : D) (S : Store) : Res D := match d, e with
  | .int i, .int j => .ok (.bl (decide (i < j))) S
  | .tup xs, .tup ys => (match nums xs, nums ys with
    | some ns, some ms => .ok (.bl (HT.lexLt ns ms)) S
    | _, _ => .bad)
  | _, _ => .bad
theorem od_lt {K : PySem.W.Frag} : OpD K (fun x y H Q => (rI0 fun i j => .bl (decide (i < j))) x y H Q ∨ rLtT K x y H Q) dLt := by
  intro G ρ H S d1 d2 v1 v2 E Q r x1 x2 h
  unfold dLt at h
  split at h
  · rename_i i j
    exact .inl ⟨i, j, x1, x2, h.now r rfl⟩
  · rename_i xs ys
    split at h
    · rename_i ns ms e1 e2
      obtain ⟨a, vs, rfl, h1, h2⟩ := x1
      obtain ⟨b, ws, rfl, h3, h4⟩ := x2
      rw [ints_map e1] at h2
      rw [ints_map e2] at h4
      rw [rep_ints h2] at h1
      rw [rep_ints h4] at h3
      exact .inr ⟨a, b, ns, ms, rfl, rfl, .inl h1, .inl h3, h.now r rfl⟩
    · exact h.elim
  · exact h.elim
theorem op_lt2 {X : Cx} (hu : X.A.units < cLine) : OpR X (compareOp .Lt) (fun x y H Q => (rI0 fun i j => .bl (decide (i < j))) x y H Q ∨ rLtT X.K x y H Q) := op_lt.or (op_ltT hu)
def dMin2 (mx : Bool) (ds : List D) (S : Store) : Res D := match ds with
  | [.int i, .int j] => .ok (.int (if mx = true then (if j > i then j else i) else (if j < i then j else i))) S
  | [d] => (match seqOf S d with
    | some (.int x :: xs) => (match nums xs with
      | some ns => .ok (.int (if mx = true then ns.foldl max x else ns.foldl min x)) S
      | none => .bad)
    | _ => .bad)
  | _ => .bad
def rMm (K : PySem.W.Frag) (mx : Bool) : List V → Hp → VK → Prop := fun xs H Q => (∃ i j, xs = [.int i, .int j] ∧ Q (.int (if mx = true then (if j > i then j else i) else (if j < i then j else i))) H) ∨
  ∃ (a : Addr) (x : Int) (ns : List Int), xs = [.ref a] ∧ (SqL K H a ((x :: ns).map V.int) ∨ SqT K H a ((x :: ns).map V.int)) ∧ Q (.int (if mx = true then ns.foldl max x else ns.foldl min x)) H
theorem cd_mm {K : PySem.W.Frag} {mx : Bool} : CallD K (rMm K mx) (dMin2 mx) := by
  intro G ρ H S ds vs E Q r x h
  unfold dMin2 at h
  split at h
  · rename_i i j
    obtain ⟨v, _, rfl, q1, w, _, rfl, q2, rfl⟩ := x
    cases (show v = .int i from q1)
    cases (show w = .int j from q2)
    exact .inl ⟨i, j, rfl, h.now r rfl⟩
  · rename_i d
    obtain ⟨v, _, rfl, q1, rfl⟩ := x
    split at h
    · rename_i y ys es
      split at h
      · rename_i ns en
        obtain ⟨a, ws, rfl, h1, h2⟩ := rep_seq r q1 es
        have e0 : D.int y :: ys = (y :: ns).map .int := by rw [ints_map en]; rfl
        rw [e0] at h2
        rw [rep_ints h2] at h1
        refine .inr ⟨a, y, ns, rfl, ?_, h.now r rfl⟩
        by_cases ht : isTup d = true
        · rw [if_pos ht] at h1; exact .inr h1
        · rw [if_neg ht] at h1; exact .inl h1
      · exact h.elim
    · exact h.elim
  · exact h.elim
theorem reads_ints {h : Heap} : ∀ {us : List Value} {ns : List Int}, IntsAre us ns → ∃ as, ReadsAll h us (ns.map .int) as
  | us, ns, hi => by
    induction ns generalizing us with
    | nil =>
      have := hi.length
      have e : us = [] := List.eq_nil_of_length_eq_zero this
      subst e
      exact ⟨_, .nil⟩
    | cons n ns ih =>
      match us, hi with
      | u :: us, hi =>
        obtain ⟨⟨t, e⟩, hr⟩ : (∃ t, u = Value.int n t) ∧ IntsAre us ns := by
          cases hi with
          | cons h1 h2 => exact ⟨⟨_, rfl⟩, by assumption⟩
        subst e
        obtain ⟨as, q⟩ := ih us hr
        exact ⟨_, .cons (Reads.int n t) q⟩
end Rf

namespace PyProof.Rows
open PySem PySem.Calls
section
variable {prog : Program} {w : World} {A : Around} {E : Value → Shared → Prop} {s : Shared}
theorem collect_tup' {l : Addr} {vs : List Value} {Q : List Value → Shared → Prop} (hl : s.heap.IsTuple l vs.toArray)
    (h : Q vs { s with heap := (s.heap.push (seqObj "list" #[] 0)).update s.heap.objs.size (Obj.mapSeq (· ++ vs.toArray)) }) (hsz : vs.length ≤ sizeLine) :
    wpAny (model prog w) A (collect (.ref l)) Q E s := by
  obtain ⟨o, ho, hc, n, hd⟩ := id hl
  unfold collect
  refine wpAny_bind (wpAny_runValue (codeAny_builtin entry_proto_collect' ?_))
  show wpAny _ _ (do again (.builtin "list.__iadd__" ⟨[← newList [], .ref l], []⟩)) _ _ s
  refine wpAny_bind (wpAny_newList (wpAny_pure ⟨Code.quiet_builtin _ (by decide +kernel), codeAny_builtin entry_list_iadd' ?_⟩))
  show wpAny _ _ (Builtin.List.listExtendWith (.ref s.heap.objs.size) (.ref l) (.ref s.heap.objs.size)) _ _ { s with heap := s.heap.push (seqObj "list" #[] 0) }
  unfold Builtin.List.listExtendWith
  have ho' : (s.heap.push (seqObj "list" #[] 0)).get? l = some o := Heap.get?_push_of_some _ ho
  refine wpAny_bind (wpAny_typeOf (T := "tuple") ⟨o, ho', hc⟩ ?_)
  have ht : (Value.type "tuple" == Value.type "tuple") = true := by rfl
  rw [if_pos (by rw [ht]; simp)]
  refine wpAny_bind (listItems_at ho' hd ?_)
  refine wpAny_bind (listItems_at (xs := #[]) (n := 0) (Heap.get?_push_size _ rfl) rfl ?_)
  rw [if_neg (by simp)]
  refine wpAny_bind (listUpdate_at (xs := #[]) (n := 0) (Heap.get?_push_size _ rfl) rfl ?_ (Nat.zero_le _) (by show (#[] ++ vs.toArray).size ≤ sizeLine + 1; simp only [Array.size_append, List.size_toArray, List.length_nil]; omega))
  refine wpAny_pure ?_
  show wpAny (model prog w) A (do
      let o ← load s.heap.objs.size
      match o.data with
      | .seq xs _ => pure xs.toList
      | _ => unsupported "internal:collect") Q E { s with heap := (s.heap.push (seqObj "list" #[] 0)).update s.heap.objs.size (Obj.mapSeq (· ++ vs.toArray)) }
  refine wpAny_bind (wpAny_load (get?_update_seq (Heap.get?_push_size _ rfl) _) ?_)
  show wpAny _ _ (pure ((#[] : Array Value) ++ vs.toArray).toList) Q E _
  rw [show ((#[] : Array Value) ++ vs.toArray).toList = vs by simp]
  exact wpAny_pure h
end
end PyProof.Rows
namespace PySem.W
open PySem PySem.Calls PyProof.Rows
section
variable {prog : Program} {w : World} {A : Around} {E : Value → Shared → Prop} {s : Shared}
theorem sorted_of_sortT' {l : Addr} {vs : List Value} {kw : List (Str × Value)} {Q : Value → Shared → Prop} (hl : s.heap.IsTuple l vs.toArray) (hL : vs.length ≤ sizeLine) (ha1 : argsOk "sorted" ⟨[.ref l], kw⟩) (ha2 : ∀ x, argsOk "list.sort" ⟨[.ref x], kw⟩)
    (body : ∀ E' : Value → Shared → Prop, wpAny (model prog w) A.in1.in1 (Builtin.«list.sort» ⟨[.ref (s.heap.objs.size + 1)], kw⟩) (fun f s' => f = .done (.ret .none) ∧ Q (.ref (s.heap.objs.size + 1)) s') E' { s with heap := copyHeap s.heap vs }) :
    wpAny (model prog w) A (call (.builtin "sorted") [.ref l] kw) Q E s := by
  refine call_function_entry_kw kind_sorted plain_sorted entry_sorted ha1 ?_
  unfold Builtin.«sorted»
  refine wpAny_bind (m := checkCount "sorted" 1 1 _) (wpAny_pure ?_)
  refine wpAny_bind (collect_tup' hl ?_ hL)
  refine wpAny_bind (wpAny_newList ?_ hL)
  have hsz : ((s.heap.push (seqObj "list" #[] 0)).update s.heap.objs.size (Obj.mapSeq (· ++ vs.toArray))).objs.size = s.heap.objs.size + 1 := by
    rw [Heap.size_update, size_push']
  show wpAny _ _ _ _ _ { s with heap := copyHeap s.heap vs }
  rw [hsz]
  refine wpAny_bind (wpAny_holding (wpAny_call_entry_kw slot_list_sort ⟨_, copyHeap_at s.heap vs, rfl⟩ entry_list_sort ?body (ha2 _)))
  case body =>
    show wpAny (model prog w) A.in1.in1 (Builtin.«list.sort» ⟨[.ref (s.heap.objs.size + 1)], kw⟩) _ _ _
    refine wpAny_mono (body _) (fun f s' hf => ?_) fun _ _ e => e
    obtain ⟨rfl, hq⟩ := hf
    exact ⟨_, rfl, wpAny_pure ⟨_, rfl, hq⟩⟩
variable {β : Type} {R : Value → β → Prop} {enc : β → PyData} {vs : List Value} {bs : List β}
theorem sorted_dataT' {l : Addr} {Q : Value → Shared → Prop} (hl : s.heap.IsTuple l vs.toArray) (e : EachIs R vs bs) (er : EachIs (fun v b => ∃ as, Reads s.heap v (enc b) as) vs bs) (hal : AllAlike (bs.map enc)) (hk : Sortable (bs.map enc)) (hL : bs.length ≤ sizeLine)
    (hu : ∀ b, b ∈ bs → A.units + 2 + (enc b).depth < cLine) (h : ∀ out, out.length = bs.length → EachIs R out (bs.mergeSort (dataLe false enc)) → Q (.ref (s.heap.objs.size + 1)) { s with heap := sortedAll s.heap vs (List.toArray out) }) :
    wpAny (model prog w) A (call (.builtin "sorted") [.ref l]) Q E s := by
  have er' : EachIs (fun v b => ∃ as, Reads (sortingHeap (copyHeap s.heap vs) (s.heap.objs.size + 1) vs) v (enc b) as) vs bs := er.mono fun _ _ ⟨as, r⟩ => ⟨as, PyProof.Rows.Reads.keeps (fun _ _ => sorting_copy_old) r⟩
  exact sorted_of_sortT' hl (by rw [e.length]; exact hL) (args_sorted1 _) (fun _ => args_list_sort _) fun _ => list_sort_vals (s := { s with heap := copyHeap s.heap vs }) (copyHeap_at s.heap vs) (SortsAt.data (s := { s with heap := sortingHeap (copyHeap s.heap vs) (s.heap.objs.size + 1) vs }) (each_map (R := fun v d => ∃ as, Reads (sortingHeap (copyHeap s.heap vs) (s.heap.objs.size + 1) vs) v d as) enc er') hal hk (bound_map hu)) (by rw [e.length]; exact hL)
    ⟨rfl, h _ (by rw [sortVals_length false rfl]; exact e.length) (sortVals_data false e er' hal)⟩
end
end PySem.W
namespace Rf
open PySem PySem.Spec PyProof.Rows L2
open PySem.W (EachIs AllAlike alike dataLe)
section
variable {X : Cx}
theorem cr_mm {mx : Bool} (hc : X.calm = true) (hu : X.A.units + 64 < cLine) : CallR X (.builtin (if mx = true then "max" else "min")) (rMm X.K mx) := by
  intro pins s σ H xs us Q I r h
  rcases h with ⟨i, j, rfl, q⟩ | ⟨a, x, ns, rfl, hq, q⟩
  · cases mx with
    | true => exact call_max2 hc pins s σ H _ us Q I r ⟨i, j, rfl, q⟩
    | false => exact call_min2 hc pins s σ H _ us Q I r ⟨i, j, rfl, q⟩
  · have dep : PyData.depthAll ((x :: ns).map PyData.int) = 0 := PySem.W.depth_ints _
    have alk : PySem.W.AlikeAll ((x :: ns).map PyData.int) := by
      refine ⟨fun d hd d' hd' => ?_, fun d hd => ?_⟩
      · obtain ⟨i, _, rfl⟩ := List.mem_map.mp hd
        obtain ⟨j, _, rfl⟩ := List.mem_map.mp hd'
        rfl
      · obtain ⟨i, _, rfl⟩ := List.mem_map.mp hd
        exact fun z => nomatch z
    have hu' : X.A.units + 1 + PyData.depthAll ((x :: ns).map PyData.int) < cLine := by rw [dep]; omega
    have fin : ∀ (its : List Value), Vals ((x :: ns).map V.int) its → ∀ (i : Nat) v h' tk bs (m : Int), its.toArray[i]? = some v → Reads h' v (.int m) bs → (∀ b o, s.heap.get? b = some o → h'.get? b = some o) → m = (if mx = true then ns.foldl max x else ns.foldl min x) → EP X pins σ Q v { s with heap := h', toks := tk } := fun its rv i v h' tk bs m hv rd hk em => by
      have hi : IntsAre its (x :: ns) := rv.ints
      have hv' : its[i]? = some v := by simpa using hv
      have : ∃ j t, v = Value.int j t := by
        obtain ⟨hlt, ev⟩ := List.getElem?_eq_some_iff.mp hv'
        have hlt2 : i < (x :: ns).length := by rw [← hi.length]; exact hlt
        obtain ⟨u, e1, e2⟩ := rv.get (i := i) (x := V.int (x :: ns)[i]) (by rw [List.getElem?_map, List.getElem?_eq_getElem hlt2]; rfl)
        rw [hv'] at e1
        cases e1
        obtain ⟨t, e⟩ := e2
        exact ⟨_, t, e⟩
      obtain ⟨j, t, rfl⟩ := this
      have ej : j = m := by cases rd; rfl
      subst ej
      exact ⟨.int j, H, I.kept (t' := tk) hk, ⟨t, rfl⟩, by rw [em]; exact q⟩
    rw [Vals.ref1 r]
    rcases hq with hq | hq
    · obtain ⟨its, rv, pl, hz⟩ := I.list hq
      obtain ⟨as, ra⟩ := reads_ints (h := s.heap) rv.ints
      cases mx with
      | true => exact PySem.W.max_list_data (I.ok.hd hc) pl.isList (by simpa using ra) alk hu' fun i v h' tk bs hv rd hk => fin its rv i v h' tk bs (ns.foldl max x) hv (by rw [← PySem.W.maxD_ints]; exact rd) hk rfl
      | false => exact PySem.W.min_list_data (I.ok.hd hc) pl.isList (by simpa using ra) alk hu' fun i v h' tk bs hv rd hk => fin its rv i v h' tk bs (ns.foldl min x) hv (by rw [← PySem.W.minD_ints]; exact rd) hk rfl
    · obtain ⟨its, rv, pl, hz⟩ := I.tuple hq
      obtain ⟨as, ra⟩ := reads_ints (h := s.heap) rv.ints
      cases mx with
      | true => exact PySem.W.max_tuple_data (I.ok.hd hc) pl (by simpa using ra) alk hu' fun i v h' tk bs hv rd hk => fin its rv i v h' tk bs (ns.foldl max x) hv (by rw [← PySem.W.maxD_ints]; exact rd) hk rfl
      | false => exact PySem.W.min_tuple_data (I.ok.hd hc) pl (by simpa using ra) alk hu' fun i v h' tk bs hv rd hk => fin its rv i v h' tk bs (ns.foldl min x) hv (by rw [← PySem.W.minD_ints]; exact rd) hk rfl
def rSortD (K : PySem.W.Frag) : List V → Hp → VK → Prop := fun xs H Q => ∃ (a : Addr) (bs : List (PyData × V)), xs = [.ref a] ∧ (SqL K H a (bs.map (·.2)) ∨ SqT K H a (bs.map (·.2))) ∧ (∀ b ∈ bs, Dp K H b.2 b.1) ∧ AllAlike (bs.map (·.1)) ∧ PySem.W.Sortable (bs.map (·.1)) ∧ (∀ b ∈ bs, b.1.depth ≤ 12) ∧ bs.length ≤ sizeLine ∧
  ∀ p, H p = none → Q (.ref p) (upd H p (.lst ((bs.mergeSort (dataLe false (·.1))).map (·.2))))
theorem each_zip {P : PyData × V → Prop} : ∀ {bs : List (PyData × V)} {us : List Value}, Vals (bs.map (·.2)) us → EachIs (fun u b => RelV b.2 u) us bs
  | [], _, .nil => .nil
  | b :: bs, _, .cons r t => .cons r (each_zip (P := P) t)
theorem each_reads {pins : List (Addr × Obj)} {σ : L2.St} {H : Hp} {s : Shared} (I : L2.Inv X pins σ H s) : ∀ {bs : List (PyData × V)} {us : List Value}, (∀ b ∈ bs, Dp X.K H b.2 b.1) → Vals (bs.map (·.2)) us → EachIs (fun u b => ∃ as, Reads s.heap u b.1 as) us bs
  | [], _, _, .nil => .nil
  | b :: bs, _, h, .cons r t => .cons (Dp.reads I b.1 b.2 _ (h b List.mem_cons_self) r) (each_reads I (fun c hc => h c (List.mem_cons_of_mem _ hc)) t)
theorem vals_each : ∀ {bs : List (PyData × V)} {us : List Value}, EachIs (fun u (b : PyData × V) => RelV b.2 u) us bs → Vals (bs.map (·.2)) us
  | [], _, .nil => .nil
  | b :: bs, _, .cons r t => .cons r (vals_each t)
theorem cr_sortD (hu : X.A.units + 64 < cLine) : CallR X (.builtin "sorted") (rSortD X.K) := by
  intro pins s σ H xs us Q I r h
  obtain ⟨a, bs, rfl, hq, hd, hal, hk, hdep, hL, q⟩ := h
  have key : ∀ (its : List Value) (out : List Value), out.length = bs.length → EachIs (fun u (b : PyData × V) => RelV b.2 u) out (bs.mergeSort (dataLe false (·.1))) → EP X pins σ Q (.ref (s.heap.objs.size + 1)) { s with heap := sortedAll s.heap its (List.toArray out) } := fun its out ho he => by
    obtain ⟨ep, he'⟩ := PyProof.Rows.sortedAll_at s.heap its (List.toArray out)
    have hv := vals_each he
    have hlen : ((bs.mergeSort (dataLe false (·.1))).map (·.2)).length ≤ sizeLine := by rw [List.length_map, List.length_mergeSort]; exact hL
    exact ⟨.ref _, upd H (s.heap.objs.size + 1) (.lst ((bs.mergeSort (dataLe false (·.1))).map (·.2))), I.laid (t' := s.toks) (fun _ _ => PyProof.Rows.sortedAll_old) (Nat.le_succ _) ⟨hlen, out, ep, hv, by simpa using he'⟩, rfl, q _ (I.hok.fresh (Nat.le_succ _))⟩
  have hu2 : ∀ b, b ∈ bs → X.A.units + 2 + b.1.depth < cLine := fun b hb => by have := hdep b hb; omega
  rw [Vals.ref1 r]
  rcases hq with hq | hq
  · obtain ⟨its, rv, pl, hz⟩ := I.list hq
    exact PySem.W.sorted_data (R := fun u (b : PyData × V) => RelV b.2 u) (enc := (·.1)) pl.isList (each_zip (P := fun _ => True) rv) (each_reads I hd rv) hal hk hL hu2 (key its)
  · obtain ⟨its, rv, pl, hz⟩ := I.tuple hq
    exact PySem.W.sorted_dataT' (R := fun u (b : PyData × V) => RelV b.2 u) (enc := (·.1)) pl (each_zip (P := fun _ => True) rv) (each_reads I hd rv) hal hk hL hu2 (key its)
end
open Classical in
noncomputable def fSorted (ds : List D) (S : Store) : Res (List D) := match ds with
  | [d] => (match seqOf S d with
    | some xs => if xs.length ≤ big ∧ xs.all (shD 11) = true ∧ AllAlike (xs.map py) ∧ PySem.W.Sortable (xs.map py) then .ok (xs.mergeSort (dataLe false py)) S else .bad
    | none => .bad)
  | _ => .bad
theorem rep_dpl {K : PySem.W.Frag} {G : Addr → Prop} {ρ : List Addr} {H : Hp} : ∀ {xs : List D} {vs : List V}, RepL K G ρ H xs vs → xs.all (shD 11) = true → ∃ bs : List (D × V), bs.map (·.1) = xs ∧ bs.map (·.2) = vs ∧ ∀ b ∈ bs, Rep K G ρ H b.1 b.2 ∧ Dp K H b.2 (py b.1) ∧ (py b.1).depth ≤ 12
  | [], vs, h, _ => ⟨[], rfl, by rw [show vs = [] from h]; rfl, fun b hb => nomatch hb⟩
  | d :: xs, vs, h, hs => by
    obtain ⟨v, vs', rfl, h1, h2⟩ := h
    rw [List.all_cons, Bool.and_eq_true] at hs
    obtain ⟨bs, e1, e2, hb⟩ := rep_dpl h2 hs.2
    refine ⟨(d, v) :: bs, by rw [List.map_cons, e1], by rw [List.map_cons, e2], fun b hb' => ?_⟩
    rcases List.mem_cons.mp hb' with rfl | hb'
    · exact ⟨h1, rep_dp 11 d v hs.1 h1, Nat.le_succ_of_le (shD_ok 11 d hs.1).2⟩
    · exact hb b hb'
theorem repl_of {K : PySem.W.Frag} {G : Addr → Prop} {ρ : List Addr} {H : Hp} : ∀ (bs : List (D × V)), (∀ b ∈ bs, Rep K G ρ H b.1 b.2) → RepL K G ρ H (bs.map (·.1)) (bs.map (·.2))
  | [], _ => rfl
  | b :: bs, h => ⟨b.2, bs.map (·.2), rfl, h b List.mem_cons_self, repl_of bs fun c hc => h c (List.mem_cons_of_mem _ hc)⟩
theorem cf_sorted {K : PySem.W.Frag} : CallF K (rSortD K) fSorted := by
  intro G ρ H S ds vs E Q r x h
  match ds, h, x with
  | [d], h, x =>
    obtain ⟨v, _, rfl, q1, rfl⟩ := x
    unfold fSorted at h
    dsimp only at h
    cases e : seqOf S d with
    | none => rw [e] at h; exact h.elim
    | some xs =>
      rw [e] at h
      dsimp only at h
      by_cases hc : xs.length ≤ big ∧ xs.all (shD 11) = true ∧ AllAlike (xs.map py) ∧ PySem.W.Sortable (xs.map py)
      · rw [if_pos hc] at h
        obtain ⟨c1, c2, c3, c4⟩ := hc
        obtain ⟨a, ws, rfl, h1, h2⟩ := rep_seq r q1 e
        obtain ⟨bs, e1, e2, hb⟩ := rep_dpl h2 c2
        have em : (bs.map fun b => (py b.1, b.2)).map (·.1) = xs.map py := by rw [List.map_map, ← e1, List.map_map]; rfl
        have em2 : (bs.map fun b => (py b.1, b.2)).map (·.2) = ws := by rw [List.map_map, ← e2]; rfl
        have es : (bs.mergeSort fun p q => dataLe false py p.1 q.1).map (fun b => (py b.1, b.2)) = (bs.map fun b => (py b.1, b.2)).mergeSort (dataLe false (·.1)) := PySem.W.sort_maps (fun b : D × V => (py b.1, b.2)) fun _ _ _ _ => rfl
        have es1 : (bs.mergeSort fun p q => dataLe false py p.1 q.1).map (·.1) = xs.mergeSort (dataLe false py) := by rw [PySem.W.sort_maps (s := dataLe false py) (fun b : D × V => b.1) fun _ _ _ _ => rfl, e1]
        refine ⟨a, bs.map fun b => (py b.1, b.2), rfl, ?_, fun b hb' => ?_, by rw [em]; exact c3, by rw [em]; exact c4, fun b hb' => ?_, ?_, fun p hp => ?_⟩
        · rw [em2]
          by_cases ht : isTup d = true
          · rw [if_pos ht] at h1; exact .inr h1
          · rw [if_neg ht] at h1; exact .inl h1
        · obtain ⟨c, hc, rfl⟩ := List.mem_map.mp hb'
          exact (hb c hc).2.1
        · obtain ⟨c, hc, rfl⟩ := List.mem_map.mp hb'
          exact (hb c hc).2.2
        · rw [List.length_map, ← List.length_map (f := (·.1)), e1]; exact big_line c1
        · have em3 : ((bs.map fun b => (py b.1, b.2)).mergeSort (dataLe false (·.1))).map (·.2) = (bs.mergeSort fun p q => dataLe false py p.1 q.1).map (·.2) := by rw [← es, List.map_map]; rfl
          rw [em3]
          refine h p _ ρ H r ?_ Keep.refl hp
          rw [← es1]
          exact repl_of _ fun b hb' => (hb b ((List.mergeSort_perm _ _).mem_iff.mp hb')).1
      · rw [if_neg hc] at h; exact h.elim
end Rf

namespace L2
open PySem PySem.Spec PyProof.Rows
section
variable {w : World} {P : Program} {A : Around} {s : Shared} {E : Value → Shared → Prop}
abbrev set0 (w : World) : Obj := { cls := .type "set", dict := none, data := .set #[] 0 (.fresh 0 0 (!w.params.followText "set-order")) }
theorem setOfTup {l : Addr} {items : Array Value} (ks : List (Addr × List Int)) {Q : Value → Shared → Prop} (hh : A.handled = none) (hl : s.heap.IsTuple l items) (hit : items.toList = ks.map fun p => Value.ref p.1)
    (hfew : ks.length < 64) (hk : ∀ p ∈ ks, IsT P w s.heap p.2 p.1) (hu : A.units + 3 < cLine)
    (fin : ∀ (h' : Heap) (tk : Nat) L es ep t, SetTR P w h' s.heap.objs.size L es ep t → Got ks ks.length L → (∀ b o, s.heap.get? b = some o → h'.get? b = some o) → Q (.ref s.heap.objs.size) { s with heap := h', toks := tk }) :
    wpAny (model P w) A (call (Value.type "set") [Value.ref l]) Q E s := by
  have hlen : items.size = ks.length := by rw [← Array.length_toList, hit, List.length_map]
  obtain ⟨c0, tl0, hmro⟩ := F.called_set.mro
  have m0 := F.called_set.made
  have u0 := F.called_set.sub
  refine wpAny_call (codeAny_of_tree (show wpAny _ _ (callAny (.type "set") _) _ _ s from ?_))
  refine wpAny_pure ⟨Code.quiet_builtin _ (by decide +kernel), codeAny_builtin (F.entry_type_call) ?_⟩
  rw [Around.under_plain (weight_type_call_type "set" [Value.ref l] []) rfl]
  have c1 := F.called_set.notType
  have c2 := F.called_set.canCreate
  have c3 := F.typeCall_set_1 (.ref l)
  repeat (any_goals (first | wp_step | assumption))
  refine codeAny_mono (code_set_led1 (.ref l) (E := E) (Q₁ := fun ob s1 => ob = .ref s.heap.objs.size ∧ s1 = { s with heap := s.heap.push (set0 w) }) ⟨rfl, rfl⟩) fun r1 s1 hr1 => ?_
  cases r1 with
  | error e => exact hr1
  | ok f1 =>
    cases f1 with
    | ret ob =>
      obtain ⟨rfl, rfl⟩ := hr1
      have at0 : (s.heap.push (set0 w)).get? s.heap.objs.size = some (set0 w) := Heap.get?_push_size _ rfl
      have ty0 : Shared.TypeIs { s with heap := s.heap.push (set0 w) } (.ref s.heap.objs.size) "set" := ⟨_, at0, rfl⟩
      have i1 := F.called_set.init.lookup
      have i2 := F.called_set.init.bind (.ref s.heap.objs.size)
      repeat (any_goals (first | wp_step | assumption))
      refine codeAny_mono (codeAny_call_builtin (R := wants (fun r s2 => r = .none ∧ ∃ h' tk L es ep t, s2 = { s with heap := h', toks := tk } ∧ SetTR P w h' s.heap.objs.size L es ep t ∧ Got ks ks.length L ∧ (∀ b o, s.heap.get? b = some o → h'.get? b = some o)) E) F.called_set.init.plain F.entry_set_init (check_set_init_1 ty0 ?_)) fun r2 s2 hr2 => ?_
      · obtain ⟨oT, hol, hcl, nl, hdl⟩ := hl
        obtain ⟨o1, o2, o3, o4⟩ := oT
        simp only at hcl hdl
        subst hcl
        subst hdl
        have hol' : (s.heap.push (set0 w)).get? l = some { cls := .type "tuple", dict := o2, data := .seq items nl, slots := o4 } := Heap.get?_push_of_some _ hol
        have n1 := F.sub_tuple_set
        have n2 := F.sub_tuple_frozenset
        have n3 : (Value.type "tuple" == Value.type "dict") = false := by decide
        have hT : (s.heap.push (set0 w)).IsTuple l items := ⟨_, hol', rfl, nl, rfl⟩
        unfold Builtin.«set.__init__»
        unfold noKeywords Builtin.Frozenset.updateFrom
        generalize hpi : pyIter = pI
        wp_walk
        subst hpi
        refine wpAny_pyIter_tuple hT (wpAny_bind (wpAny_runValue ?_))
        have lS : l < s.heap.objs.size := Heap.lt_size hol
        have h3 : A.in1.in1.in1.handled = none := by simp [hh]
        have neI : l ≠ (s.heap.push (set0 w)).objs.size := by rw [Heap.size_push]; exact Nat.ne_of_lt (Nat.lt_succ_of_lt lS)
        have nS : s.heap.objs.size ∉ [(s.heap.push (set0 w)).objs.size, l] := by
          rw [Heap.size_push]
          intro hm
          rcases List.mem_cons.mp hm with z | z
          · omega
          · exact Nat.ne_of_gt lS (List.mem_singleton.mp z)
        have each : ∀ (i : Nat) (v : Value), items[i]? = some v → ∃ p, ks[i]? = some p ∧ v = .ref p.1 := fun i v hv => by
          rw [← Array.getElem?_toList, hit, List.getElem?_map] at hv
          obtain ⟨p, q1, q2⟩ := Option.map_eq_some_iff.mp hv
          exact ⟨p, q1, q2.symm⟩
        have free : ∀ b, s.heap.objs.size ≤ b → s.heap.get? b = none := fun b hb => by
          cases z : s.heap.get? b with
          | none => rfl
          | some o => exact (Nat.lt_irrefl b (Nat.lt_of_lt_of_le (Heap.lt_size z) hb)).elim
        refine set_update_tups ((Walks.tuple h3 _ l neI items).toS) s.heap.objs.size nS ks hlen hfew each s.heap hk (free _ (Nat.le_refl _)) (fun b hb => free b (by rw [List.mem_singleton.mp hb, Heap.size_push]; omega)) hu (items.size - 0) 0 _ (by omega) (Nat.zero_le _)
          ⟨⟨_, Heap.get?_push_size _ rfl, rfl, rfl⟩, (hT.push _)⟩ (fun b o e => Heap.get?_push_of_some _ (Heap.get?_push_of_some _ e)) ?first ?last
        case first => exact ⟨[], #[], 0, _, setTR_fresh (Heap.get?_push_of_some _ at0), Got.zero ks⟩
        case last =>
          intro s3 L es ep t hm q1 q2 q3
          obtain ⟨h', g2, d', tk', os'⟩ := s3
          cases (show g2 = s.gens from hm.gens)
          cases (show d' = s.drawn from hm.drawn)
          cases (show os' = s.os from hm.os)
          refine wpAny_pure ?_
          show wpAny _ _ (ret .none) _ _ _
          rw [hlen] at q2
          exact wpAny_pure ⟨rfl, h', tk', L, es, ep, t, rfl, q1, q2, q3⟩
      · cases r2 with
        | error e => exact hr2
        | ok f2 =>
          cases f2 with
          | ret r =>
            obtain ⟨rfl, h', tk, L, es, ep, t, rfl, q1, q2, q3⟩ := hr2
            repeat (any_goals (first | wp_step | assumption))
            exact fin _ _ _ _ _ _ q1 q2 q3
          | _ => exact hr2.elim
    | _ => exact hr1.elim
end
section
variable {X : Cx}
def rSetSq (K : PySem.W.Frag) (P : Program) (w : World) : List V → Hp → VK → Prop := fun xs H Q => ∃ (l : Addr) (ks : List (Addr × List Int)), xs = [V.ref l] ∧ (SqL K H l (ks.map fun p => V.ref p.1) ∨ SqT K H l (ks.map fun p => V.ref p.1)) ∧ (∀ p ∈ ks, SqT K H p.1 (p.2.map V.int)) ∧ ks.length < 64 ∧
  ∀ a L, H a = none → (∀ q ∈ L, q ∈ ks) → (∀ q ∈ ks, q.2 ∈ L.map (·.2)) → Q (.ref a) (upd H a (SetTO P w a L))
theorem cr_setSq (hc : X.calm = true) (hu : X.A.units + 64 < cLine) : CallR X (.type "set") (rSetSq X.K X.prog X.w) := by
  intro pins s σ H xs us Q I r ⟨l, ks, e, hl, hk, hf, q⟩
  subst e
  rcases hl with hl | hl
  · exact cr_setOfT hc hu pins s σ H _ us Q I r ⟨l, ks, rfl, hl, hk, hf, q⟩
  rw [Vals.ref1 r]
  obtain ⟨its, rv, pl, hz⟩ := I.tuple hl
  have free : H s.heap.objs.size = none := I.hok.fresh (Nat.le_refl _)
  refine setOfTup (P := X.prog) (w := X.w) ks (I.ok.hd hc) pl (by simpa using refs_of_vals rv) hf (fun p hp => I.isT (hk p hp)) (by omega) fun h' tk L es ep t R g k => ?_
  exact ⟨.ref s.heap.objs.size, upd H s.heap.objs.size (SetTO X.prog X.w s.heap.objs.size L), I.laid (t' := tk) k (Nat.le_refl _) (setTO_new R.t0), rfl, q _ L free (fun p hp => List.mem_of_mem_take (g.sub p hp)) fun p hp => g.all p (by rw [List.take_length]; exact hp)⟩
end
end L2

namespace Rf
open PySem PySem.Spec PyProof.Rows L2
section
variable {X : Cx} {a : Expr} {p p2 q pos : Pos} {cA : Nat → Addr} {W : WX}
end
abbrev PI2 := Int × Int
def pD (x : PI2) : D := .tup [.int x.1, .int x.2]
def prs : List D → Option (List PI2)
  | [] => some []
  | .tup [.int i, .int j] :: r => (prs r).map ((i, j) :: ·)
  | _ :: _ => none
theorem prs_map : ∀ {ds : List D} {xs : List PI2}, prs ds = some xs → ds = xs.map pD := by
  intro ds
  induction ds with
  | nil => intro xs h; cases h; rfl
  | cons d r ih =>
    intro xs h
    unfold prs at h
    split at h
    · cases ‹_ = []›
    · rename_i i j r' e
      cases e
      cases e2 : prs r with
      | none => rw [e2] at h; cases h
      | some ys =>
        rw [e2] at h
        have h : some ((i, j) :: ys) = some xs := h
        cases h
        rw [ih e2]; rfl
    · cases h
@[simp] theorem prs_of : ∀ xs : List PI2, prs (xs.map pD) = some xs
  | [] => rfl
  | x :: xs => by show (prs (xs.map pD)).map ((x.1, x.2) :: ·) = _; rw [prs_of]; rfl
def leP (x y : PI2) : Bool := decide (x.1 < y.1 ∨ (x.1 = y.1 ∧ x.2 ≤ y.2))
def dedP : List PI2 → List PI2
  | [] => []
  | x :: r => if x ∈ r then dedP r else x :: dedP r
theorem mem_dedP {y : PI2} : ∀ {l : List PI2}, y ∈ dedP l ↔ y ∈ l
  | [] => Iff.rfl
  | x :: r => by
    unfold dedP
    by_cases h : x ∈ r
    · rw [if_pos h, mem_dedP (l := r), List.mem_cons]
      exact ⟨.inr, fun q => q.elim (fun e => e ▸ h) id⟩
    · rw [if_neg h, List.mem_cons, List.mem_cons, mem_dedP (l := r)]
theorem dedP_nodup : ∀ l : List PI2, (dedP l).Nodup
  | [] => List.nodup_nil
  | x :: r => by
    unfold dedP
    by_cases h : x ∈ r
    · rw [if_pos h]; exact dedP_nodup r
    · rw [if_neg h]; exact List.nodup_cons.mpr ⟨fun q => h (mem_dedP.mp q), dedP_nodup r⟩
def sortU (l : List PI2) : List PI2 := (dedP l).mergeSort leP
theorem leP_total (a b : PI2) : (leP a b || leP b a) = true := by
  unfold leP
  rw [Bool.or_eq_true, decide_eq_true_iff, decide_eq_true_iff]
  omega
theorem leP_trans (a b c : PI2) (h1 : leP a b = true) (h2 : leP b c = true) : leP a c = true := by
  unfold leP at *
  rw [decide_eq_true_iff] at *
  omega
theorem leP_anti {a b : PI2} (h1 : leP a b = true) (h2 : leP b a = true) : a = b := by
  unfold leP at *
  rw [decide_eq_true_iff] at *
  obtain ⟨a1, a2⟩ := a
  obtain ⟨b1, b2⟩ := b
  simp only at *
  have : a1 = b1 ∧ a2 = b2 := by omega
  rw [this.1, this.2]
theorem sortU_pw (l : List PI2) : (sortU l).Pairwise (fun a b => leP a b = true) := List.pairwise_mergeSort leP_trans leP_total _
theorem sortU_nodup (l : List PI2) : (sortU l).Nodup := (List.mergeSort_perm _ _).nodup_iff.mpr (dedP_nodup l)
theorem mem_sortU {x : PI2} {l : List PI2} : x ∈ sortU l ↔ x ∈ l := by
  unfold sortU
  rw [(List.mergeSort_perm _ _).mem_iff, mem_dedP]
theorem sorted_one : ∀ {l m : List PI2}, l.Nodup → m.Nodup → (∀ x, x ∈ l ↔ x ∈ m) → l.Pairwise (fun a b => leP a b = true) → m.Pairwise (fun a b => leP a b = true) → l = m
  | [], [], _, _, _, _, _ => rfl
  | [], y :: m, _, _, h, _, _ => absurd ((h y).mpr List.mem_cons_self) (by simp)
  | x :: l, [], _, _, h, _, _ => absurd ((h x).mp List.mem_cons_self) (by simp)
  | x :: l, y :: m, n1, n2, h, p1, p2 => by
    obtain ⟨a1, a2⟩ := List.pairwise_cons.mp p1
    obtain ⟨b1, b2⟩ := List.pairwise_cons.mp p2
    obtain ⟨c1, c2⟩ := List.nodup_cons.mp n1
    obtain ⟨d1, d2⟩ := List.nodup_cons.mp n2
    have e : x = y := by
      rcases List.mem_cons.mp ((h x).mp List.mem_cons_self) with z | z
      · exact z
      · rcases List.mem_cons.mp ((h y).mpr List.mem_cons_self) with w | w
        · exact w.symm
        · exact leP_anti (a1 y w) (b1 x z)
    subst e
    congr 1
    refine sorted_one c2 d2 (fun z => ⟨fun hz => ?_, fun hz => ?_⟩) a2 b2
    · rcases List.mem_cons.mp ((h z).mp (List.mem_cons_of_mem _ hz)) with w | w
      · exact absurd (w ▸ hz) c1
      · exact w
    · rcases List.mem_cons.mp ((h z).mpr (List.mem_cons_of_mem _ hz)) with w | w
      · exact absurd (w ▸ hz) d1
      · exact w
def inB (x : PI2) : Bool := decide (0 ≤ x.1 ∧ x.1 < 64 ∧ 0 ≤ x.2 ∧ x.2 < 64)
def itemsD : D → Option (List D)
  | .lst ds => some ds
  | .tup ds => some ds
  | _ => none
theorem rep_items {K : PySem.W.Frag} {G : Addr → Prop} {ρ : List Addr} {H : Hp} {d : D} {ds : List D} {v : V} (h : Rep K G ρ H d v) (e : itemsD d = some ds) : ∃ b vs, v = .ref b ∧ (SqL K H b vs ∨ SqT K H b vs) ∧ RepL K G ρ H ds vs := by
  cases d with
  | lst ds' => cases e; obtain ⟨b, vs, rfl, q1, q2⟩ := h; exact ⟨b, vs, rfl, .inl q1.sq, q2⟩
  | tup ds' => cases e; obtain ⟨b, vs, rfl, q1, q2⟩ := h; exact ⟨b, vs, rfl, .inr (.inl q1), q2⟩
  | _ => cases e
def fSortSet (d : D) (S : Store) : Res (List D) := match itemsD d with
  | some ds => (match prs ds with
    | some xs => if xs.length < 64 ∧ xs.all inB = true then .ok ((sortU xs).map pD) S else .bad
    | none => .bad)
  | none => .bad
section
variable {X : Cx} {a : Expr} {p p2 q pos : Pos} {cA : Nat → Addr} {W : WX}
theorem rep_pairs {K : PySem.W.Frag} {G : Addr → Prop} {ρ : List Addr} {H : Hp} : ∀ {xs : List PI2} {vs : List V}, RepL K G ρ H (xs.map pD) vs → ∃ ks : List (Addr × List Int), vs = ks.map (fun p => V.ref p.1) ∧ ks.map (·.2) = xs.map (fun x => [x.1, x.2]) ∧ ∀ p ∈ ks, Rd H p.1 (.tup (p.2.map V.int))
  | [], vs, h => ⟨[], h, rfl, fun p hp => nomatch hp⟩
  | x :: xs, vs, h => by
    obtain ⟨v, vs', rfl, h1, h2⟩ := h
    obtain ⟨ks, e1, e2, e3⟩ := rep_pairs h2
    obtain ⟨b, ws, rfl, q1, q2⟩ := h1
    have ew : ws = [V.int x.1, V.int x.2] := by
      obtain ⟨v1, _, rfl, z1, v2, _, rfl, z2, rfl⟩ := q2
      cases (show v1 = .int x.1 from z1)
      cases (show v2 = .int x.2 from z2)
      rfl
    subst ew
    refine ⟨(b, [x.1, x.2]) :: ks, by rw [e1]; rfl, by rw [List.map_cons, e2]; rfl, fun p hp => ?_⟩
    rcases List.mem_cons.mp hp with rfl | hp
    · exact q1
    · exact e3 p hp
theorem pairs_rep {K : PySem.W.Frag} {G : Addr → Prop} {ρ : List Addr} {H : Hp} : ∀ {ks : List (Addr × List Int)} {xs : List PI2}, ks.map (·.2) = xs.map (fun x => [x.1, x.2]) → (∀ p ∈ ks, Rd H p.1 (.tup (p.2.map V.int))) → RepL K G ρ H (xs.map pD) (ks.map fun p => V.ref p.1)
  | [], [], _, _ => rfl
  | [], x :: xs, e, _ => by cases e
  | k :: ks, [], e, _ => by cases e
  | k :: ks, x :: xs, e, h => by
    rw [List.map_cons, List.map_cons] at e
    injection e with ea eb
    refine ⟨.ref k.1, ks.map fun p => V.ref p.1, rfl, ⟨k.1, k.2.map V.int, rfl, h k List.mem_cons_self, ?_⟩, pairs_rep eb fun p hp => h p (List.mem_cons_of_mem _ hp)⟩
    rw [ea]
    exact ⟨_, _, rfl, rfl, _, _, rfl, rfl, rfl⟩
theorem jf_sortSet {m : M D} (hc : X.calm = true) (hu : X.A.units + 64 < cLine) (hg : Gl X "sorted") (hm : X.mg "sorted" = none) (hg2 : Gl X "set") (hm2 : X.mg "set" = none) (ha : PE X a (tE X.K cA W m))
    (hs : starEach [a] X.env = (false, eval a X.env) :: starEach [] X.env := by rfl) (hs1 : starEach [.Call (.Name "set" p2) [a] [] q] X.env = (false, eval (.Call (.Name "set" p2) [a] [] q) X.env) :: starEach [] X.env := by rfl) :
    PE X (.Call (.Name "sorted" p) [.Call (.Name "set" p2) [a] [] q] [] pos) (tFr X.K cA W (fun env S => (m env S).bind fun d S1 => fSortSet d S1)) := by
  refine pe_imp (pe_callB (cr_sortedT hc) hg hm (by decide +kernel) (pa_cons (pe_callTy (cr_setSq hc hu) hg2 hm2 (by decide +kernel) (pa_cons ha pa_nil hs) (he := hs)) pa_nil hs1) (he := hs1)) ?_
  rintro σ H Q ⟨G, ρ, env, S, hE, hS, h⟩
  refine ⟨G, ρ, env, S, hE, hS, OkF.bind h fun x S1 v ρ1 H1 r1 x1 k1 h1 => ?_⟩
  unfold fSortSet at h1
  split at h1
  · rename_i ds eds
    split at h1
    · rename_i xs ex
      by_cases hl : xs.length < 64 ∧ xs.all inB = true
      · rw [if_pos hl] at h1
        obtain ⟨b, vs, rfl, q1, q2⟩ := rep_items x1 eds
        rw [prs_map ex] at q2
        obtain ⟨ks, e1, e2, e3⟩ := rep_pairs q2
        have hkl : ks.length = xs.length := by rw [← List.length_map (f := (·.2)), e2, List.length_map]
        refine ⟨b, ks, rfl, by rw [← e1]; exact q1, fun p hp => .inl (e3 p hp), by rw [hkl]; exact hl.1, fun sA L hn hL1 hL2 => ?_⟩
        have kN : Keep G ρ1 H1 ρ1 (upd H1 sA (SetTO X.prog X.w sA L)) := Keep.new hn r1.gt
        have mem_xs : ∀ p ∈ ks, ∃ x ∈ xs, p.2 = [x.1, x.2] := fun p hp => by
          have : p.2 ∈ ks.map (·.2) := List.mem_map.mpr ⟨p, hp, rfl⟩
          rw [e2] at this
          obtain ⟨x, hx, ex⟩ := List.mem_map.mp this
          exact ⟨x, hx, ex.symm⟩
        have bnd : ∀ x ∈ xs, 0 ≤ x.1 ∧ x.1 < 64 ∧ 0 ≤ x.2 ∧ x.2 < 64 := fun x hx => of_decide_eq_true (List.all_eq_true.mp hl.2 x hx)
        refine ⟨sA, L, 2, 64, rfl, upd_same, fun p hp => kN.sqT (.inl (e3 p (hL1 p hp))), by decide, fun p hp => ?_, fun L' pA hperm hnd h64 hpw hn2 => ?_⟩
        · obtain ⟨x, hx, ep⟩ := mem_xs p (hL1 p hp)
          have hb := bnd x hx
          rw [ep]
          refine ⟨rfl, ?_⟩
          intro y hy
          simp at hy
          rcases hy with rfl | rfl
          · exact ⟨hb.1, hb.2.1⟩
          · exact ⟨hb.2.2.1, hb.2.2.2⟩
        · -- the list is the sorted one
          have hL'k : ∀ p ∈ L', p ∈ ks := fun p hp => hL1 p (hperm.mem_iff.mp hp)
          obtain ⟨ys, ey, hys⟩ : ∃ ys : List PI2, L'.map (·.2) = ys.map (fun x => [x.1, x.2]) ∧ ∀ y ∈ ys, y ∈ xs := by
            clear hpw h64 hnd hperm
            induction L' with
            | nil => exact ⟨[], rfl, fun y hy => nomatch hy⟩
            | cons p L' ih =>
              obtain ⟨ys, ey, hys⟩ := ih fun q hq => hL'k q (List.mem_cons_of_mem _ hq)
              obtain ⟨x, hx, ep⟩ := mem_xs p (hL'k p List.mem_cons_self)
              refine ⟨x :: ys, by rw [List.map_cons, List.map_cons, ey, ep], fun y hy => ?_⟩
              rcases List.mem_cons.mp hy with rfl | hy
              · exact hx
              · exact hys y hy
          have inj : ∀ x y : PI2, ([x.1, x.2] : List Int) = [y.1, y.2] → x = y := fun x y e => by
            injection e with e1 e2
            injection e2 with e2 _
            exact Prod.ext e1 e2
          have ynd : ys.Nodup := by
            rw [ey] at hnd
            exact List.Pairwise.of_map (fun x : PI2 => ([x.1, x.2] : List Int)) (fun a b hne e => hne (by rw [e])) hnd
          have ymem : ∀ x, x ∈ ys ↔ x ∈ xs := fun x => by
            refine ⟨hys x, fun hx => ?_⟩
            have h1 : ([x.1, x.2] : List Int) ∈ ks.map (·.2) := by rw [e2]; exact List.mem_map.mpr ⟨x, hx, rfl⟩
            obtain ⟨p, hp, ep⟩ := List.mem_map.mp h1
            have h2 := hL2 p hp
            rw [ep] at h2
            have h3 : ([x.1, x.2] : List Int) ∈ L'.map (·.2) := (hperm.map (·.2)).mem_iff.mpr h2
            rw [ey] at h3
            obtain ⟨y, hy, e⟩ := List.mem_map.mp h3
            rw [← inj y x e]; exact hy
          have ypw : ys.Pairwise (fun a b => leP a b = true) := by
            have hpw2 : (L'.map (·.2)).Pairwise (fun u v => TS.code 64 u ≤ TS.code 64 v) := List.pairwise_map.mpr hpw
            rw [ey, List.pairwise_map] at hpw2
            refine List.Pairwise.imp_of_mem (fun {a b} ha hb hab => ?_) hpw2
            have ba := bnd a (hys a ha)
            have bb := bnd b (hys b hb)
            rw [code_pair, code_pair] at hab
            unfold leP
            rw [decide_eq_true_iff]
            omega
          have eys : ys = sortU xs := sorted_one ynd (sortU_nodup xs) (fun x => by rw [ymem x, mem_sortU]) ypw (sortU_pw xs)
          refine h1 pA (L'.map fun q => V.ref q.1) ρ1 _ (r1.new hn) ?_ kN hn2
          rw [← eys]
          exact RepL.keep kN _ _ (pairs_rep ey fun p hp => e3 p (hL'k p hp))
      · rw [if_neg hl] at h1; exact h1.elim
    · exact h1.elim
  · exact h1.elim
def cellOf (S : Store) : D → Option (Nat × List D)
  | .cell n => match S[n]? with
    | some (.lst ds) => some (n, ds)
    | _ => none
  | _ => none
theorem cellOf_some {S : Store} {d : D} {n : Nat} {ds : List D} (h : cellOf S d = some (n, ds)) : d = .cell n ∧ S[n]? = some (.lst ds) := by
  cases d with
  | cell k =>
    unfold cellOf at h
    dsimp only at h
    cases e : S[k]? with
    | none => rw [e] at h; cases h
    | some o =>
      rw [e] at h
      cases o with
      | lst xs => cases h; exact ⟨rfl, e⟩
      | dK kvs => cases h
      | dI kvs => cases h
      | ins _ _ => cases h
      | dS _ => cases h
      | gone => cases h
  | _ => cases h
def MtD (K : PySem.W.Frag) (r : V → List V → Hp → VK → Prop) (f : D → List D → Store → Res D) : Prop :=
  ∀ G ρ H S d ds v vs E Q, RelS K G ρ S H → Rep K G ρ H d v → RepL K G ρ H ds vs → Ok K G (Rep K G) ρ H (f d ds S) E Q → r v vs H Q
def eMt (f : D → List D → Store → Res D) (T : D → Store → Bool) (mo : M D) (ma : M (List D)) : M D := fun env S => (mo env S).bind fun o S1 => if T o S1 = true then (ma env S1).bind fun xs S2 => f o xs S2 else .bad
def isLst (d : D) (S : Store) : Bool := (seqOf S d).isSome && !isTup d
def TyD (K : PySem.W.Frag) (T : String) (t : D → Store → Bool) : Prop := ∀ G ρ H S d v, RelS K G ρ S H → Rep K G ρ H d v → t d S = true → tyV K T v H
theorem tyd_list {K : PySem.W.Frag} : TyD K "list" isLst := by
  intro G ρ H S d v r x h
  unfold isLst at h
  rw [Bool.and_eq_true] at h
  cases e : seqOf S d with
  | none => rw [e] at h; cases h.1
  | some xs =>
    obtain ⟨a, vs, rfl, h1, h2⟩ := rep_seq r x e
    have ht : isTup d = false := by simpa using h.2
    rw [if_neg (by rw [ht]; decide)] at h1
    exact .inl ⟨rfl, _, h1⟩
theorem je_mt {o e : Expr} {es : List Expr} {T : String} {name : Str} {apos : Pos} {mo : M D} {ma : M (List D)} {r : V → List V → Hp → VK → Prop} {f : D → List D → Store → Res D} {t : D → Store → Bool} (hty' : TyD X.K T t) (hd : MtD X.K r f)
    (hpe : PE X (.Call (.Attribute o name apos) (e :: es) [] pos) (tBM X.K T r (tE X.K cA W mo) (tAr X.K cA W ma))) : PE X (.Call (.Attribute o name apos) (e :: es) [] pos) (tE X.K cA W (eMt f t mo ma)) := by
  refine pe_imp hpe ?_
  rintro σ H Q ⟨G, ρ, env, S, hE, hS, h⟩
  refine ⟨G, ρ, env, S, hE, hS, Ok.bind h fun x S1 v ρ1 H1 r1 x1 k1 h1 => ?_⟩
  by_cases ht : t x S1 = true
  · rw [if_pos ht] at h1
    refine ⟨hty' G ρ1 H1 S1 x v r1 x1 ht, G, ρ1, env, S1, hE.keep k1, r1, Ok.bind h1 fun xs S2 vs ρ2 H2 r2 x2 k2 h2 => ?_⟩
    exact hd G ρ2 H2 S2 x xs v vs _ Q r2 (Rep.keep k2 _ _ x1) x2 h2
  · rw [if_neg ht] at h1; exact h1.elim
def dAppend (d : D) (xs : List D) (S : Store) : Res D := match cellOf S d, xs with
  | some (n, ds), [y] => if ds.length < big then .ok .non (S.set n (.lst (ds ++ [y]))) else .bad
  | _, _ => .bad
theorem md_append {K : PySem.W.Frag} : MtD K rAppend dAppend := by
  intro G ρ H S d ds v vs E Q r x1 x2 h
  unfold dAppend at h
  split at h
  · rename_i n xs y ec
    obtain ⟨rfl, eS⟩ := cellOf_some ec
    obtain ⟨a, rfl, ha⟩ := x1
    obtain ⟨w, _, rfl, q1, rfl⟩ := x2
    obtain ⟨ws, h1, h2⟩ := r.ob n _ a eS ha
    by_cases hl : xs.length < big
    · rw [if_pos hl] at h
      refine ⟨a, ws, w, rfl, rfl, h1, by rw [h2.length]; exact big_lt hl, ?_⟩
      have k : Keep G ρ H ρ (upd H a (.lst (ws ++ [w]))) := Keep.write (List.mem_of_getElem? ha) (r.ng a (List.mem_of_getElem? ha)) (.inl ⟨_, h1⟩)
      obtain ⟨r', k'⟩ := r.write (o := .lst (xs ++ [y])) (u := .lst (ws ++ [w])) ha (.inl ⟨_, h1⟩) ⟨_, upd_same, RepL.keep k _ _ (h2.snoc q1)⟩
      exact h .non ρ _ r' rfl k'
    · rw [if_neg hl] at h; exact h.elim
  · exact h.elim
def dSetL (o i v : D) (S : Store) : Option Store := match cellOf S o, i with
  | some (n, ds), .int k => (match ixN ds.length k with
    | some j => some (S.set n (.lst (ds.set j v)))
    | none => none)
  | _, _ => none
theorem sd_setL {K : PySem.W.Frag} : SetD K rSetL dSetL := by
  intro G ρ H S do_ di dv o i v S' r x1 x2 x3 e Q q
  unfold dSetL at e
  split at e
  · rename_i n ds k ec
    obtain ⟨rfl, eS⟩ := cellOf_some ec
    obtain ⟨a, rfl, ha⟩ := x1
    cases (show i = .int k from x2)
    obtain ⟨ws, h1, h2⟩ := r.ob n _ a eS ha
    split at e
    · rename_i j ej
      cases e
      refine ⟨a, ws, k, j, rfl, rfl, h1, by rw [h2.length]; exact ej, ?_⟩
      have kk : Keep G ρ H ρ (upd H a (.lst (ws.set j v))) := Keep.write (List.mem_of_getElem? ha) (r.ng a (List.mem_of_getElem? ha)) (.inl ⟨_, h1⟩)
      obtain ⟨r', k'⟩ := r.write (o := .lst (ds.set j dv)) (u := .lst (ws.set j v)) ha (.inl ⟨_, h1⟩) ⟨_, upd_same, RepL.keep kk _ _ (h2.set j x3)⟩
      exact q _ r' k'
    · cases e
  · cases e
end
end Rf

namespace Rf
open PySem PySem.Spec PyProof.Rows L2
section
variable {X : Cx} {a b c d : Expr} {pos : Pos} {cA : Nat → Addr} {W : WX}
def isNon : D → Bool
  | .non => true
  | _ => false
def dIsN (neg : Bool) (d e : D) (S : Store) : Res D := match e with
  | .non => .ok (.bl (if neg then !isNon d else isNon d)) S
  | _ => .bad
theorem rep_non {K : PySem.W.Frag} {G : Addr → Prop} {ρ : List Addr} {H : Hp} {d : D} {v : V} (h : Rep K G ρ H d v) : decide (v = .non) = isNon d := by
  cases d with
  | non => rw [show v = .non from h]; rfl
  | bl b => rw [show v = .bl b from h]; rfl
  | int b => rw [show v = .int b from h]; rfl
  | str b => rw [show v = .str b from h]; rfl
  | ty b => rw [show v = .ty b from h]; rfl
  | tup ds => obtain ⟨a, vs, rfl, _⟩ := h; rfl
  | lst ds => obtain ⟨a, vs, rfl, _⟩ := h; rfl
  | fz ds => obtain ⟨a, vs, rfl, _⟩ := h; rfl
  | cell n => obtain ⟨a, rfl, _⟩ := h; rfl
  | exc x => obtain ⟨a, C, rfl, _⟩ := ExV.ex h; rfl
  | cl x => obtain ⟨C, rfl, _⟩ := ClV.ex h; rfl
  | dct _ _ _ => obtain ⟨a, _, _, _, _, rfl, _⟩ := h; rfl
theorem od_isN {K : PySem.W.Frag} : OpD K (fun x y H Q => y = .non ∧ Q (.bl (decide (x = .non))) H) (dIsN false) := by
  intro G ρ H S d1 d2 v1 v2 E Q r x1 x2 h
  cases d2 with
  | non => exact ⟨x2, by rw [rep_non x1]; exact h.now r rfl⟩
  | _ => exact h.elim
theorem od_notN {K : PySem.W.Frag} : OpD K (fun x y H Q => y = .non ∧ Q (.bl (!decide (x = .non))) H) (dIsN true) := by
  intro G ρ H S d1 d2 v1 v2 E Q r x1 x2 h
  cases d2 with
  | non => exact ⟨x2, by rw [rep_non x1]; exact h.now r rfl⟩
  | _ => exact h.elim
def bls : List D → Option (List Bool)
  | [] => some []
  | .bl i :: r => (bls r).map (i :: ·)
  | _ :: _ => none
@[simp] theorem bls_of : ∀ ns : List Bool, bls (ns.map .bl) = some ns
  | [] => rfl
  | n :: ns => by show (bls (ns.map .bl)).map (n :: ·) = _; rw [bls_of]; rfl
end
end Rf

namespace Rf
open PySem PySem.Spec PyProof.Rows L2
theorem hu65 {k : Nat} {A : Around} (hr : RoomG k A) : A.units + 65 < cLine := by have := hr.un; omega
theorem no_cx {P : Program} {w : World} {l : List Env} {H : Hp} {s : Shared} {e : Value} {s' : Shared} (h : L2.CX P w l H s (fun _ _ _ => False) e s') : False := by
  obtain ⟨_, _, _, _, _, _, _, _, _, _, _, _, z⟩ := h
  exact z
theorem rep_script {K : PySem.W.Frag} {G : Addr → Prop} {ρ : List Addr} {H : Hp} : ∀ ns : List Int, RepL K G ρ H (ns.map .int) (ns.map V.int)
  | [] => rfl
  | n :: ns => ⟨.int n, ns.map V.int, rfl, rfl, rep_script ns⟩
theorem law_sp {K : PySem.W.Frag} {cA : Nat → Addr} {m : List D → Store → Res D} {H : Hp} {a : Addr} {ns : List Int} {E : XK} (hm : ∃ S', m [.fz (ns.map .int)] [] = .ok (.bl true) S') (hO : Only H) (hS : SqL K H a (ns.map V.int)) :
    spF K cA 1 m [.ref a] H (fun v _ => v = .bl true) E := by
  obtain ⟨S', e⟩ := hm
  have hz : FzL K H a (ns.map V.int) := by
    rcases hS with (h | h) | h
    · rcases hO a with q | ⟨o, xs, q⟩
      · rw [h] at q; cases q
      · rw [h] at q; cases q
    · exact .inl h
    · exact .inr h
  refine ⟨rfl, fun _ => False, [], [], [.fz (ns.map .int)], ⟨rfl, List.nodup_nil, (fun _ h => nomatch h), (fun _ h => h.elim), (fun b o e => by
    rcases hO b with q | ⟨o', xs, q⟩
    · rw [e] at q; cases q
    · rw [e] at q; cases q; exact True.intro), fun i o b h => by simp at h⟩, ⟨.ref a, [], rfl, ⟨a, _, rfl, hz, rep_script ns⟩, rfl⟩, ?_⟩
  rw [e]
  intro v ρ' H' _ hv _
  exact hv
end Rf

namespace Rf
open PySem PySem.Spec PyProof.Rows L2
theorem fin_val {S S' : Store} {d : D} (h : stOk S S') (hp : pureD d = true) : fin .val S d S' = .ok d (S'.take S.length) := by
  unfold fin
  rw [if_pos h]
  dsimp only
  rw [if_pos hp]
theorem stOk_set {S L : Store} {k : Nat} {xs : List D} (hp : pureL xs = true) : stOk S (S.set k (.lst xs) ++ L) := by
  refine ⟨by simp, fun i hi => ?_⟩
  rw [List.getElem?_append_left (by simpa using hi)]
  by_cases e : i = k
  · subst e
    exact .inr ⟨.lst xs, by rw [List.getElem?_set_self hi], hp⟩
  · exact .inl (List.getElem?_set_ne (Ne.symm e))
theorem run_set {N : Nat} {body : MS} {ds : List D} {S L : Store} {d : D} {k : Nat} {xs : List D} (h : body (ds.map some ++ List.replicate (N - ds.length) none) S = .ret d (S.set k (.lst xs) ++ L)) (hp : pureD d = true) (hx : pureL xs = true) : runFn .val N body ds S = .ok d (S.set k (.lst xs)) := by
  unfold runFn
  rw [h]
  show fin .val S d _ = _
  rw [fin_val (stOk_set hx) hp]
  have e : S.length = (S.set k (.lst xs)).length := by simp
  rw [e, List.take_left]
theorem run_own {N : Nat} {body : MS} {ds : List D} {S : Store} {xs : List D} (h : body (ds.map some ++ List.replicate (N - ds.length) none) S = .ret (.cell S.length) (S ++ [.lst xs])) (hx : pureL xs = true) : runFn .own N body ds S = .ok (.cell S.length) (S ++ [.lst xs]) := by
  unfold runFn
  rw [h]
  show fin .own S _ _ = _
  unfold fin
  rw [if_pos (stOk_app S _)]
  dsimp only
  rw [if_pos (Nat.le_refl _)]
  have e : (S ++ [Ob.lst xs])[S.length]? = some (.lst xs) := by rw [List.getElem?_append_right (Nat.le_refl _)]; simp
  rw [e]
  dsimp only
  rw [if_pos hx, List.take_left]
@[simp] theorem pureL_map {α : Type} {f : α → D} (h : ∀ x, pureD (f x) = true) : ∀ l : List α, pureL (l.map f) = true
  | [] => rfl
  | x :: l => by show (pureD (f x) && pureL (l.map f)) = true; rw [h x, pureL_map h l]; rfl
end Rf

namespace HT
open PySem PySem.Spec PyProof.Rows
section
variable {prog : Program} {w : World} {A : Around} {E : Value → Shared → Prop} {s : Shared}
end
end HT
namespace Rf
open PySem PySem.Spec PyProof.Rows L2
section
variable {X : Cx} {e : Expr} {pos : Pos} {cA : Nat → Addr} {W : WX}
end
end Rf
namespace Rf
end Rf
namespace Rf
end Rf
namespace Rf
end Rf
namespace Rf
end Rf
namespace Rf
end Rf

namespace Rf
open PySem PySem.Spec PyProof.Rows L2
inductive R (α : Type) where
  | ok (a : α)
  | err (c : Nat)
  | bad
def R.bind {α β : Type} (r : R α) (f : α → R β) : R β := match r with
  | .ok a => f a
  | .err c => .err c
  | .bad => .bad
@[simp] theorem R.ok_bind {α β : Type} (a : α) (f : α → R β) : (R.ok a).bind f = f a := rfl
@[simp] theorem R.err_bind {α β : Type} (c : Nat) (f : α → R β) : (R.err c : R α).bind f = .err c := rfl
@[simp] theorem R.bad_bind {α β : Type} (f : α → R β) : (R.bad : R α).bind f = .bad := rfl
inductive Sl where
  | u
  | v (d : D)
  | c (ds : List D)
  | r (ds : List D)
  | f (q : Option Nat) (o : Ob)
  | n (dss : List (List D))
  | o (k : Nat) (f : Nat → List Ob)
  | q (k : Nat) (f : Nat → List Ob)
  | p (m : Nat) (f : Nat → List Ob)
structure Bs where
  S0 : Store
  Q : List Nat
def cno : D → Option Nat
  | .cell n => some n
  | _ => none
def mc : Option D → Sl → List Nat
  | some (.cell n), .c _ => [n]
  | some (.cell n), .f _ _ => [n]
  | some (.lst ds), .n _ => ds.filterMap cno
  | some (.cell n), .o k _ => List.range' n k
  | some (.cell n), .p m _ => List.range' (n - m) (m + 1)
  | _, _ => []
def rc : Option D → Sl → List Nat
  | some (.cell n), .r _ => [n]
  | some (.cell n), .q k _ => List.range' n k
  | o, s => mc o s
def SlR (S : Store) (o : Option D) : Sl → Prop
  | .u => True
  | .v d => o = some d
  | .c ds => ∃ n, o = some (.cell n) ∧ S[n]? = some (.lst ds)
  | .r ds => ∃ d, o = some d ∧ seqOf S d = some ds ∧ isTup d = false
  | .f q ob => ∃ n, o = some (.cell n) ∧ S[n]? = some ob ∧ ∀ k, q = some k → n = k
  | .n dss => ∃ ns : List Nat, o = some (.lst (ns.map .cell)) ∧ ns.Nodup ∧ ns.length = dss.length ∧ ∀ (i : Nat) (n : Nat), ns[i]? = some n → ∃ ds, dss[i]? = some ds ∧ S[n]? = some (.lst ds)
  | .o k f => ∃ n, o = some (.cell n) ∧ (f n).length = k ∧ ∀ (i : Nat) (ob : Ob), (f n)[i]? = some ob → S[n + i]? = some ob
  | .q k f => ∃ n, o = some (.cell n) ∧ (f n).length = k ∧ ∀ (i : Nat) (ob : Ob), (f n)[i]? = some ob → S[n + i]? = some ob
  | .p m f => ∃ b, o = some (.cell (b + m)) ∧ (f b).length = m + 1 ∧ ∀ (i : Nat) (ob : Ob), (f b)[i]? = some ob → S[b + i]? = some ob
structure Fr (B : Bs) (S : Store) : Prop where
  len : B.S0.length ≤ S.length
  same : ∀ i, i < B.S0.length → i ∉ B.Q → S[i]? = B.S0[i]?
structure SRel (B : Bs) (sl : List Sl) (env : En) (S : Store) : Prop where
  len : env.length = sl.length
  at_ : ∀ (i : Nat) (s : Sl) (o : Option D), sl[i]? = some s → env[i]? = some o → SlR S o s
  dis : ∀ (i j : Nat) (s s' : Sl) (o o' : Option D), i ≠ j → sl[i]? = some s → env[i]? = some o → sl[j]? = some s' → env[j]? = some o' → ∀ x, x ∈ mc o s → x ∉ rc o' s'
  own : ∀ (i : Nat) (s : Sl) (o : Option D), sl[i]? = some s → env[i]? = some o → ∀ x, x ∈ mc o s → B.S0.length ≤ x ∨ (x ∈ B.Q ∧ ∃ q ob, s = .f q ob)
  frm : Fr B S
section
variable {B : Bs} {sl : List Sl} {env : En} {S : Store}
theorem SRel.env_at (r : SRel B sl env S) {i : Nat} {s : Sl} (h : sl[i]? = some s) : ∃ o, env[i]? = some o ∧ SlR S o s := by
  have hi : i < env.length := by rw [r.len]; exact (List.getElem?_eq_some_iff.mp h).1
  exact ⟨env[i], List.getElem?_eq_getElem hi, r.at_ i s _ h (List.getElem?_eq_getElem hi)⟩
theorem SRel.v (r : SRel B sl env S) {i : Nat} {d : D} (h : sl[i]? = some (.v d)) : env[i]? = some (some d) := by
  obtain ⟨o, e, q⟩ := r.env_at h
  rw [e, show o = some d from q]
theorem SRel.c (r : SRel B sl env S) {i : Nat} {ds : List D} (h : sl[i]? = some (.c ds)) : ∃ n, env[i]? = some (some (.cell n)) ∧ S[n]? = some (.lst ds) := by
  obtain ⟨o, e, n, rfl, q⟩ := r.env_at h
  exact ⟨n, e, q⟩
theorem SRel.r (r : SRel B sl env S) {i : Nat} {ds : List D} (h : sl[i]? = some (.r ds)) : ∃ d, env[i]? = some (some d) ∧ seqOf S d = some ds ∧ isTup d = false := by
  obtain ⟨o, e, d, rfl, q⟩ := r.env_at h
  exact ⟨d, e, q⟩
theorem SRel.f (r : SRel B sl env S) {i : Nat} {ob : Ob} {q : Option Nat} (h : sl[i]? = some (.f q ob)) : ∃ n, env[i]? = some (some (.cell n)) ∧ S[n]? = some ob ∧ ∀ k, q = some k → n = k := by
  obtain ⟨o, e, n, rfl, q⟩ := r.env_at h
  exact ⟨n, e, q⟩
theorem rc_lt {o : Option D} {s : Sl} (h : SlR S o s) {x : Nat} (hx : x ∈ rc o s) : x < S.length := by
  have lt : ∀ {n : Nat} {ob : Ob}, S[n]? = some ob → n < S.length := fun h => (List.getElem?_eq_some_iff.mp h).1
  cases s with
  | u => cases o with
    | none => cases hx
    | some d => cases d <;> cases hx
  | v d => cases (show o = some d from h); cases d <;> cases hx
  | c ds => obtain ⟨n, rfl, e⟩ := h; rw [List.mem_singleton.mp hx]; exact lt e
  | f q ds => obtain ⟨n, rfl, e, _⟩ := h; rw [List.mem_singleton.mp hx]; exact lt e
  | r ds =>
    obtain ⟨d, rfl, e, _⟩ := h
    cases d with
    | cell n =>
      rw [List.mem_singleton.mp hx]
      unfold seqOf at e
      dsimp only at e
      cases eo : S[n]? with
      | none => rw [eo] at e; cases e
      | some ob => exact lt eo
    | _ => cases hx
  | n dss =>
    obtain ⟨ns, rfl, _, _, h⟩ := h
    obtain ⟨d, hd, e⟩ := List.mem_filterMap.mp (show x ∈ (ns.map D.cell).filterMap cno from hx)
    obtain ⟨m, hm, rfl⟩ := List.mem_map.mp hd
    cases (show some m = some x from e)
    obtain ⟨i, hi, e⟩ := List.getElem_of_mem hm
    obtain ⟨ds, _, q⟩ := h i x (by rw [List.getElem?_eq_getElem hi, e])
    exact lt q
  | o k f =>
    obtain ⟨n, rfl, hk, h⟩ := h
    obtain ⟨i, hi, rfl⟩ := List.mem_range'.mp (show x ∈ List.range' n k from hx)
    rw [Nat.one_mul]
    exact lt (h i _ (List.getElem?_eq_getElem (by omega)))
  | q k f =>
    obtain ⟨n, rfl, hk, h⟩ := h
    obtain ⟨i, hi, rfl⟩ := List.mem_range'.mp (show x ∈ List.range' n k from hx)
    rw [Nat.one_mul]
    exact lt (h i _ (List.getElem?_eq_getElem (by omega)))
  | p m f =>
    obtain ⟨b, rfl, hk, h⟩ := h
    obtain ⟨i, hi, e⟩ := List.mem_range'.mp (show x ∈ List.range' (b + m - m) (m + 1) from hx)
    have : x = b + i := by omega
    rw [this]
    exact lt (h i _ (List.getElem?_eq_getElem (by omega)))
theorem mc_rc {o : Option D} {s : Sl} {x : Nat} (h : x ∈ mc o s) : x ∈ rc o s := by
  cases s with
  | r ds => cases o with
    | none => cases h
    | some d => cases d <;> cases h
  | q k f => cases o with
    | none => cases h
    | some d => cases d <;> cases h
  | _ => cases o with
    | none => exact h
    | some d => cases d <;> exact h
theorem SlR.same {S' : Store} {o : Option D} {s : Sl} (h : SlR S o s) (k : ∀ x ∈ rc o s, S'[x]? = S[x]?) : SlR S' o s := by
  cases s with
  | u => trivial
  | v d => exact h
  | c ds => obtain ⟨n, rfl, e⟩ := h; exact ⟨n, rfl, by rw [k n (List.mem_singleton.mpr rfl)]; exact e⟩
  | f q ds => obtain ⟨n, rfl, e, e2⟩ := h; exact ⟨n, rfl, by rw [k n (List.mem_singleton.mpr rfl)]; exact e, e2⟩
  | r ds =>
    obtain ⟨d, rfl, e, e2⟩ := h
    refine ⟨d, rfl, ?_, e2⟩
    cases d with
    | cell n =>
      unfold seqOf at e ⊢
      dsimp only at e ⊢
      rw [k n (List.mem_singleton.mpr rfl)]
      exact e
    | _ => exact e
  | n dss =>
    obtain ⟨ns, rfl, e1, e2, h⟩ := h
    refine ⟨ns, rfl, e1, e2, fun i n hn => ?_⟩
    obtain ⟨ds, q1, q2⟩ := h i n hn
    refine ⟨ds, q1, ?_⟩
    rw [k n (List.mem_filterMap.mpr ⟨.cell n, List.mem_map.mpr ⟨n, List.mem_of_getElem? hn, rfl⟩, rfl⟩)]
    exact q2
  | o m f =>
    obtain ⟨n, rfl, hk, h⟩ := h
    refine ⟨n, rfl, hk, fun i ob hi => ?_⟩
    have hl := (List.getElem?_eq_some_iff.mp hi).1
    rw [k (n + i) (List.mem_range'.mpr ⟨i, by omega, by rw [Nat.one_mul]⟩)]
    exact h i ob hi
  | q m f =>
    obtain ⟨n, rfl, hk, h⟩ := h
    refine ⟨n, rfl, hk, fun i ob hi => ?_⟩
    have hl := (List.getElem?_eq_some_iff.mp hi).1
    rw [k (n + i) (List.mem_range'.mpr ⟨i, by omega, by rw [Nat.one_mul]⟩)]
    exact h i ob hi
  | p m f =>
    obtain ⟨b, rfl, hk, h⟩ := h
    refine ⟨b, rfl, hk, fun i ob hi => ?_⟩
    have hl := (List.getElem?_eq_some_iff.mp hi).1
    rw [k (b + i) (List.mem_range'.mpr ⟨i, by omega, by omega⟩)]
    exact h i ob hi
theorem set_some {α : Type} {l : List α} {i j : Nat} {a b : α} (h : (l.set i a)[j]? = some b) : (j = i ∧ b = a) ∨ (j ≠ i ∧ l[j]? = some b) := by
  by_cases e : j = i
  · subst e
    have hl : j < (l.set j a).length := (List.getElem?_eq_some_iff.mp h).1
    rw [List.length_set] at hl
    rw [List.getElem?_set_self hl] at h
    cases h
    exact .inl ⟨rfl, rfl⟩
  · rw [List.getElem?_set_ne (Ne.symm e)] at h
    exact .inr ⟨e, h⟩
theorem SRel.put (r : SRel B sl env S) {S' : Store} {i : Nat} {s : Sl} {o : Option D} (hs : SlR S' o s) (ho : ∀ x ∈ mc o s, B.S0.length ≤ x ∨ (x ∈ B.Q ∧ ∃ q ob, s = .f q ob))
    (hk : ∀ j s' o', j ≠ i → sl[j]? = some s' → env[j]? = some o' → (∀ x ∈ rc o' s', S'[x]? = S[x]?) ∧ (∀ x ∈ mc o s, x ∉ rc o' s') ∧ (∀ x ∈ mc o' s', x ∉ rc o s)) (hf : Fr B S') : SRel B (sl.set i s) (env.set i o) S' := by
  refine ⟨by rw [List.length_set, List.length_set]; exact r.len, fun j s1 o1 h1 h2 => ?_, fun j k s1 s2 o1 o2 hjk h1 h2 h3 h4 x hx => ?_, fun j s1 o1 h1 h2 x hx => ?_, hf⟩
  · rcases set_some h1 with ⟨rfl, rfl⟩ | ⟨e, h1⟩
    · rcases set_some h2 with ⟨_, rfl⟩ | ⟨e, _⟩
      · exact hs
      · exact absurd rfl e
    · rcases set_some h2 with ⟨e2, _⟩ | ⟨_, h2⟩
      · exact absurd e2 e
      · exact (r.at_ j s1 o1 h1 h2).same (hk j s1 o1 e h1 h2).1
  · rcases set_some h1 with ⟨e1, f1⟩ | ⟨e1, g1⟩
    · rcases set_some h2 with ⟨_, f2⟩ | ⟨e, _⟩
      · rcases set_some h3 with ⟨e, _⟩ | ⟨e3, g3⟩
        · exact absurd (e1.trans e.symm) hjk
        · rcases set_some h4 with ⟨e, _⟩ | ⟨_, g4⟩
          · exact absurd e e3
          · rw [f1, f2] at hx; exact (hk k s2 o2 e3 g3 g4).2.1 x hx
      · exact absurd e1 e
    · rcases set_some h2 with ⟨e2, _⟩ | ⟨_, g2⟩
      · exact absurd e2 e1
      · rcases set_some h3 with ⟨e3, f3⟩ | ⟨e3, g3⟩
        · rcases set_some h4 with ⟨_, f4⟩ | ⟨e, _⟩
          · rw [f3, f4]; exact (hk j s1 o1 e1 g1 g2).2.2 x hx
          · exact absurd e3 e
        · rcases set_some h4 with ⟨e, _⟩ | ⟨_, g4⟩
          · exact absurd e e3
          · exact r.dis j k s1 s2 o1 o2 hjk g1 g2 g3 g4 x hx
  · rcases set_some h1 with ⟨rfl, rfl⟩ | ⟨e, h1⟩
    · rcases set_some h2 with ⟨_, rfl⟩ | ⟨e, _⟩
      · exact ho x hx
      · exact absurd rfl e
    · rcases set_some h2 with ⟨e2, _⟩ | ⟨_, h2⟩
      · exact absurd e2 e
      · exact r.own j s1 o1 h1 h2 x hx
theorem rc_u (o : Option D) : rc o .u = [] := by cases o with
  | none => rfl
  | some d => cases d <;> rfl
theorem rc_v (o : Option D) (d : D) : rc o (.v d) = [] := by cases o with
  | none => rfl
  | some d => cases d <;> rfl
theorem mc_v (o : Option D) (d : D) : mc o (.v d) = [] := by cases o with
  | none => rfl
  | some d => cases d <;> rfl
theorem mc_u (o : Option D) : mc o .u = [] := by cases o with
  | none => rfl
  | some d => cases d <;> rfl
theorem mc_r (o : Option D) (ds : List D) : mc o (.r ds) = [] := by cases o with
  | none => rfl
  | some d => cases d <;> rfl
theorem mc_q (o : Option D) (k : Nat) (f : Nat → List Ob) : mc o (.q k f) = [] := by cases o with
  | none => rfl
  | some d => cases d <;> rfl
theorem SRel.set_v (r : SRel B sl env S) (i : Nat) (d : D) : SRel B (sl.set i (.v d)) (env.set i (some d)) S :=
  r.put rfl (fun x hx => (by rw [mc_v] at hx; cases hx)) (fun j s' o' _ h1 h2 => ⟨fun _ _ => rfl, fun x hx => (by rw [mc_v] at hx; cases hx), fun x _ hx => (by rw [rc_v] at hx; cases hx)⟩) r.frm
theorem SRel.set_u (r : SRel B sl env S) (i : Nat) (o : Option D) : SRel B (sl.set i .u) (env.set i o) S :=
  r.put trivial (fun x hx => (by rw [mc_u] at hx; cases hx)) (fun j s' o' _ h1 h2 => ⟨fun _ _ => rfl, fun x hx => (by rw [mc_u] at hx; cases hx), fun x _ hx => (by rw [rc_u] at hx; cases hx)⟩) r.frm
theorem set_self {α : Type} {l : List α} {i : Nat} {a : α} (h : l[i]? = some a) : l.set i a = l := by
  apply List.ext_getElem?
  intro j
  by_cases e : j = i
  · subst e; rw [List.getElem?_set_self (List.getElem?_eq_some_iff.mp h).1, h]
  · rw [List.getElem?_set_ne (Ne.symm e)]
theorem SRel.drop (r : SRel B sl env S) (i : Nat) : SRel B (sl.set i .u) env S := by
  cases h : env[i]? with
  | none =>
    have : sl.set i .u = sl := List.set_eq_of_length_le (by rw [← r.len]; exact List.getElem?_eq_none_iff.mp h)
    rw [this]; exact r
  | some o =>
    have := r.set_u i o
    rw [set_self h] at this
    exact this
def clrS (sl : List Sl) : List Nat → List Sl
  | [] => sl
  | i :: r => (clrS sl r).set i .u
theorem SRel.clr (r : SRel B sl env S) : ∀ l : List Nat, SRel B (clrS sl l) (clr env l) S
  | [] => r
  | i :: l => (SRel.clr r l).set_u i none
theorem Fr.set {n : Nat} {ob : Ob} (h : Fr B S) (hn : B.S0.length ≤ n ∨ n ∈ B.Q) : Fr B (S.set n ob) := by
  refine ⟨by rw [List.length_set]; exact h.len, fun i hi hq => ?_⟩
  have : i ≠ n := by
    rintro rfl
    rcases hn with hn | hn
    · omega
    · exact hq hn
  rw [List.getElem?_set_ne (Ne.symm this)]
  exact h.same i hi hq
theorem SRel.wr (r : SRel B sl env S) {i n : Nat} {ds : List D} (ds' : List D) (h : sl[i]? = some (.c ds)) (he : env[i]? = some (some (.cell n))) (hn : S[n]? = some (.lst ds)) : SRel B (sl.set i (.c ds')) env (S.set n (.lst ds')) := by
  have hl : n < S.length := (List.getElem?_eq_some_iff.mp hn).1
  have ho : B.S0.length ≤ n := (r.own i _ _ h he n (List.mem_singleton.mpr rfl)).elim id fun q => (nomatch q.2)
  have := r.put (S' := S.set n (.lst ds')) (i := i) (s := .c ds') (o := some (.cell n)) ⟨n, rfl, List.getElem?_set_self hl⟩ (fun x hx => by rw [List.mem_singleton.mp hx]; exact .inl ho)
    (fun j s' o' hj h1 h2 => ⟨fun x hx => List.getElem?_set_ne fun (e : n = x) => r.dis i j _ s' _ o' (Ne.symm hj) h he h1 h2 n (List.mem_singleton.mpr rfl) (by rw [e]; exact hx), fun x hx hx2 => r.dis i j _ s' _ o' (Ne.symm hj) h he h1 h2 x hx hx2, fun x hx hx2 => r.dis j i s' _ o' _ hj h1 h2 h he x hx hx2⟩) (r.frm.set (.inl ho))
  rw [set_self he] at this
  exact this
theorem SRel.wrf (r : SRel B sl env S) {i n : Nat} {ob : Ob} {q : Option Nat} (ob' : Ob) (h : sl[i]? = some (.f q ob)) (he : env[i]? = some (some (.cell n))) (hn : S[n]? = some ob) (hq : ∀ k, q = some k → n = k) : SRel B (sl.set i (.f q ob')) env (S.set n ob') := by
  have hl : n < S.length := (List.getElem?_eq_some_iff.mp hn).1
  have ho := r.own i _ _ h he n (List.mem_singleton.mpr rfl)
  have := r.put (S' := S.set n ob') (i := i) (s := .f q ob') (o := some (.cell n)) ⟨n, rfl, List.getElem?_set_self hl, hq⟩ (fun x hx => by rw [List.mem_singleton.mp hx]; exact (ho.imp id fun q => ⟨q.1, _, _, rfl⟩))
    (fun j s' o' hj h1 h2 => ⟨fun x hx => List.getElem?_set_ne fun (e : n = x) => r.dis i j _ s' _ o' (Ne.symm hj) h he h1 h2 n (List.mem_singleton.mpr rfl) (by rw [e]; exact hx), fun x hx hx2 => r.dis i j _ s' _ o' (Ne.symm hj) h he h1 h2 x hx hx2, fun x hx hx2 => r.dis j i s' _ o' _ hj h1 h2 h he x hx hx2⟩) (r.frm.set (ho.imp id fun q => q.1))
  rw [set_self he] at this
  exact this
theorem Fr.app (h : Fr B S) (L : Store) : Fr B (S ++ L) :=
  ⟨by rw [List.length_append]; have := h.len; omega, fun i hi hq => by rw [List.getElem?_append_left (by have := h.len; omega)]; exact h.same i hi hq⟩
theorem get_app {L : Store} {x : Nat} (h : x < S.length) : (S ++ L)[x]? = S[x]? := List.getElem?_append_left h
theorem get_new (S : Store) (ob : Ob) : (S ++ [ob])[S.length]? = some ob := by rw [List.getElem?_append_right (Nat.le_refl _)]; simp
theorem SRel.new (r : SRel B sl env S) (i : Nat) (ds : List D) : SRel B (sl.set i (.c ds)) (env.set i (some (.cell S.length))) (S ++ [.lst ds]) :=
  r.put ⟨_, rfl, get_new S _⟩ (fun x hx => by rw [List.mem_singleton.mp hx]; exact .inl r.frm.len)
    (fun j s' o' hj h1 h2 => ⟨fun x hx => get_app (rc_lt (r.at_ j s' o' h1 h2) hx), fun x hx hx2 => by have := rc_lt (r.at_ j s' o' h1 h2) hx2; rw [List.mem_singleton.mp hx] at this; exact absurd this (Nat.lt_irrefl _),
      fun x hx hx2 => by have := rc_lt (r.at_ j s' o' h1 h2) (mc_rc hx); rw [List.mem_singleton.mp (show x ∈ [S.length] from hx2)] at this; exact absurd this (Nat.lt_irrefl _)⟩) (r.frm.app _)
theorem SRel.newf (r : SRel B sl env S) (i : Nat) (ob : Ob) : SRel B (sl.set i (.f none ob)) (env.set i (some (.cell S.length))) (S ++ [ob]) :=
  r.put ⟨_, rfl, get_new S _, fun _ h => (nomatch h)⟩ (fun x hx => by rw [List.mem_singleton.mp hx]; exact .inl r.frm.len)
    (fun j s' o' hj h1 h2 => ⟨fun x hx => get_app (rc_lt (r.at_ j s' o' h1 h2) hx), fun x hx hx2 => by have := rc_lt (r.at_ j s' o' h1 h2) hx2; rw [List.mem_singleton.mp hx] at this; exact absurd this (Nat.lt_irrefl _),
      fun x hx hx2 => by have := rc_lt (r.at_ j s' o' h1 h2) (mc_rc hx); rw [List.mem_singleton.mp (show x ∈ [S.length] from hx2)] at this; exact absurd this (Nat.lt_irrefl _)⟩) (r.frm.app _)
end
end Rf

namespace Rf
open PySem PySem.Spec PyProof.Rows L2
def Out {α β : Type} (S : Store) (P : α → β → Store → Prop) (f : R α) (r : Res β) : Prop := match f with
  | .ok a => ∃ d, r = .ok d S ∧ P a d S
  | .err c => r = .err c S
  | .bad => True
def XE {α β : Type} (B : Bs) (sl : List Sl) (m : M β) (P : α → β → Store → Prop) (f : R α) : Prop := ∀ env S, SRel B sl env S → Out S P f (m env S)
def vP {α β : Type} (t : α → β) : α → β → Store → Prop := fun a d _ => d = t a
def lP {α : Type} (b : Bool) (t : α → D) : List α → D → Store → Prop := fun l d S => seqOf S d = some (l.map t) ∧ isTup d = b
theorem Out.bind {α β γ δ : Type} {S : Store} {P : α → β → Store → Prop} {P' : γ → δ → Store → Prop} {f : R α} {g : α → R γ} {r : Res β} {k : β → Store → Res δ} (h : Out S P f r) (hk : ∀ a d, P a d S → Out S P' (g a) (k d S)) : Out S P' (f.bind g) (r.bind k) := by
  cases f with
  | ok a => obtain ⟨d, rfl, q⟩ := h; exact hk a d q
  | err c => rw [show r = _ from h]; rfl
  | bad => trivial
def yI : Int → D := D.int
def yB : Bool → D := D.bl
def yS : Str → D := D.str
def yN : Unit → D := fun _ => .non
def yT {α : Type} (t : α → D) : List α → D := fun l => .tup (l.map t)
def yL {α : Type} (t : α → D) : List α → D := fun l => .lst (l.map t)
def yF {α : Type} (t : α → D) : List α → D := fun l => .fz (l.map t)
def yO {α : Type} (t : α → D) : Option α → D
  | none => .non
  | some a => t a
def lM {α : Type} (t : α → D) : List α → List D := fun l => l.map t
def yP0 : Unit → D := fun _ => .tup []
def yP1 {α : Type} (t : α → D) : α → D := fun a => .tup [t a]
def bP : Bool → Bool → Store → Prop := vP fun b => b
class TSh {α : Type} (t : α → D) (n : outParam Nat) : Prop where
  sh : ∀ k a, n ≤ k → shD k (t a) = true
class TPu {α : Type} (t : α → D) : Prop where
  pu : ∀ a, pureD (t a) = true
class TEq {α : Type} (t : α → D) : Prop where
  eqv : ∀ a b, PyData.eqv (py (t a)) (py (t b)) = true ↔ a = b
class TNc {α : Type} (t : α → D) : Prop where
  nc : ∀ a S, val S (t a) = t a

def yP2 {α β : Type} (t : α → D) (u : β → D) : α × β → D := fun p => .tup [t (p.1), u (p.2)]
def yP3 {α β γ : Type} (t : α → D) (u : β → D) (v : γ → D) : α × β × γ → D := fun p => .tup [t (p.1), u (p.2.1), v (p.2.2)]
def yP4 {α β γ δ : Type} (t : α → D) (u : β → D) (v : γ → D) (w : δ → D) : α × β × γ × δ → D := fun p => .tup [t (p.1), u (p.2.1), v (p.2.2.1), w (p.2.2.2)]
def yP5 {α β γ δ ε : Type} (t : α → D) (u : β → D) (v : γ → D) (w : δ → D) (y : ε → D) : α × β × γ × δ × ε → D := fun p => .tup [t (p.1), u (p.2.1), v (p.2.2.1), w (p.2.2.2.1), y (p.2.2.2.2)]
def yP6 {α β γ δ ε ζ : Type} (t : α → D) (u : β → D) (v : γ → D) (w : δ → D) (y : ε → D) (z : ζ → D) : α × β × γ × δ × ε × ζ → D := fun p => .tup [t (p.1), u (p.2.1), v (p.2.2.1), w (p.2.2.2.1), y (p.2.2.2.2.1), z (p.2.2.2.2.2)]
section
variable {α : Type} {t : α → D}
instance : TSh yI 0 := ⟨fun k a _ => by cases k <;> rfl⟩
instance : TSh yB 0 := ⟨fun k a _ => by cases k <;> rfl⟩
instance : TSh yN 0 := ⟨fun k a _ => by cases k <;> rfl⟩
instance : TSh yP0 1 := ⟨fun k a h => by cases k with
  | zero => exact absurd h (by decide)
  | succ k => rfl⟩
theorem all_sh {n k : Nat} [TSh t n] (h : n ≤ k) (l : List α) : (l.map t).all (shD k) = true := List.all_eq_true.mpr fun x hx => by
  obtain ⟨a, _, rfl⟩ := List.mem_map.mp hx
  exact TSh.sh k a h
instance {n : Nat} [TSh t n] : TSh (yT t) (n + 1) := ⟨fun k a h => by cases k with
  | zero => exact absurd h (by omega)
  | succ k => exact all_sh (n := n) (by omega) a⟩
instance {n : Nat} [TSh t n] : TSh (yL t) (n + 1) := ⟨fun k a h => by cases k with
  | zero => exact absurd h (by omega)
  | succ k => exact all_sh (n := n) (by omega) a⟩
instance {n : Nat} [TSh t n] : TSh (yF t) (n + 1) := ⟨fun k a h => by cases k with
  | zero => exact absurd h (by omega)
  | succ k => exact all_sh (n := n) (by omega) a⟩
instance {n : Nat} [TSh t n] : TSh (yO t) n := ⟨fun k a h => by cases a with
  | none => cases k <;> rfl
  | some a => exact TSh.sh (t := t) k a h⟩
instance {n : Nat} [TSh t n] : TSh (yP1 t) (n + 1) := ⟨fun k a h => by cases k with
  | zero => exact absurd h (by omega)
  | succ k => show (shD k (t a) && true) = true; rw [TSh.sh (t := t) k a (by omega)]; rfl⟩
instance : TPu yI := ⟨fun _ => rfl⟩
instance : TPu yB := ⟨fun _ => rfl⟩
instance : TPu yN := ⟨fun _ => rfl⟩
instance : TPu yS := ⟨fun _ => rfl⟩
instance : TPu yP0 := ⟨fun _ => rfl⟩
instance [TPu t] : TPu (yT t) := ⟨fun a => pureL_map (fun x => TPu.pu (t := t) x) a⟩
instance [TPu t] : TPu (yL t) := ⟨fun a => pureL_map (fun x => TPu.pu (t := t) x) a⟩
instance [TPu t] : TPu (yF t) := ⟨fun a => pureL_map (fun x => TPu.pu (t := t) x) a⟩
instance [TPu t] : TPu (yO t) := ⟨fun a => by cases a with
  | none => rfl
  | some a => exact TPu.pu (t := t) a⟩
instance [TPu t] : TPu (yP1 t) := ⟨fun a => by show (pureD (t a) && true) = true; rw [TPu.pu (t := t) a]; rfl⟩
instance : TNc yI := ⟨fun _ _ => rfl⟩
instance : TNc yB := ⟨fun _ _ => rfl⟩
instance : TNc yN := ⟨fun _ _ => rfl⟩
instance : TNc yS := ⟨fun _ _ => rfl⟩
instance : TNc yP0 := ⟨fun _ _ => rfl⟩
instance : TNc (yT t) := ⟨fun _ _ => rfl⟩
instance : TNc (yL t) := ⟨fun _ _ => rfl⟩
instance : TNc (yF t) := ⟨fun _ _ => rfl⟩
instance : TNc (yP1 t) := ⟨fun _ _ => rfl⟩
instance [TNc t] : TNc (yO t) := ⟨fun a S => by cases a with
  | none => rfl
  | some a => exact TNc.nc (t := t) a S⟩
instance : TEq yI := ⟨fun a b => by rw [show PyData.eqv (py (yI a)) (py (yI b)) = _ from eqv_int a b]; exact decide_eq_true_iff⟩
instance : TEq yB := ⟨fun a b => by rw [show PyData.eqv (py (yB a)) (py (yB b)) = _ from eqv_bl a b]; exact decide_eq_true_iff⟩
instance : TEq yP0 := ⟨fun a b => ⟨fun _ => rfl, fun _ => rfl⟩⟩
theorem eqvs_map [TEq t] : ∀ a b : List α, PyData.eqvAll (pyL (a.map t)) (pyL (b.map t)) = true ↔ a = b
  | [], [] => ⟨fun _ => rfl, fun _ => rfl⟩
  | [], y :: b => ⟨fun h => (nomatch h), fun h => (nomatch h)⟩
  | x :: a, [] => ⟨fun h => (nomatch h), fun h => (nomatch h)⟩
  | x :: a, y :: b => by
    show (PyData.eqv (py (t x)) (py (t y)) && PyData.eqvAll (pyL (a.map t)) (pyL (b.map t))) = true ↔ _
    rw [Bool.and_eq_true, TEq.eqv (t := t) x y, eqvs_map a b, List.cons.injEq]
instance [TEq t] : TEq (yT t) := ⟨fun a b => eqvs_map a b⟩
instance [TEq t] : TEq (yL t) := ⟨fun a b => eqvs_map a b⟩
instance [TEq t] : TEq (yP1 t) := ⟨fun a b => by
    show (PyData.eqv (py (t a)) (py (t b)) && true) = true ↔ _
    rw [Bool.and_true, TEq.eqv (t := t) a b]⟩
end
instance {α β : Type} {t : α → D} {u : β → D} {n0 n1 : Nat} [TSh t n0] [TSh u n1] : TSh (yP2 t u) ((Nat.max n0 n1) + 1) := ⟨fun k p h => by cases k with
  | zero => exact absurd h (by omega)
  | succ k => show (shD k (t (p.1)) && (shD k (u (p.2)) && true)) = true; rw [TSh.sh (t := t) k (p.1) (by have h2 : (Nat.max n0 n1) ≤ k := Nat.le_of_succ_le_succ h; simp only [Nat.max_le] at h2; exact h2.1), TSh.sh (t := u) k (p.2) (by have h2 : (Nat.max n0 n1) ≤ k := Nat.le_of_succ_le_succ h; simp only [Nat.max_le] at h2; exact h2.2)]; rfl⟩
instance {α β : Type} {t : α → D} {u : β → D} [TPu t] [TPu u] : TPu (yP2 t u) := ⟨fun p => by show (pureD (t (p.1)) && (pureD (u (p.2)) && true)) = true; rw [TPu.pu (t := t) (p.1), TPu.pu (t := u) (p.2)]; rfl⟩
instance {α β : Type} {t : α → D} {u : β → D} : TNc (yP2 t u) := ⟨fun _ _ => rfl⟩
instance {α β : Type} {t : α → D} {u : β → D} [TEq t] [TEq u] : TEq (yP2 t u) := ⟨fun a b => by
  show (PyData.eqv (py (t (a.1))) (py (t (b.1))) && (PyData.eqv (py (u (a.2))) (py (u (b.2))) && true)) = true ↔ _
  simp only [Bool.and_eq_true, Bool.and_true, TEq.eqv (t := t), TEq.eqv (t := u)]
  constructor
  · rintro ⟨h0, h1⟩; exact Prod.ext h0 (h1)
  · rintro rfl; exact ⟨rfl, rfl⟩⟩
instance {α β γ : Type} {t : α → D} {u : β → D} {v : γ → D} {n0 n1 n2 : Nat} [TSh t n0] [TSh u n1] [TSh v n2] : TSh (yP3 t u v) ((Nat.max n0 (Nat.max n1 n2)) + 1) := ⟨fun k p h => by cases k with
  | zero => exact absurd h (by omega)
  | succ k => show (shD k (t (p.1)) && (shD k (u (p.2.1)) && (shD k (v (p.2.2)) && true))) = true; rw [TSh.sh (t := t) k (p.1) (by have h2 : (Nat.max n0 (Nat.max n1 n2)) ≤ k := Nat.le_of_succ_le_succ h; simp only [Nat.max_le] at h2; exact h2.1), TSh.sh (t := u) k (p.2.1) (by have h2 : (Nat.max n0 (Nat.max n1 n2)) ≤ k := Nat.le_of_succ_le_succ h; simp only [Nat.max_le] at h2; exact h2.2.1), TSh.sh (t := v) k (p.2.2) (by have h2 : (Nat.max n0 (Nat.max n1 n2)) ≤ k := Nat.le_of_succ_le_succ h; simp only [Nat.max_le] at h2; exact h2.2.2)]; rfl⟩
instance {α β γ : Type} {t : α → D} {u : β → D} {v : γ → D} [TPu t] [TPu u] [TPu v] : TPu (yP3 t u v) := ⟨fun p => by show (pureD (t (p.1)) && (pureD (u (p.2.1)) && (pureD (v (p.2.2)) && true))) = true; rw [TPu.pu (t := t) (p.1), TPu.pu (t := u) (p.2.1), TPu.pu (t := v) (p.2.2)]; rfl⟩
instance {α β γ : Type} {t : α → D} {u : β → D} {v : γ → D} : TNc (yP3 t u v) := ⟨fun _ _ => rfl⟩
instance {α β γ : Type} {t : α → D} {u : β → D} {v : γ → D} [TEq t] [TEq u] [TEq v] : TEq (yP3 t u v) := ⟨fun a b => by
  show (PyData.eqv (py (t (a.1))) (py (t (b.1))) && (PyData.eqv (py (u (a.2.1))) (py (u (b.2.1))) && (PyData.eqv (py (v (a.2.2))) (py (v (b.2.2))) && true))) = true ↔ _
  simp only [Bool.and_eq_true, Bool.and_true, TEq.eqv (t := t), TEq.eqv (t := u), TEq.eqv (t := v)]
  constructor
  · rintro ⟨h0, h1, h2⟩; exact Prod.ext h0 (Prod.ext h1 (h2))
  · rintro rfl; exact ⟨rfl, rfl, rfl⟩⟩
instance {α β γ δ : Type} {t : α → D} {u : β → D} {v : γ → D} {w : δ → D} {n0 n1 n2 n3 : Nat} [TSh t n0] [TSh u n1] [TSh v n2] [TSh w n3] : TSh (yP4 t u v w) ((Nat.max n0 (Nat.max n1 (Nat.max n2 n3))) + 1) := ⟨fun k p h => by cases k with
  | zero => exact absurd h (by omega)
  | succ k => show (shD k (t (p.1)) && (shD k (u (p.2.1)) && (shD k (v (p.2.2.1)) && (shD k (w (p.2.2.2)) && true)))) = true; rw [TSh.sh (t := t) k (p.1) (by have h2 : (Nat.max n0 (Nat.max n1 (Nat.max n2 n3))) ≤ k := Nat.le_of_succ_le_succ h; simp only [Nat.max_le] at h2; exact h2.1), TSh.sh (t := u) k (p.2.1) (by have h2 : (Nat.max n0 (Nat.max n1 (Nat.max n2 n3))) ≤ k := Nat.le_of_succ_le_succ h; simp only [Nat.max_le] at h2; exact h2.2.1), TSh.sh (t := v) k (p.2.2.1) (by have h2 : (Nat.max n0 (Nat.max n1 (Nat.max n2 n3))) ≤ k := Nat.le_of_succ_le_succ h; simp only [Nat.max_le] at h2; exact h2.2.2.1), TSh.sh (t := w) k (p.2.2.2) (by have h2 : (Nat.max n0 (Nat.max n1 (Nat.max n2 n3))) ≤ k := Nat.le_of_succ_le_succ h; simp only [Nat.max_le] at h2; exact h2.2.2.2)]; rfl⟩
instance {α β γ δ : Type} {t : α → D} {u : β → D} {v : γ → D} {w : δ → D} [TPu t] [TPu u] [TPu v] [TPu w] : TPu (yP4 t u v w) := ⟨fun p => by show (pureD (t (p.1)) && (pureD (u (p.2.1)) && (pureD (v (p.2.2.1)) && (pureD (w (p.2.2.2)) && true)))) = true; rw [TPu.pu (t := t) (p.1), TPu.pu (t := u) (p.2.1), TPu.pu (t := v) (p.2.2.1), TPu.pu (t := w) (p.2.2.2)]; rfl⟩
instance {α β γ δ : Type} {t : α → D} {u : β → D} {v : γ → D} {w : δ → D} : TNc (yP4 t u v w) := ⟨fun _ _ => rfl⟩
instance {α β γ δ : Type} {t : α → D} {u : β → D} {v : γ → D} {w : δ → D} [TEq t] [TEq u] [TEq v] [TEq w] : TEq (yP4 t u v w) := ⟨fun a b => by
  show (PyData.eqv (py (t (a.1))) (py (t (b.1))) && (PyData.eqv (py (u (a.2.1))) (py (u (b.2.1))) && (PyData.eqv (py (v (a.2.2.1))) (py (v (b.2.2.1))) && (PyData.eqv (py (w (a.2.2.2))) (py (w (b.2.2.2))) && true)))) = true ↔ _
  simp only [Bool.and_eq_true, Bool.and_true, TEq.eqv (t := t), TEq.eqv (t := u), TEq.eqv (t := v), TEq.eqv (t := w)]
  constructor
  · rintro ⟨h0, h1, h2, h3⟩; exact Prod.ext h0 (Prod.ext h1 (Prod.ext h2 (h3)))
  · rintro rfl; exact ⟨rfl, rfl, rfl, rfl⟩⟩
instance {α β γ δ ε : Type} {t : α → D} {u : β → D} {v : γ → D} {w : δ → D} {y : ε → D} {n0 n1 n2 n3 n4 : Nat} [TSh t n0] [TSh u n1] [TSh v n2] [TSh w n3] [TSh y n4] : TSh (yP5 t u v w y) ((Nat.max n0 (Nat.max n1 (Nat.max n2 (Nat.max n3 n4)))) + 1) := ⟨fun k p h => by cases k with
  | zero => exact absurd h (by omega)
  | succ k => show (shD k (t (p.1)) && (shD k (u (p.2.1)) && (shD k (v (p.2.2.1)) && (shD k (w (p.2.2.2.1)) && (shD k (y (p.2.2.2.2)) && true))))) = true; rw [TSh.sh (t := t) k (p.1) (by have h2 : (Nat.max n0 (Nat.max n1 (Nat.max n2 (Nat.max n3 n4)))) ≤ k := Nat.le_of_succ_le_succ h; simp only [Nat.max_le] at h2; exact h2.1), TSh.sh (t := u) k (p.2.1) (by have h2 : (Nat.max n0 (Nat.max n1 (Nat.max n2 (Nat.max n3 n4)))) ≤ k := Nat.le_of_succ_le_succ h; simp only [Nat.max_le] at h2; exact h2.2.1), TSh.sh (t := v) k (p.2.2.1) (by have h2 : (Nat.max n0 (Nat.max n1 (Nat.max n2 (Nat.max n3 n4)))) ≤ k := Nat.le_of_succ_le_succ h; simp only [Nat.max_le] at h2; exact h2.2.2.1), TSh.sh (t := w) k (p.2.2.2.1) (by have h2 : (Nat.max n0 (Nat.max n1 (Nat.max n2 (Nat.max n3 n4)))) ≤ k := Nat.le_of_succ_le_succ h; simp only [Nat.max_le] at h2; exact h2.2.2.2.1), TSh.sh (t := y) k (p.2.2.2.2) (by have h2 : (Nat.max n0 (Nat.max n1 (Nat.max n2 (Nat.max n3 n4)))) ≤ k := Nat.le_of_succ_le_succ h; simp only [Nat.max_le] at h2; exact h2.2.2.2.2)]; rfl⟩
instance {α β γ δ ε : Type} {t : α → D} {u : β → D} {v : γ → D} {w : δ → D} {y : ε → D} [TPu t] [TPu u] [TPu v] [TPu w] [TPu y] : TPu (yP5 t u v w y) := ⟨fun p => by show (pureD (t (p.1)) && (pureD (u (p.2.1)) && (pureD (v (p.2.2.1)) && (pureD (w (p.2.2.2.1)) && (pureD (y (p.2.2.2.2)) && true))))) = true; rw [TPu.pu (t := t) (p.1), TPu.pu (t := u) (p.2.1), TPu.pu (t := v) (p.2.2.1), TPu.pu (t := w) (p.2.2.2.1), TPu.pu (t := y) (p.2.2.2.2)]; rfl⟩
instance {α β γ δ ε : Type} {t : α → D} {u : β → D} {v : γ → D} {w : δ → D} {y : ε → D} : TNc (yP5 t u v w y) := ⟨fun _ _ => rfl⟩
instance {α β γ δ ε : Type} {t : α → D} {u : β → D} {v : γ → D} {w : δ → D} {y : ε → D} [TEq t] [TEq u] [TEq v] [TEq w] [TEq y] : TEq (yP5 t u v w y) := ⟨fun a b => by
  show (PyData.eqv (py (t (a.1))) (py (t (b.1))) && (PyData.eqv (py (u (a.2.1))) (py (u (b.2.1))) && (PyData.eqv (py (v (a.2.2.1))) (py (v (b.2.2.1))) && (PyData.eqv (py (w (a.2.2.2.1))) (py (w (b.2.2.2.1))) && (PyData.eqv (py (y (a.2.2.2.2))) (py (y (b.2.2.2.2))) && true))))) = true ↔ _
  simp only [Bool.and_eq_true, Bool.and_true, TEq.eqv (t := t), TEq.eqv (t := u), TEq.eqv (t := v), TEq.eqv (t := w), TEq.eqv (t := y)]
  constructor
  · rintro ⟨h0, h1, h2, h3, h4⟩; exact Prod.ext h0 (Prod.ext h1 (Prod.ext h2 (Prod.ext h3 (h4))))
  · rintro rfl; exact ⟨rfl, rfl, rfl, rfl, rfl⟩⟩
instance {α β γ δ ε ζ : Type} {t : α → D} {u : β → D} {v : γ → D} {w : δ → D} {y : ε → D} {z : ζ → D} {n0 n1 n2 n3 n4 n5 : Nat} [TSh t n0] [TSh u n1] [TSh v n2] [TSh w n3] [TSh y n4] [TSh z n5] : TSh (yP6 t u v w y z) ((Nat.max n0 (Nat.max n1 (Nat.max n2 (Nat.max n3 (Nat.max n4 n5))))) + 1) := ⟨fun k p h => by cases k with
  | zero => exact absurd h (by omega)
  | succ k => show (shD k (t (p.1)) && (shD k (u (p.2.1)) && (shD k (v (p.2.2.1)) && (shD k (w (p.2.2.2.1)) && (shD k (y (p.2.2.2.2.1)) && (shD k (z (p.2.2.2.2.2)) && true)))))) = true; rw [TSh.sh (t := t) k (p.1) (by have h2 : (Nat.max n0 (Nat.max n1 (Nat.max n2 (Nat.max n3 (Nat.max n4 n5))))) ≤ k := Nat.le_of_succ_le_succ h; simp only [Nat.max_le] at h2; exact h2.1), TSh.sh (t := u) k (p.2.1) (by have h2 : (Nat.max n0 (Nat.max n1 (Nat.max n2 (Nat.max n3 (Nat.max n4 n5))))) ≤ k := Nat.le_of_succ_le_succ h; simp only [Nat.max_le] at h2; exact h2.2.1), TSh.sh (t := v) k (p.2.2.1) (by have h2 : (Nat.max n0 (Nat.max n1 (Nat.max n2 (Nat.max n3 (Nat.max n4 n5))))) ≤ k := Nat.le_of_succ_le_succ h; simp only [Nat.max_le] at h2; exact h2.2.2.1), TSh.sh (t := w) k (p.2.2.2.1) (by have h2 : (Nat.max n0 (Nat.max n1 (Nat.max n2 (Nat.max n3 (Nat.max n4 n5))))) ≤ k := Nat.le_of_succ_le_succ h; simp only [Nat.max_le] at h2; exact h2.2.2.2.1), TSh.sh (t := y) k (p.2.2.2.2.1) (by have h2 : (Nat.max n0 (Nat.max n1 (Nat.max n2 (Nat.max n3 (Nat.max n4 n5))))) ≤ k := Nat.le_of_succ_le_succ h; simp only [Nat.max_le] at h2; exact h2.2.2.2.2.1), TSh.sh (t := z) k (p.2.2.2.2.2) (by have h2 : (Nat.max n0 (Nat.max n1 (Nat.max n2 (Nat.max n3 (Nat.max n4 n5))))) ≤ k := Nat.le_of_succ_le_succ h; simp only [Nat.max_le] at h2; exact h2.2.2.2.2.2)]; rfl⟩
instance {α β γ δ ε ζ : Type} {t : α → D} {u : β → D} {v : γ → D} {w : δ → D} {y : ε → D} {z : ζ → D} [TPu t] [TPu u] [TPu v] [TPu w] [TPu y] [TPu z] : TPu (yP6 t u v w y z) := ⟨fun p => by show (pureD (t (p.1)) && (pureD (u (p.2.1)) && (pureD (v (p.2.2.1)) && (pureD (w (p.2.2.2.1)) && (pureD (y (p.2.2.2.2.1)) && (pureD (z (p.2.2.2.2.2)) && true)))))) = true; rw [TPu.pu (t := t) (p.1), TPu.pu (t := u) (p.2.1), TPu.pu (t := v) (p.2.2.1), TPu.pu (t := w) (p.2.2.2.1), TPu.pu (t := y) (p.2.2.2.2.1), TPu.pu (t := z) (p.2.2.2.2.2)]; rfl⟩
instance {α β γ δ ε ζ : Type} {t : α → D} {u : β → D} {v : γ → D} {w : δ → D} {y : ε → D} {z : ζ → D} : TNc (yP6 t u v w y z) := ⟨fun _ _ => rfl⟩
instance {α β γ δ ε ζ : Type} {t : α → D} {u : β → D} {v : γ → D} {w : δ → D} {y : ε → D} {z : ζ → D} [TEq t] [TEq u] [TEq v] [TEq w] [TEq y] [TEq z] : TEq (yP6 t u v w y z) := ⟨fun a b => by
  show (PyData.eqv (py (t (a.1))) (py (t (b.1))) && (PyData.eqv (py (u (a.2.1))) (py (u (b.2.1))) && (PyData.eqv (py (v (a.2.2.1))) (py (v (b.2.2.1))) && (PyData.eqv (py (w (a.2.2.2.1))) (py (w (b.2.2.2.1))) && (PyData.eqv (py (y (a.2.2.2.2.1))) (py (y (b.2.2.2.2.1))) && (PyData.eqv (py (z (a.2.2.2.2.2))) (py (z (b.2.2.2.2.2))) && true)))))) = true ↔ _
  simp only [Bool.and_eq_true, Bool.and_true, TEq.eqv (t := t), TEq.eqv (t := u), TEq.eqv (t := v), TEq.eqv (t := w), TEq.eqv (t := y), TEq.eqv (t := z)]
  constructor
  · rintro ⟨h0, h1, h2, h3, h4, h5⟩; exact Prod.ext h0 (Prod.ext h1 (Prod.ext h2 (Prod.ext h3 (Prod.ext h4 (h5)))))
  · rintro rfl; exact ⟨rfl, rfl, rfl, rfl, rfl, rfl⟩⟩
section
variable {B : Bs} {sl : List Sl} {α β γ δ ε : Type}
theorem xe_var {t : α → D} {a : α} (i : Nat) (h : sl[i]? = some (.v (t a))) : XE B sl (eVar i) (vP t) (.ok a) := fun env S r => by
  refine ⟨t a, ?_, rfl⟩
  unfold eVar
  rw [r.v h]
theorem xe_vc {t : α → D} {l : List α} (i : Nat) (h : sl[i]? = some (.c (l.map t))) : XE B sl (eVar i) (lP false t) (.ok l) := fun env S r => by
  obtain ⟨n, e, q⟩ := r.c h
  refine ⟨.cell n, ?_, ?_, rfl⟩
  · unfold eVar; rw [e]
  · unfold seqOf; dsimp only; rw [q]
theorem xe_c {t : α → D} {d : D} (a : α) (h : d = t a) : XE B sl (eC d) (vP t) (.ok a) := fun env S r => ⟨d, rfl, h⟩
theorem XE.conv {m : M β} {P : α → β → Store → Prop} {P' : γ → β → Store → Prop} {f : R α} {f' : R γ} (h : XE B sl m P f) (c : α → γ) (hc : ∀ a d S, P a d S → P' (c a) d S) (e : (f.bind fun a => .ok (c a)) = f' := by rfl) : XE B sl m P' f' := fun env S r => by
  have := h env S r
  rw [← e]
  cases f with
  | ok a => obtain ⟨d, q1, q2⟩ := this; exact ⟨d, q1, hc a d S q2⟩
  | err c => exact this
  | bad => trivial
theorem XE.asT {t : α → D} {m : M D} {f : R (List α)} (h : XE B sl m (vP (yT t)) f) : XE B sl m (lP true t) f := fun env S r => by
  have := h env S r
  cases f with
  | ok a => obtain ⟨d, q1, q2⟩ := this; cases q2; exact ⟨_, q1, rfl, rfl⟩
  | err c => exact this
  | bad => trivial
theorem XE.asL {t : α → D} {m : M D} {f : R (List α)} (h : XE B sl m (vP (yL t)) f) : XE B sl m (lP false t) f := fun env S r => by
  have := h env S r
  cases f with
  | ok a => obtain ⟨d, q1, q2⟩ := this; cases q2; exact ⟨_, q1, rfl, rfl⟩
  | err c => exact this
  | bad => trivial
theorem XE.asF {t : α → D} {m : M D} {f : R (List α)} (h : XE B sl m (vP (yF t)) f) : XE B sl m (lP false t) f := fun env S r => by
  have := h env S r
  cases f with
  | ok a => obtain ⟨d, q1, q2⟩ := this; cases q2; exact ⟨_, q1, rfl, rfl⟩
  | err c => exact this
  | bad => trivial
abbrev Op2 (f : D → D → Store → Res D) (P : α → D → Store → Prop) (P' : β → D → Store → Prop) (P'' : γ → D → Store → Prop) (g : α → β → R γ) : Prop := ∀ a b d e S, P a d S → P' b e S → Out S P'' (g a b) (f d e S)
abbrev Op1 (f : D → Store → Res D) (P : α → D → Store → Prop) (P'' : γ → D → Store → Prop) (g : α → R γ) : Prop := ∀ a d S, P a d S → Out S P'' (g a) (f d S)
theorem xe_e2 {f : D → D → Store → Res D} {P : α → D → Store → Prop} {P' : β → D → Store → Prop} {P'' : γ → D → Store → Prop} {g : α → β → R γ} {ma mb : M D} {fa : R α} {fb : R β} {f' : R γ} (op : Op2 f P P' P'' g) (ha : XE B sl ma P fa) (hb : XE B sl mb P' fb) (e : (fa.bind fun a => fb.bind fun b => g a b) = f' := by rfl) : XE B sl (e2 f ma mb) P'' f' := fun env S r => by
  rw [← e]
  exact Out.bind (ha env S r) fun a d pa => Out.bind (hb env S r) fun b d' pb => op a b d d' S pa pb
theorem xe_e2t {f : D → D → Store → Res D} {P : α → D → Store → Prop} {P' : β → D → Store → Prop} {P'' : γ → D → Store → Prop} {g : α → β → R γ} {ma mb : M D} {a : α} {b : β} {f' : R γ} (op : Op2 f P P' P'' g) (ha : XE B sl ma P (.ok a)) (hb : XE B sl mb P' (.ok b)) (e : g a b = f' := by rfl) : XE B sl (e2 f ma mb) P'' f' := xe_e2 op ha hb e
theorem xe_e1 {f : D → Store → Res D} {P : α → D → Store → Prop} {P'' : γ → D → Store → Prop} {g : α → R γ} {ma : M D} {fa : R α} {f' : R γ} (op : Op1 f P P'' g) (ha : XE B sl ma P fa) (e : (fa.bind fun a => g a) = f' := by rfl) : XE B sl (e1 f ma) P'' f' := fun env S r => by
  rw [← e]
  exact Out.bind (ha env S r) fun a d pa => op a d S pa
theorem xe_e1t {f : D → Store → Res D} {P : α → D → Store → Prop} {P'' : γ → D → Store → Prop} {g : α → R γ} {ma : M D} {a : α} {f' : R γ} (op : Op1 f P P'' g) (ha : XE B sl ma P (.ok a)) (e : g a = f' := by rfl) : XE B sl (e1 f ma) P'' f' := xe_e1 op ha e
theorem xt_tst {m : M D} {f : R Bool} (h : XE B sl m (vP yB) f) : XE B sl (tst m) bP f := fun env S r => by
  have := h env S r
  unfold tst
  cases f with
  | ok a => obtain ⟨d, q1, q2⟩ := this; cases q2; rw [q1]; exact ⟨a, rfl, rfl⟩
  | err c => rw [show m env S = _ from this]; rfl
  | bad => trivial
theorem xt_and {ma mb : M Bool} {fa fb f' : R Bool} (ha : XE B sl ma bP fa) (hb : XE B sl mb bP fb) (e : (fa.bind fun a => if a = true then fb else .ok false) = f' := by rfl) : XE B sl (tAnd' ma mb) bP f' := fun env S r => by
  rw [← e]
  refine Out.bind (ha env S r) fun a d pa => ?_
  cases pa
  cases a with
  | true => exact hb env S r
  | false => exact ⟨false, rfl, rfl⟩
theorem xt_or {ma mb : M Bool} {fa fb f' : R Bool} (ha : XE B sl ma bP fa) (hb : XE B sl mb bP fb) (e : (fa.bind fun a => if a = true then .ok true else fb) = f' := by rfl) : XE B sl (tOr' ma mb) bP f' := fun env S r => by
  rw [← e]
  refine Out.bind (ha env S r) fun a d pa => ?_
  cases pa
  cases a with
  | true => exact ⟨true, rfl, rfl⟩
  | false => exact hb env S r
theorem xt_not {ma : M Bool} {fa f' : R Bool} (ha : XE B sl ma bP fa) (e : (fa.bind fun a => .ok (!a)) = f' := by rfl) : XE B sl (tNot' ma) bP f' := fun env S r => by
  rw [← e]
  refine Out.bind (ha env S r) fun a d pa => ?_
  cases pa
  exact ⟨!a, rfl, rfl⟩
theorem xe_and {ma mb : M D} {fa fb f' : R Bool} (ha : XE B sl ma (vP yB) fa) (hb : XE B sl mb (vP yB) fb) (e : (fa.bind fun a => if a = true then fb else .ok false) = f' := by rfl) : XE B sl (eAnd ma mb) (vP yB) f' := fun env S r => by
  rw [← e]
  refine Out.bind (ha env S r) fun a d pa => ?_
  cases pa
  cases a with
  | true => exact hb env S r
  | false => exact ⟨_, rfl, rfl⟩
theorem xe_not {ma : M D} {fa f' : R Bool} (ha : XE B sl ma (vP yB) fa) (e : (fa.bind fun a => .ok (!a)) = f' := by rfl) : XE B sl (eNot ma) (vP yB) f' := fun env S r => by
  rw [← e]
  refine Out.bind (ha env S r) fun a d pa => ?_
  cases pa
  exact ⟨_, rfl, rfl⟩
theorem xo_none : XE B sl oNone (vP fun o : Option Int => o) (.ok none) := fun env S r => ⟨none, rfl, rfl⟩
theorem xo_some {m : M D} {f : R Int} {f' : R (Option Int)} (h : XE B sl m (vP yI) f) (e : (f.bind fun a => .ok (some a)) = f' := by rfl) : XE B sl (oSome m) (vP fun o : Option Int => o) f' := fun env S r => by
  rw [← e]
  refine Out.bind (h env S r) fun a d pa => ?_
  cases pa
  exact ⟨some a, rfl, rfl⟩
def cutL {α : Type} (ds : List α) (lo hi : Option Int) : List α := (ds.drop (HT.sIx ds.length 0 lo)).take (HT.sIx ds.length ds.length hi - HT.sIx ds.length 0 lo)
theorem cutL_map (t : α → D) (l : List α) (lo hi : Option Int) : cutD (l.map t) lo hi = (cutL l lo hi).map t := by
  unfold cutD cutL
  rw [List.map_take, List.map_drop, List.length_map]
theorem xe_slL {t : α → D} {ma : M D} {ml mh : M (Option Int)} {fa : R (List α)} {fl fh : R (Option Int)} {f' : R (List α)} (ha : XE B sl ma (lP false t) fa) (hl : XE B sl ml (vP fun o : Option Int => o) fl) (hh : XE B sl mh (vP fun o : Option Int => o) fh) (e : (fa.bind fun a => fl.bind fun lo => fh.bind fun hi => .ok (cutL a lo hi)) = f' := by rfl) : XE B sl (eSl dSl ma ml mh) (vP (yL t)) f' := fun env S r => by
  rw [← e]
  refine Out.bind (ha env S r) fun a d pa => Out.bind (hl env S r) fun lo d1 p1 => Out.bind (hh env S r) fun hi d2 p2 => ?_
  cases p1; cases p2
  obtain ⟨q1, q2⟩ := pa
  refine ⟨.lst (cutD (a.map t) lo hi), ?_, by show D.lst (cutD (a.map t) lo hi) = D.lst ((cutL a lo hi).map t); rw [cutL_map]⟩
  unfold dSl
  split
  · cases q2
  · rw [q1]
theorem xe_fz {t : α → D} {m : M (List D)} {f : R (List α)} (h : XE B sl m (vP (lM t)) f) : XE B sl (fz m) (vP (yL t)) f := fun env S r => by
  have := h env S r
  unfold fz
  cases f with
  | ok a => obtain ⟨d, q1, q2⟩ := this; cases q2; rw [q1]; exact ⟨_, rfl, rfl⟩
  | err c => rw [show m env S = _ from this]; rfl
  | bad => trivial
end
section
variable {B : Bs} {sl : List Sl} {α β γ δ ε ζ η θ ι μ ν ξ ρ κ : Type}
theorem xk1 {P0 : α → D → Store → Prop} {F : α → R ρ} {P' : ρ → κ → Store → Prop} {k : List D → Store → Res κ} {m0 : M D} {f0 : R α} (hk : ∀ a0 d0 S, P0 a0 d0 S → Out S P' (F a0) (k [d0] S)) (h0 : XE B sl m0 P0 f0) {env : En} {S : Store} (r : SRel B sl env S) : Out S P' (f0.bind fun a0 => F a0) (((aCons m0 aNil) env S).bind k) := by
  have assoc : ∀ {X Y Z : Type} (r : Res X) (p : X → Store → Res Y) (q : Y → Store → Res Z), (r.bind p).bind q = r.bind fun x S => (p x S).bind q := fun r p q => by cases r <;> rfl
  simp only [aCons, aNil, assoc, bind_ok]
  exact Out.bind (h0 env S r) fun a0 d0 p0 => hk a0 d0 S p0
theorem xe_B1 {P0 : α → D → Store → Prop} {F : α → R ρ} {P' : ρ → κ → Store → Prop} {k : List D → Store → Res κ} {m0 : M D} {f0 : R α} {f' : R ρ} (hk : ∀ a0 d0 S, P0 a0 d0 S → Out S P' (F a0) (k [d0] S)) (h0 : XE B sl m0 P0 f0) (e : (f0.bind fun a0 => F a0) = f' := by rfl) : XE B sl (eB k (aCons m0 aNil)) P' f' := fun env S r => by rw [← e]; exact xk1 hk h0 r
theorem xe_B1t {P0 : α → D → Store → Prop} {F : α → R ρ} {P' : ρ → κ → Store → Prop} {k : List D → Store → Res κ} {m0 : M D} {a0 : α} {f' : R ρ} (hk : ∀ a0 d0 S, P0 a0 d0 S → Out S P' (F a0) (k [d0] S)) (h0 : XE B sl m0 P0 (.ok a0)) (e : F a0 = f' := by rfl) : XE B sl (eB k (aCons m0 aNil)) P' f' := fun env S r => by rw [← e]; exact xk1 hk h0 r
theorem xe_call1t {P0 : α → D → Store → Prop} {F : α → R ρ} {P' : ρ → D → Store → Prop} {k : List D → Store → Res D} {m0 : M D} {a0 : α} {f' : R ρ} (hk : ∀ a0 d0 S, P0 a0 d0 S → Out S P' (F a0) (k [d0] S)) (h0 : XE B sl m0 P0 (.ok a0)) (e : F a0 = f' := by rfl) : XE B sl (eCall 1 k (aCons m0 aNil)) P' f' := fun env S r => by rw [← e]; exact xk1 (k := fun xs S1 => if xs.length = 1 then k xs S1 else .bad) hk h0 r
theorem xe_P1 {t : α → D} {m0 : M D} {f0 : R α} {f' : R (α)} (h0 : XE B sl m0 (vP t) f0) (e : (f0.bind fun a0 => .ok (a0)) = f' := by rfl) : XE B sl (eTup (aCons m0 aNil)) (vP (yP1 t)) f' := fun env S r => by rw [← e]; exact xk1 (F := fun a0 => .ok (a0)) (fun a0 d0 S p0 => by cases p0; exact ⟨_, rfl, rfl⟩) h0 r
theorem xe_P1t {t : α → D} {m0 : M D} {a0 : α} (h0 : XE B sl m0 (vP t) (.ok a0)) : XE B sl (eTup (aCons m0 aNil)) (vP (yP1 t)) (.ok (a0)) := xe_P1 h0
theorem xk2 {P0 : α → D → Store → Prop} {P1 : β → D → Store → Prop} {F : α → β → R ρ} {P' : ρ → κ → Store → Prop} {k : List D → Store → Res κ} {m0 m1 : M D} {f0 : R α} {f1 : R β} (hk : ∀ a0 a1 d0 d1 S, P0 a0 d0 S → P1 a1 d1 S → Out S P' (F a0 a1) (k [d0, d1] S)) (h0 : XE B sl m0 P0 f0) (h1 : XE B sl m1 P1 f1) {env : En} {S : Store} (r : SRel B sl env S) : Out S P' (f0.bind fun a0 => f1.bind fun a1 => F a0 a1) (((aCons m0 (aCons m1 aNil)) env S).bind k) := by
  have assoc : ∀ {X Y Z : Type} (r : Res X) (p : X → Store → Res Y) (q : Y → Store → Res Z), (r.bind p).bind q = r.bind fun x S => (p x S).bind q := fun r p q => by cases r <;> rfl
  simp only [aCons, aNil, assoc, bind_ok]
  exact Out.bind (h0 env S r) fun a0 d0 p0 => Out.bind (h1 env S r) fun a1 d1 p1 => hk a0 a1 d0 d1 S p0 p1
theorem xe_B2t {P0 : α → D → Store → Prop} {P1 : β → D → Store → Prop} {F : α → β → R ρ} {P' : ρ → κ → Store → Prop} {k : List D → Store → Res κ} {m0 m1 : M D} {a0 : α} {a1 : β} {f' : R ρ} (hk : ∀ a0 a1 d0 d1 S, P0 a0 d0 S → P1 a1 d1 S → Out S P' (F a0 a1) (k [d0, d1] S)) (h0 : XE B sl m0 P0 (.ok a0)) (h1 : XE B sl m1 P1 (.ok a1)) (e : F a0 a1 = f' := by rfl) : XE B sl (eB k (aCons m0 (aCons m1 aNil))) P' f' := fun env S r => by rw [← e]; exact xk2 hk h0 h1 r
theorem xe_call2 {P0 : α → D → Store → Prop} {P1 : β → D → Store → Prop} {F : α → β → R ρ} {P' : ρ → D → Store → Prop} {k : List D → Store → Res D} {m0 m1 : M D} {f0 : R α} {f1 : R β} {f' : R ρ} (hk : ∀ a0 a1 d0 d1 S, P0 a0 d0 S → P1 a1 d1 S → Out S P' (F a0 a1) (k [d0, d1] S)) (h0 : XE B sl m0 P0 f0) (h1 : XE B sl m1 P1 f1) (e : (f0.bind fun a0 => f1.bind fun a1 => F a0 a1) = f' := by rfl) : XE B sl (eCall 2 k (aCons m0 (aCons m1 aNil))) P' f' := fun env S r => by rw [← e]; exact xk2 (k := fun xs S1 => if xs.length = 2 then k xs S1 else .bad) hk h0 h1 r
theorem xe_call2t {P0 : α → D → Store → Prop} {P1 : β → D → Store → Prop} {F : α → β → R ρ} {P' : ρ → D → Store → Prop} {k : List D → Store → Res D} {m0 m1 : M D} {a0 : α} {a1 : β} {f' : R ρ} (hk : ∀ a0 a1 d0 d1 S, P0 a0 d0 S → P1 a1 d1 S → Out S P' (F a0 a1) (k [d0, d1] S)) (h0 : XE B sl m0 P0 (.ok a0)) (h1 : XE B sl m1 P1 (.ok a1)) (e : F a0 a1 = f' := by rfl) : XE B sl (eCall 2 k (aCons m0 (aCons m1 aNil))) P' f' := fun env S r => by rw [← e]; exact xk2 (k := fun xs S1 => if xs.length = 2 then k xs S1 else .bad) hk h0 h1 r
theorem xe_P2 {t : α → D} {u : β → D} {m0 m1 : M D} {f0 : R α} {f1 : R β} {f' : R (α × β)} (h0 : XE B sl m0 (vP t) f0) (h1 : XE B sl m1 (vP u) f1) (e : (f0.bind fun a0 => f1.bind fun a1 => .ok (a0, a1)) = f' := by rfl) : XE B sl (eTup (aCons m0 (aCons m1 aNil))) (vP (yP2 t u)) f' := fun env S r => by rw [← e]; exact xk2 (F := fun a0 a1 => .ok (a0, a1)) (fun a0 a1 d0 d1 S p0 p1 => by cases p0; cases p1; exact ⟨_, rfl, rfl⟩) h0 h1 r
theorem xe_P2t {t : α → D} {u : β → D} {m0 m1 : M D} {a0 : α} {a1 : β} (h0 : XE B sl m0 (vP t) (.ok a0)) (h1 : XE B sl m1 (vP u) (.ok a1)) : XE B sl (eTup (aCons m0 (aCons m1 aNil))) (vP (yP2 t u)) (.ok (a0, a1)) := xe_P2 h0 h1
theorem xk3 {P0 : α → D → Store → Prop} {P1 : β → D → Store → Prop} {P2 : γ → D → Store → Prop} {F : α → β → γ → R ρ} {P' : ρ → κ → Store → Prop} {k : List D → Store → Res κ} {m0 m1 m2 : M D} {f0 : R α} {f1 : R β} {f2 : R γ} (hk : ∀ a0 a1 a2 d0 d1 d2 S, P0 a0 d0 S → P1 a1 d1 S → P2 a2 d2 S → Out S P' (F a0 a1 a2) (k [d0, d1, d2] S)) (h0 : XE B sl m0 P0 f0) (h1 : XE B sl m1 P1 f1) (h2 : XE B sl m2 P2 f2) {env : En} {S : Store} (r : SRel B sl env S) : Out S P' (f0.bind fun a0 => f1.bind fun a1 => f2.bind fun a2 => F a0 a1 a2) (((aCons m0 (aCons m1 (aCons m2 aNil))) env S).bind k) := by
  have assoc : ∀ {X Y Z : Type} (r : Res X) (p : X → Store → Res Y) (q : Y → Store → Res Z), (r.bind p).bind q = r.bind fun x S => (p x S).bind q := fun r p q => by cases r <;> rfl
  simp only [aCons, aNil, assoc, bind_ok]
  exact Out.bind (h0 env S r) fun a0 d0 p0 => Out.bind (h1 env S r) fun a1 d1 p1 => Out.bind (h2 env S r) fun a2 d2 p2 => hk a0 a1 a2 d0 d1 d2 S p0 p1 p2
theorem xe_P3 {t : α → D} {u : β → D} {v : γ → D} {m0 m1 m2 : M D} {f0 : R α} {f1 : R β} {f2 : R γ} {f' : R (α × β × γ)} (h0 : XE B sl m0 (vP t) f0) (h1 : XE B sl m1 (vP u) f1) (h2 : XE B sl m2 (vP v) f2) (e : (f0.bind fun a0 => f1.bind fun a1 => f2.bind fun a2 => .ok (a0, a1, a2)) = f' := by rfl) : XE B sl (eTup (aCons m0 (aCons m1 (aCons m2 aNil)))) (vP (yP3 t u v)) f' := fun env S r => by rw [← e]; exact xk3 (F := fun a0 a1 a2 => .ok (a0, a1, a2)) (fun a0 a1 a2 d0 d1 d2 S p0 p1 p2 => by cases p0; cases p1; cases p2; exact ⟨_, rfl, rfl⟩) h0 h1 h2 r
theorem xe_P3t {t : α → D} {u : β → D} {v : γ → D} {m0 m1 m2 : M D} {a0 : α} {a1 : β} {a2 : γ} (h0 : XE B sl m0 (vP t) (.ok a0)) (h1 : XE B sl m1 (vP u) (.ok a1)) (h2 : XE B sl m2 (vP v) (.ok a2)) : XE B sl (eTup (aCons m0 (aCons m1 (aCons m2 aNil)))) (vP (yP3 t u v)) (.ok (a0, a1, a2)) := xe_P3 h0 h1 h2
theorem xk5 {P0 : α → D → Store → Prop} {P1 : β → D → Store → Prop} {P2 : γ → D → Store → Prop} {P3 : δ → D → Store → Prop} {P4 : ε → D → Store → Prop} {F : α → β → γ → δ → ε → R ρ} {P' : ρ → κ → Store → Prop} {k : List D → Store → Res κ} {m0 m1 m2 m3 m4 : M D} {f0 : R α} {f1 : R β} {f2 : R γ} {f3 : R δ} {f4 : R ε} (hk : ∀ a0 a1 a2 a3 a4 d0 d1 d2 d3 d4 S, P0 a0 d0 S → P1 a1 d1 S → P2 a2 d2 S → P3 a3 d3 S → P4 a4 d4 S → Out S P' (F a0 a1 a2 a3 a4) (k [d0, d1, d2, d3, d4] S)) (h0 : XE B sl m0 P0 f0) (h1 : XE B sl m1 P1 f1) (h2 : XE B sl m2 P2 f2) (h3 : XE B sl m3 P3 f3) (h4 : XE B sl m4 P4 f4) {env : En} {S : Store} (r : SRel B sl env S) : Out S P' (f0.bind fun a0 => f1.bind fun a1 => f2.bind fun a2 => f3.bind fun a3 => f4.bind fun a4 => F a0 a1 a2 a3 a4) (((aCons m0 (aCons m1 (aCons m2 (aCons m3 (aCons m4 aNil))))) env S).bind k) := by
  have assoc : ∀ {X Y Z : Type} (r : Res X) (p : X → Store → Res Y) (q : Y → Store → Res Z), (r.bind p).bind q = r.bind fun x S => (p x S).bind q := fun r p q => by cases r <;> rfl
  simp only [aCons, aNil, assoc, bind_ok]
  exact Out.bind (h0 env S r) fun a0 d0 p0 => Out.bind (h1 env S r) fun a1 d1 p1 => Out.bind (h2 env S r) fun a2 d2 p2 => Out.bind (h3 env S r) fun a3 d3 p3 => Out.bind (h4 env S r) fun a4 d4 p4 => hk a0 a1 a2 a3 a4 d0 d1 d2 d3 d4 S p0 p1 p2 p3 p4
theorem xe_l5 {t : α → D} {m0 m1 m2 m3 m4 : M D} {f0 : R α} {f1 : R α} {f2 : R α} {f3 : R α} {f4 : R α} {f' : R (List α)} (h0 : XE B sl m0 (vP t) f0) (h1 : XE B sl m1 (vP t) f1) (h2 : XE B sl m2 (vP t) f2) (h3 : XE B sl m3 (vP t) f3) (h4 : XE B sl m4 (vP t) f4) (e : (f0.bind fun a0 => f1.bind fun a1 => f2.bind fun a2 => f3.bind fun a3 => f4.bind fun a4 => .ok [a0, a1, a2, a3, a4]) = f' := by rfl) : XE B sl (fLst (aCons m0 (aCons m1 (aCons m2 (aCons m3 (aCons m4 aNil)))))) (vP (lM t)) f' := fun env S r => by rw [← e]; exact xk5 (F := fun a0 a1 a2 a3 a4 => .ok [a0, a1, a2, a3, a4]) (fun a0 a1 a2 a3 a4 d0 d1 d2 d3 d4 S p0 p1 p2 p3 p4 => by cases p0; cases p1; cases p2; cases p3; cases p4; exact ⟨_, rfl, rfl⟩) h0 h1 h2 h3 h4 r
theorem xe_l5t {t : α → D} {m0 m1 m2 m3 m4 : M D} {a0 : α} {a1 : α} {a2 : α} {a3 : α} {a4 : α} (h0 : XE B sl m0 (vP t) (.ok a0)) (h1 : XE B sl m1 (vP t) (.ok a1)) (h2 : XE B sl m2 (vP t) (.ok a2)) (h3 : XE B sl m3 (vP t) (.ok a3)) (h4 : XE B sl m4 (vP t) (.ok a4)) : XE B sl (fLst (aCons m0 (aCons m1 (aCons m2 (aCons m3 (aCons m4 aNil)))))) (vP (lM t)) (.ok [a0, a1, a2, a3, a4]) := xe_l5 h0 h1 h2 h3 h4
theorem xk9 {P0 : α → D → Store → Prop} {P1 : β → D → Store → Prop} {P2 : γ → D → Store → Prop} {P3 : δ → D → Store → Prop} {P4 : ε → D → Store → Prop} {P5 : ζ → D → Store → Prop} {P6 : η → D → Store → Prop} {P7 : θ → D → Store → Prop} {P8 : ι → D → Store → Prop} {F : α → β → γ → δ → ε → ζ → η → θ → ι → R ρ} {P' : ρ → κ → Store → Prop} {k : List D → Store → Res κ} {m0 m1 m2 m3 m4 m5 m6 m7 m8 : M D} {f0 : R α} {f1 : R β} {f2 : R γ} {f3 : R δ} {f4 : R ε} {f5 : R ζ} {f6 : R η} {f7 : R θ} {f8 : R ι} (hk : ∀ a0 a1 a2 a3 a4 a5 a6 a7 a8 d0 d1 d2 d3 d4 d5 d6 d7 d8 S, P0 a0 d0 S → P1 a1 d1 S → P2 a2 d2 S → P3 a3 d3 S → P4 a4 d4 S → P5 a5 d5 S → P6 a6 d6 S → P7 a7 d7 S → P8 a8 d8 S → Out S P' (F a0 a1 a2 a3 a4 a5 a6 a7 a8) (k [d0, d1, d2, d3, d4, d5, d6, d7, d8] S)) (h0 : XE B sl m0 P0 f0) (h1 : XE B sl m1 P1 f1) (h2 : XE B sl m2 P2 f2) (h3 : XE B sl m3 P3 f3) (h4 : XE B sl m4 P4 f4) (h5 : XE B sl m5 P5 f5) (h6 : XE B sl m6 P6 f6) (h7 : XE B sl m7 P7 f7) (h8 : XE B sl m8 P8 f8) {env : En} {S : Store} (r : SRel B sl env S) : Out S P' (f0.bind fun a0 => f1.bind fun a1 => f2.bind fun a2 => f3.bind fun a3 => f4.bind fun a4 => f5.bind fun a5 => f6.bind fun a6 => f7.bind fun a7 => f8.bind fun a8 => F a0 a1 a2 a3 a4 a5 a6 a7 a8) (((aCons m0 (aCons m1 (aCons m2 (aCons m3 (aCons m4 (aCons m5 (aCons m6 (aCons m7 (aCons m8 aNil))))))))) env S).bind k) := by
  have assoc : ∀ {X Y Z : Type} (r : Res X) (p : X → Store → Res Y) (q : Y → Store → Res Z), (r.bind p).bind q = r.bind fun x S => (p x S).bind q := fun r p q => by cases r <;> rfl
  simp only [aCons, aNil, assoc, bind_ok]
  exact Out.bind (h0 env S r) fun a0 d0 p0 => Out.bind (h1 env S r) fun a1 d1 p1 => Out.bind (h2 env S r) fun a2 d2 p2 => Out.bind (h3 env S r) fun a3 d3 p3 => Out.bind (h4 env S r) fun a4 d4 p4 => Out.bind (h5 env S r) fun a5 d5 p5 => Out.bind (h6 env S r) fun a6 d6 p6 => Out.bind (h7 env S r) fun a7 d7 p7 => Out.bind (h8 env S r) fun a8 d8 p8 => hk a0 a1 a2 a3 a4 a5 a6 a7 a8 d0 d1 d2 d3 d4 d5 d6 d7 d8 S p0 p1 p2 p3 p4 p5 p6 p7 p8
theorem xe_l9 {t : α → D} {m0 m1 m2 m3 m4 m5 m6 m7 m8 : M D} {f0 : R α} {f1 : R α} {f2 : R α} {f3 : R α} {f4 : R α} {f5 : R α} {f6 : R α} {f7 : R α} {f8 : R α} {f' : R (List α)} (h0 : XE B sl m0 (vP t) f0) (h1 : XE B sl m1 (vP t) f1) (h2 : XE B sl m2 (vP t) f2) (h3 : XE B sl m3 (vP t) f3) (h4 : XE B sl m4 (vP t) f4) (h5 : XE B sl m5 (vP t) f5) (h6 : XE B sl m6 (vP t) f6) (h7 : XE B sl m7 (vP t) f7) (h8 : XE B sl m8 (vP t) f8) (e : (f0.bind fun a0 => f1.bind fun a1 => f2.bind fun a2 => f3.bind fun a3 => f4.bind fun a4 => f5.bind fun a5 => f6.bind fun a6 => f7.bind fun a7 => f8.bind fun a8 => .ok [a0, a1, a2, a3, a4, a5, a6, a7, a8]) = f' := by rfl) : XE B sl (fLst (aCons m0 (aCons m1 (aCons m2 (aCons m3 (aCons m4 (aCons m5 (aCons m6 (aCons m7 (aCons m8 aNil)))))))))) (vP (lM t)) f' := fun env S r => by rw [← e]; exact xk9 (F := fun a0 a1 a2 a3 a4 a5 a6 a7 a8 => .ok [a0, a1, a2, a3, a4, a5, a6, a7, a8]) (fun a0 a1 a2 a3 a4 a5 a6 a7 a8 d0 d1 d2 d3 d4 d5 d6 d7 d8 S p0 p1 p2 p3 p4 p5 p6 p7 p8 => by cases p0; cases p1; cases p2; cases p3; cases p4; cases p5; cases p6; cases p7; cases p8; exact ⟨_, rfl, rfl⟩) h0 h1 h2 h3 h4 h5 h6 h7 h8 r
theorem xk10 {P0 : α → D → Store → Prop} {P1 : β → D → Store → Prop} {P2 : γ → D → Store → Prop} {P3 : δ → D → Store → Prop} {P4 : ε → D → Store → Prop} {P5 : ζ → D → Store → Prop} {P6 : η → D → Store → Prop} {P7 : θ → D → Store → Prop} {P8 : ι → D → Store → Prop} {P9 : μ → D → Store → Prop} {F : α → β → γ → δ → ε → ζ → η → θ → ι → μ → R ρ} {P' : ρ → κ → Store → Prop} {k : List D → Store → Res κ} {m0 m1 m2 m3 m4 m5 m6 m7 m8 m9 : M D} {f0 : R α} {f1 : R β} {f2 : R γ} {f3 : R δ} {f4 : R ε} {f5 : R ζ} {f6 : R η} {f7 : R θ} {f8 : R ι} {f9 : R μ} (hk : ∀ a0 a1 a2 a3 a4 a5 a6 a7 a8 a9 d0 d1 d2 d3 d4 d5 d6 d7 d8 d9 S, P0 a0 d0 S → P1 a1 d1 S → P2 a2 d2 S → P3 a3 d3 S → P4 a4 d4 S → P5 a5 d5 S → P6 a6 d6 S → P7 a7 d7 S → P8 a8 d8 S → P9 a9 d9 S → Out S P' (F a0 a1 a2 a3 a4 a5 a6 a7 a8 a9) (k [d0, d1, d2, d3, d4, d5, d6, d7, d8, d9] S)) (h0 : XE B sl m0 P0 f0) (h1 : XE B sl m1 P1 f1) (h2 : XE B sl m2 P2 f2) (h3 : XE B sl m3 P3 f3) (h4 : XE B sl m4 P4 f4) (h5 : XE B sl m5 P5 f5) (h6 : XE B sl m6 P6 f6) (h7 : XE B sl m7 P7 f7) (h8 : XE B sl m8 P8 f8) (h9 : XE B sl m9 P9 f9) {env : En} {S : Store} (r : SRel B sl env S) : Out S P' (f0.bind fun a0 => f1.bind fun a1 => f2.bind fun a2 => f3.bind fun a3 => f4.bind fun a4 => f5.bind fun a5 => f6.bind fun a6 => f7.bind fun a7 => f8.bind fun a8 => f9.bind fun a9 => F a0 a1 a2 a3 a4 a5 a6 a7 a8 a9) (((aCons m0 (aCons m1 (aCons m2 (aCons m3 (aCons m4 (aCons m5 (aCons m6 (aCons m7 (aCons m8 (aCons m9 aNil)))))))))) env S).bind k) := by
  have assoc : ∀ {X Y Z : Type} (r : Res X) (p : X → Store → Res Y) (q : Y → Store → Res Z), (r.bind p).bind q = r.bind fun x S => (p x S).bind q := fun r p q => by cases r <;> rfl
  simp only [aCons, aNil, assoc, bind_ok]
  exact Out.bind (h0 env S r) fun a0 d0 p0 => Out.bind (h1 env S r) fun a1 d1 p1 => Out.bind (h2 env S r) fun a2 d2 p2 => Out.bind (h3 env S r) fun a3 d3 p3 => Out.bind (h4 env S r) fun a4 d4 p4 => Out.bind (h5 env S r) fun a5 d5 p5 => Out.bind (h6 env S r) fun a6 d6 p6 => Out.bind (h7 env S r) fun a7 d7 p7 => Out.bind (h8 env S r) fun a8 d8 p8 => Out.bind (h9 env S r) fun a9 d9 p9 => hk a0 a1 a2 a3 a4 a5 a6 a7 a8 a9 d0 d1 d2 d3 d4 d5 d6 d7 d8 d9 S p0 p1 p2 p3 p4 p5 p6 p7 p8 p9
theorem xe_l10 {t : α → D} {m0 m1 m2 m3 m4 m5 m6 m7 m8 m9 : M D} {f0 : R α} {f1 : R α} {f2 : R α} {f3 : R α} {f4 : R α} {f5 : R α} {f6 : R α} {f7 : R α} {f8 : R α} {f9 : R α} {f' : R (List α)} (h0 : XE B sl m0 (vP t) f0) (h1 : XE B sl m1 (vP t) f1) (h2 : XE B sl m2 (vP t) f2) (h3 : XE B sl m3 (vP t) f3) (h4 : XE B sl m4 (vP t) f4) (h5 : XE B sl m5 (vP t) f5) (h6 : XE B sl m6 (vP t) f6) (h7 : XE B sl m7 (vP t) f7) (h8 : XE B sl m8 (vP t) f8) (h9 : XE B sl m9 (vP t) f9) (e : (f0.bind fun a0 => f1.bind fun a1 => f2.bind fun a2 => f3.bind fun a3 => f4.bind fun a4 => f5.bind fun a5 => f6.bind fun a6 => f7.bind fun a7 => f8.bind fun a8 => f9.bind fun a9 => .ok [a0, a1, a2, a3, a4, a5, a6, a7, a8, a9]) = f' := by rfl) : XE B sl (fLst (aCons m0 (aCons m1 (aCons m2 (aCons m3 (aCons m4 (aCons m5 (aCons m6 (aCons m7 (aCons m8 (aCons m9 aNil))))))))))) (vP (lM t)) f' := fun env S r => by rw [← e]; exact xk10 (F := fun a0 a1 a2 a3 a4 a5 a6 a7 a8 a9 => .ok [a0, a1, a2, a3, a4, a5, a6, a7, a8, a9]) (fun a0 a1 a2 a3 a4 a5 a6 a7 a8 a9 d0 d1 d2 d3 d4 d5 d6 d7 d8 d9 S p0 p1 p2 p3 p4 p5 p6 p7 p8 p9 => by cases p0; cases p1; cases p2; cases p3; cases p4; cases p5; cases p6; cases p7; cases p8; cases p9; exact ⟨_, rfl, rfl⟩) h0 h1 h2 h3 h4 h5 h6 h7 h8 h9 r
theorem xe_l10t {t : α → D} {m0 m1 m2 m3 m4 m5 m6 m7 m8 m9 : M D} {a0 : α} {a1 : α} {a2 : α} {a3 : α} {a4 : α} {a5 : α} {a6 : α} {a7 : α} {a8 : α} {a9 : α} (h0 : XE B sl m0 (vP t) (.ok a0)) (h1 : XE B sl m1 (vP t) (.ok a1)) (h2 : XE B sl m2 (vP t) (.ok a2)) (h3 : XE B sl m3 (vP t) (.ok a3)) (h4 : XE B sl m4 (vP t) (.ok a4)) (h5 : XE B sl m5 (vP t) (.ok a5)) (h6 : XE B sl m6 (vP t) (.ok a6)) (h7 : XE B sl m7 (vP t) (.ok a7)) (h8 : XE B sl m8 (vP t) (.ok a8)) (h9 : XE B sl m9 (vP t) (.ok a9)) : XE B sl (fLst (aCons m0 (aCons m1 (aCons m2 (aCons m3 (aCons m4 (aCons m5 (aCons m6 (aCons m7 (aCons m8 (aCons m9 aNil))))))))))) (vP (lM t)) (.ok [a0, a1, a2, a3, a4, a5, a6, a7, a8, a9]) := xe_l10 h0 h1 h2 h3 h4 h5 h6 h7 h8 h9
theorem xe_l0 {t : α → D} : XE B sl (fLst aNil) (vP (lM t)) (.ok []) := fun env S r => ⟨_, rfl, rfl⟩
end
end Rf

namespace Rf
open PySem PySem.Spec PyProof.Rows L2
@[irreducible] def mulR (a b : Int) : R Int := if WMul a b then .ok (a * b) else .bad
@[irreducible] def modR (a b : Int) : R Int := if 0 < b then .ok (a % b) else .bad
@[irreducible] def powR (a b : Int) : R Int := if CPow a b then .ok (a ^ b.toNat) else .bad
section
variable {α β : Type} {t : α → D}
theorem op_add : Op2 dAdd (vP yI) (vP yI) (vP yI) fun a b => .ok (a + b) := fun a b d e S h1 h2 => by cases h1; cases h2; exact ⟨_, rfl, rfl⟩
theorem op_sub' : Op2 dSub (vP yI) (vP yI) (vP yI) fun a b => .ok (a - b) := fun a b d e S h1 h2 => by cases h1; cases h2; exact ⟨_, rfl, rfl⟩
theorem i2_if {f : Int → Int → D} {C : Int → Int → Bool} {P : Int → Int → Prop} [∀ i j, Decidable (P i j)] {g : Int → Int → α} {u : α → D} (hC : ∀ i j, C i j = decide (P i j)) (hf : ∀ i j, f i j = u (g i j)) : Op2 (i2 f C) (vP yI) (vP yI) (vP u) fun a b => if P a b then .ok (g a b) else .bad := fun a b d e S h1 h2 => by
  cases h1; cases h2
  show Out S (vP u) (if P a b then .ok (g a b) else .bad) (if C a b = true then .ok (f a b) S else .bad)
  rw [hC]
  by_cases h : P a b
  · rw [if_pos h, if_pos (decide_eq_true h)]; exact ⟨_, rfl, hf a b⟩
  · rw [if_neg h]; trivial
theorem op_mul' : Op2 dMulI (vP yI) (vP yI) (vP yI) mulR := by unfold mulR; exact i2_if (fun _ _ => rfl) fun _ _ => rfl
theorem op_mod' : Op2 dMod (vP yI) (vP yI) (vP yI) modR := by unfold modR; exact i2_if (P := fun _ j => 0 < j) (fun _ _ => rfl) fun _ _ => rfl
theorem op_pow' : Op2 dPow (vP yI) (vP yI) (vP yI) powR := by unfold powR; exact i2_if (fun _ _ => rfl) fun _ _ => rfl
theorem op_neg' : Op1 dNeg (vP yI) (vP yI) fun a => .ok (-a) := fun a d S h1 => by cases h1; exact ⟨_, rfl, rfl⟩
theorem op_eqI : Op2 dEq (vP yI) (vP yI) (vP yB) fun a b => .ok (decide (a = b)) := fun a b d e S h1 h2 => by cases h1; cases h2; exact ⟨_, rfl, rfl⟩
theorem op_neI : Op2 dNe (vP yI) (vP yI) (vP yB) fun a b => .ok (!decide (a = b)) := fun a b d e S h1 h2 => by cases h1; cases h2; exact ⟨_, rfl, rfl⟩
theorem op_ltI : Op2 dLt (vP yI) (vP yI) (vP yB) fun a b => .ok (decide (a < b)) := fun a b d e S h1 h2 => by cases h1; cases h2; exact ⟨_, rfl, rfl⟩
theorem op_gtI : Op2 dGt (vP yI) (vP yI) (vP yB) fun a b => .ok (decide (b < a)) := fun a b d e S h1 h2 => by cases h1; cases h2; exact ⟨_, rfl, rfl⟩
theorem op_geI : Op2 dGe (vP yI) (vP yI) (vP yB) fun a b => .ok (decide (b ≤ a)) := fun a b d e S h1 h2 => by cases h1; cases h2; exact ⟨_, rfl, rfl⟩
theorem dEq_of {d e : D} {S : Store} (h1 : shD dpt (val S d) = true) (h2 : shD dpt (val S e) = true) : dEq d e S = .ok (.bl (PyData.eqv (py (val S d)) (py (val S e)))) S := by
  have hh := And.intro h1 h2
  cases d <;> cases e <;> first
    | (rename_i i j; show Res.ok (D.bl (decide (i = j))) S = Res.ok (D.bl (PyData.eqv (.int i) (.int j))) S; rw [eqv_int])
    | (rename_i i j; show Res.ok (D.bl (decide (i = j))) S = Res.ok (D.bl (PyData.eqv (.bool i) (.bool j))) S; rw [eqv_bl])
    | exact if_pos (e := Res.bad) hh
theorem dNe_of {d e : D} {S : Store} (h1 : shD dpt (val S d) = true) (h2 : shD dpt (val S e) = true) : dNe d e S = .ok (.bl (!PyData.eqv (py (val S d)) (py (val S e)))) S := by
  have hh := And.intro h1 h2
  cases d <;> cases e <;> first
    | (rename_i i j; show Res.ok (D.bl (!decide (i = j))) S = Res.ok (D.bl (!PyData.eqv (.int i) (.int j))) S; rw [eqv_int])
    | (rename_i i j; show Res.ok (D.bl (!decide (i = j))) S = Res.ok (D.bl (!PyData.eqv (.bool i) (.bool j))) S; rw [eqv_bl])
    | exact if_pos (e := Res.bad) hh
theorem eqv_dec [DecidableEq α] [TEq t] (a b : α) : PyData.eqv (py (t a)) (py (t b)) = decide (a = b) := by
  by_cases h : a = b
  · rw [decide_eq_true h]; exact (TEq.eqv (t := t) a b).mpr h
  · rw [decide_eq_false h]
    cases e : PyData.eqv (py (t a)) (py (t b)) with
    | true => exact absurd ((TEq.eqv (t := t) a b).mp e) h
    | false => rfl
theorem isIn_map [TEq t] [DecidableEq α] (a : α) : ∀ l : List α, isIn (t a) (l.map t) = decide (a ∈ l)
  | [] => by simp [isIn]
  | x :: l => by
    have ih := isIn_map a l
    unfold isIn at ih ⊢
    rw [List.map_cons, List.any_cons, ih, eqv_dec]
    by_cases h : x = a
    · subst h; simp
    · have : ¬ a = x := fun z => h z.symm
      simp [h, this]
def memB {α : Type} [DecidableEq α] (a : α) (l : List α) : Bool := decide (a ∈ l)
theorem dIn_of {neg : Bool} {d e : D} {S : Store} {ds : List D} (h : seqOf S e = some ds) (h1 : shD dpt (val S d) = true) (h2 : ds.all (shD 11) = true) : dInG neg d e S = .ok (.bl (if neg then !isIn (val S d) ds else isIn (val S d) ds)) S := by
  unfold dInG
  cases e with
  | tup xs => cases h; exact if_pos ⟨h1, h2⟩
  | lst xs => cases h; exact if_pos ⟨h1, h2⟩
  | fz xs => cases h; exact if_pos ⟨h1, h2⟩
  | cell n =>
    unfold seqOf at h
    dsimp only at h
    have : val S (.cell n) = .lst ds := by
      unfold val
      dsimp only
      cases eo : S[n]? with
      | none => rw [eo] at h; cases h
      | some o =>
        rw [eo] at h
        cases o with
        | lst xs => cases h; rfl
        | dK _ => cases h
        | dI _ => cases h
        | ins _ _ => cases h
        | dS _ => cases h
        | gone => cases h
    rw [this]
    exact if_pos ⟨h1, h2⟩
  | _ => cases h
theorem op_in' {n : Nat} {b : Bool} [TSh t n] [TNc t] [TEq t] [DecidableEq α] (hn : n ≤ 11 := by decide) : Op2 (dInG false) (vP t) (lP b t) (vP yB) fun a l => .ok (memB a l) := fun a l d e S h1 h2 => by
  cases h1
  refine ⟨_, dIn_of h2.1 (by rw [TNc.nc]; exact TSh.sh (t := t) 12 a (by omega)) (all_sh hn l), ?_⟩
  rw [TNc.nc, isIn_map]
  rfl
theorem op_nin' {n : Nat} {b : Bool} [TSh t n] [TNc t] [TEq t] [DecidableEq α] (hn : n ≤ 11 := by decide) : Op2 (dInG true) (vP t) (lP b t) (vP yB) fun a l => .ok (!memB a l) := fun a l d e S h1 h2 => by
  cases h1
  refine ⟨_, dIn_of h2.1 (by rw [TNc.nc]; exact TSh.sh (t := t) 12 a (by omega)) (all_sh hn l), ?_⟩
  rw [TNc.nc, isIn_map]
  rfl
@[irreducible] def ixR {α : Type} (l : List α) (i : Int) : R α := match atI l i with
  | some x => .ok x
  | none => .bad
theorem atI_map (t : α → D) (l : List α) (i : Int) : atI (l.map t) i = (atI l i).map t := by
  unfold atI
  rw [List.length_map]
  cases ixN l.length i with
  | none => rfl
  | some j => show (l.map t)[j]? = (l[j]?).map t; exact List.getElem?_map
theorem op_ix' {b : Bool} : Op2 dIx (lP b t) (vP yI) (vP t) ixR := fun l i d e S h1 h2 => by
  cases h2
  unfold dIx ixR
  rw [h1.1]
  show Out S (vP t) _ (match atI (l.map t) i with | some x => Res.ok x S | none => Res.bad)
  rw [atI_map]
  cases atI l i with
  | none => trivial
  | some x => exact ⟨_, rfl, rfl⟩
@[irreducible] def catR {α : Type} (a b : List α) : R (List α) := if a.length + b.length ≤ big then .ok (a ++ b) else .bad
def lQ {α : Type} (t : α → D) : List α → D → Store → Prop := fun l d S => lstOf S d = some (l.map t)
theorem lQ_L {t : α → D} (l : List α) (d : D) (S : Store) (h : vP (yL t) l d S) : lQ t l d S := by cases h; rfl
theorem op_catL : Op2 dAdd (lQ t) (lQ t) (vP (yL t)) catR := fun a b d e S h1 h2 => by
  have key : Out S (vP (yL t)) (catR a b) (dCatL d e S) := by
    unfold dCatL
    rw [show lstOf S d = _ from h1, show lstOf S e = _ from h2]
    show Out S _ _ (if (a.map t).length + (b.map t).length ≤ big then Res.ok (D.lst (a.map t ++ b.map t)) S else Res.bad)
    unfold catR
    rw [List.length_map, List.length_map]
    by_cases h : a.length + b.length ≤ big
    · rw [if_pos h, if_pos h]; exact ⟨_, rfl, by rw [← List.map_append]; rfl⟩
    · rw [if_neg h]; trivial
  cases d <;> cases e <;> first | exact key | cases h1
theorem bf_len {b : Bool} : ∀ l d S, lP b t l d S → Out S (vP yI) (.ok (l.length : Int)) (dLen [d] S) := fun l d S h => by
  unfold dLen
  dsimp only
  rw [h.1]
  exact ⟨_, rfl, by rw [List.length_map]; rfl⟩
theorem bf_tuple {b : Bool} : ∀ l d S, lP b t l d S → Out S (vP (yT t)) (.ok l) (dTuple [d] S) := fun l d S h => by
  unfold dTuple
  dsimp only
  rw [h.1]
  exact ⟨_, rfl, rfl⟩
theorem bf_int : ∀ (b : Bool) d S, vP yB b d S → Out S (vP yI) (.ok (if b = true then 1 else 0)) (dInt [d] S) := fun b d S h => by cases h; exact ⟨_, rfl, rfl⟩
theorem nums_yI (l : List Int) : nums (l.map yI) = some l := by
  induction l with
  | nil => rfl
  | cons x l ih => show (nums (l.map yI)).map (x :: ·) = _; rw [ih]; rfl
def minI (a b : Int) : Int := if b < a then b else a
def maxI (a b : Int) : Int := if b > a then b else a
theorem bf_min2 : ∀ (a b : Int) d e S, vP yI a d S → vP yI b e S → Out S (vP yI) (.ok (minI a b)) (dMin2 false [d, e] S) := fun a b d e S h1 h2 => by cases h1; cases h2; exact ⟨_, rfl, rfl⟩
theorem bf_max2 : ∀ (a b : Int) d e S, vP yI a d S → vP yI b e S → Out S (vP yI) (.ok (maxI a b)) (dMin2 true [d, e] S) := fun a b d e S h1 h2 => by cases h1; cases h2; exact ⟨_, rfl, rfl⟩
@[irreducible] def minR : List Int → R Int
  | [] => .bad
  | x :: l => .ok (l.foldl min x)
@[irreducible] def maxR : List Int → R Int
  | [] => .bad
  | x :: l => .ok (l.foldl max x)
theorem bf_min {b : Bool} : ∀ (l : List Int) d S, lP b yI l d S → Out S (vP yI) (minR l) (dMin2 false [d] S) := fun l d S h => by
  unfold minR
  cases l with
  | nil => trivial
  | cons x l =>
    have e : dMin2 false [d] S = (match seqOf S d with | some (.int x :: xs) => (match nums xs with | some ns => .ok (.int (if false = true then ns.foldl max x else ns.foldl min x)) S | none => .bad) | _ => .bad) := by cases d <;> rfl
    rw [e, h.1]
    show Out S _ _ (match nums (l.map yI) with | some ns => Res.ok (D.int (if false = true then ns.foldl max x else ns.foldl min x)) S | none => Res.bad)
    rw [nums_yI]
    exact ⟨_, rfl, rfl⟩
theorem bf_max {b : Bool} : ∀ (l : List Int) d S, lP b yI l d S → Out S (vP yI) (maxR l) (dMin2 true [d] S) := fun l d S h => by
  unfold maxR
  cases l with
  | nil => trivial
  | cons x l =>
    have e : dMin2 true [d] S = (match seqOf S d with | some (.int x :: xs) => (match nums xs with | some ns => .ok (.int (if true = true then ns.foldl max x else ns.foldl min x)) S | none => .bad) | _ => .bad) := by cases d <;> rfl
    rw [e, h.1]
    show Out S _ _ (match nums (l.map yI) with | some ns => Res.ok (D.int (if true = true then ns.foldl max x else ns.foldl min x)) S | none => Res.bad)
    rw [nums_yI]
    exact ⟨_, rfl, rfl⟩
class TOrd {α : Type} (t : α → D) (le : outParam (α → α → Bool)) : Prop where
  le_ : ∀ a b, PySem.W.dataLe false py (t a) (t b) = le a b
  alike : ∀ a b, PySem.W.alike (py (t a)) (py (t b)) = true
  srt : (∀ a, ∃ x r, py (t a) = .tuple (x :: r)) ∨ ∀ a, py (t a) ≠ .none ∧ ∀ xs, py (t a) ≠ .tuple xs
@[irreducible] def sortR {α : Type} (le : α → α → Bool) (l : List α) : R (List α) := if l.length ≤ big then .ok (l.mergeSort le) else .bad
theorem bf_sorted {n : Nat} {b : Bool} {le : α → α → Bool} [TSh t n] [TOrd t le] (hn : n ≤ 11 := by decide) : ∀ l d S, lP b t l d S → Out S (vP (lM t)) (sortR le l) (fSorted [d] S) := fun l d S h => by
  unfold fSorted sortR
  dsimp only
  rw [h.1]
  dsimp only
  by_cases hl : l.length ≤ big
  · rw [if_pos hl, if_pos]
    · refine ⟨_, rfl, ?_⟩
      show _ = (l.mergeSort le).map t
      rw [PySem.W.sort_maps (s := PySem.W.dataLe false py) t fun a _ b _ => (TOrd.le_ (t := t) a b).symm]
    · refine ⟨by rw [List.length_map]; exact hl, all_sh hn l, ?_, ?_⟩
      · intro x hx y hy
        rw [List.map_map] at hx hy
        obtain ⟨i, _, rfl⟩ := List.mem_map.mp hx
        obtain ⟨j, _, rfl⟩ := List.mem_map.mp hy
        exact TOrd.alike (t := t) i j
      · rcases TOrd.srt (t := t) with q | q
        · refine .inl fun x hx => ?_
          rw [List.map_map] at hx
          obtain ⟨i, _, rfl⟩ := List.mem_map.mp hx
          exact q i
        · refine .inr fun x hx => ?_
          rw [List.map_map] at hx
          obtain ⟨i, _, rfl⟩ := List.mem_map.mp hx
          exact q i
  · rw [if_neg hl]; trivial
def leI (a b : Int) : Bool := decide (a ≤ b)
theorem dataLe_I (a b : Int) : PySem.W.dataLe false py (.int a) (.int b) = leI a b := congrFun (congrFun (PySem.W.dataLe_int (fun x : Int => x)) a) b
instance : TOrd yI leI := ⟨dataLe_I, fun _ _ => rfl, .inr fun a => ⟨fun z => (nomatch z), fun _ z => (nomatch z)⟩⟩
end
end Rf

namespace Rf
open PySem PySem.Spec PyProof.Rows L2
def iP {α : Type} (t : α → D) : List α → IT → Store → Prop := fun l it S => it.ds = l.map t ∧ it.chk S
def i0 {α : Type} (t : α → D) : List α → IT → Store → Prop := fun l it _ => it = ⟨l.map t, []⟩
def rng1 (n : Int) : List Int := (List.range n.toNat).map fun i : Nat => (i : Int)
@[irreducible] def rng1R (n : Int) : R (List Int) := if -(2 ^ 62) ≤ n ∧ n < 2 ^ 62 then .ok (rng1 n) else .bad
section
variable {B : Bs} {sl : List Sl} {α β γ δ σ ρ : Type} {t : α → D}
theorem Out.imp {P P' : α → β → Store → Prop} {S : Store} {f : R α} {r : Res β} (h : Out S P f r) (k : ∀ a d, P a d S → P' a d S) : Out S P' f r := by
  cases f with
  | ok a => obtain ⟨d, e, q⟩ := h; exact ⟨d, e, k a d q⟩
  | err c => exact h
  | bad => trivial
theorem Out.bind1 {P : α → β → Store → Prop} {P' : α → δ → Store → Prop} {S : Store} {f : R α} {r : Res β} {k : β → Store → Res δ} (h : Out S P f r) (hk : ∀ a d, P a d S → ∃ d', k d S = .ok d' S ∧ P' a d' S) : Out S P' f (r.bind k) := by
  cases f with
  | ok a => obtain ⟨d, rfl, q⟩ := h; exact hk a d q
  | err c => rw [show r = _ from h]; rfl
  | bad => trivial
theorem xi_L {m : M D} {f : R (List α)} (h : XE B sl m (vP (yL t)) f) : XE B sl (iSeq m) (i0 t) f := fun env S r => Out.bind1 (h env S r) fun a d q => by cases q; exact ⟨_, rfl, rfl⟩
theorem fIt_of {S : Store} {d : D} {ds : List D} (h : seqOf S d = some ds) : ∃ it, fIt S d = some it ∧ it.ds = ds ∧ it.chk S ∧ (∀ p ∈ it.cells, d = .cell p.1 ∧ p.2 = ds) := by
  cases d with
  | tup xs => cases h; exact ⟨_, rfl, rfl, fun p hp => (nomatch hp), fun p hp => (nomatch hp)⟩
  | lst xs => cases h; exact ⟨_, rfl, rfl, fun p hp => (nomatch hp), fun p hp => (nomatch hp)⟩
  | fz xs => cases h; exact ⟨_, rfl, rfl, fun p hp => (nomatch hp), fun p hp => (nomatch hp)⟩
  | cell n =>
    unfold seqOf at h
    dsimp only at h
    cases eo : S[n]? with
    | none => rw [eo] at h; cases h
    | some o =>
      rw [eo] at h
      cases o with
      | dK _ => cases h
      | dI _ => cases h
      | ins _ _ => cases h
      | dS _ => cases h
      | gone => cases h
      | lst xs =>
        cases h
        refine ⟨⟨ds, [(n, ds)]⟩, by unfold fIt; dsimp only; rw [eo], rfl, fun p hp => ?_, fun p hp => ?_⟩
        · rw [List.mem_singleton.mp hp]; exact eo
        · rw [List.mem_singleton.mp hp]; exact ⟨rfl, rfl⟩
  | _ => cases h
theorem XE.toP {m : M IT} {f : R (List α)} (h : XE B sl m (i0 t) f) : XE B sl m (iP t) f := fun env S r => (h env S r).imp fun a d q => by cases q; exact ⟨rfl, fun p hp => (nomatch hp)⟩
theorem xi_r1 {m : M D} {f : R Int} {f' : R (List Int)} (h : XE B sl m (vP yI) f) (e : (f.bind fun n => rng1R n) = f' := by rfl) : XE B sl (iR1 (aCons m aNil)) (i0 yI) f' := fun env S r => by
  rw [← e]
  refine xk1 (F := fun n => rng1R n) (P' := i0 yI) (fun n d S q => ?_) h r
  cases q
  unfold rng1R
  show Out S (i0 yI) (if _ then _ else _) (if -(2 ^ 62) ≤ n ∧ n < 2 ^ 62 then _ else _)
  by_cases hn : -(2 ^ 62) ≤ n ∧ n < 2 ^ 62
  · rw [if_pos hn, if_pos hn]; exact ⟨_, rfl, by unfold i0 rng1; rw [List.map_map]; rfl⟩
  · rw [if_neg hn]; trivial
def XPt (B : Bs) (p : Pat) (t : α → D) (sl : List Sl) (Es : α → List Sl) : Prop := ∀ x env S, SRel B sl env S → ∃ e1, p (t x) env = some e1 ∧ SRel B (Es x) e1 S
theorem xp_name (i : Nat) : XPt B (pName i) t sl fun x => sl.set i (.v (t x)) := fun x env S r => ⟨_, rfl, r.set_v i _⟩
theorem xp_t2 {u : β → D} {p1 p2 : Pat} {E1 : α → List Sl} {E2 : α → β → List Sl} (h1 : XPt B p1 t sl E1) (h2 : ∀ x, XPt B p2 u (E1 x) (E2 x)) : XPt B (pTup 2 (pCons p1 (pCons p2 pNil))) (yP2 t u) sl fun p => E2 p.1 p.2 := fun x env S r => by
  obtain ⟨e1, q1, r1⟩ := h1 x.1 env S r
  obtain ⟨e2, q2, r2⟩ := h2 x.1 x.2 e1 S r1
  refine ⟨e2, ?_, r2⟩
  show (p1 (t x.1) env).bind (fun e => (p2 (u x.2) e).bind fun e => some e) = _
  rw [q1]; show (p2 (u x.2) e1).bind (fun e => some e) = _; rw [q2]; rfl
def compR (fc : α → R Bool) (fe : α → R β) : List α → R (List β)
  | [] => .ok []
  | x :: l => match fc x with
    | .ok true => (match fe x with
      | .ok y => (compR fc fe l).bind fun ys => .ok (y :: ys)
      | _ => .bad)
    | .ok false => compR fc fe l
    | _ => .bad
@[irreducible] def compB (fc : α → R Bool) (fe : α → R β) (l : List α) : R (List β) := if l.length ≤ big then compR fc fe l else .bad
theorem comp_run {u : β → D} {p : Pat} {mt : M Bool} {me : M D} {Es : α → List Sl} {fc : α → R Bool} {fe : α → R β} {chk : Store → Prop} {env : En} {S : Store} (r : SRel B sl env S) (hk : chk S) (hp : XPt B p t sl Es) (ht : ∀ x, XE B (Es x) mt bP (fc x)) (he : ∀ x, XE B (Es x) me (vP u) (fe x)) : ∀ l : List α, Out S (vP (lM u)) (compR fc fe l) (compD p mt me chk env (l.map t) S)
  | [] => by rw [List.map_nil]; unfold compD; rw [if_pos hk]; exact ⟨_, rfl, rfl⟩
  | x :: l => by
    obtain ⟨e1, q1, r1⟩ := hp x env S r
    rw [List.map_cons]
    unfold compD compR
    rw [if_pos hk, q1]
    dsimp only
    have h1 := ht x e1 S r1
    cases ec : fc x with
    | bad => trivial
    | err c => trivial
    | ok b =>
      rw [ec] at h1
      obtain ⟨d, q2, q3⟩ := h1
      cases q3
      rw [q2]
      cases b with
      | false => exact comp_run r hk hp ht he l
      | true =>
        dsimp only
        have h2 := he x e1 S r1
        cases ee : fe x with
        | bad => trivial
        | err c => trivial
        | ok y =>
          rw [ee] at h2
          obtain ⟨d, q4, q5⟩ := h2
          cases q5
          rw [q4]
          exact Out.bind (comp_run r hk hp ht he l) fun a d q => by cases q; exact ⟨_, rfl, rfl⟩
theorem xe_comp {u : β → D} {mi : M IT} {p : Pat} {mt : M Bool} {me : M D} {own : List Nat} {Es : α → List Sl} {fi : R (List α)} {fc : α → R Bool} {fe : α → R β} {f' : R (List β)} (hi : XE B sl mi (iP t) fi) (hp : XPt B p t (clrS sl own) Es) (ht : ∀ x, XE B (Es x) mt bP (fc x)) (he : ∀ x, XE B (Es x) me (vP u) (fe x)) (e : (fi.bind fun l => compB fc fe l) = f' := by rfl) : XE B sl (fComp mi p mt me own) (vP (lM u)) f' := fun env S r => by
  rw [← e]
  refine Out.bind (hi env S r) fun l it q => ?_
  obtain ⟨q1, q2⟩ := q
  unfold compB
  rw [q1, List.length_map]
  by_cases hl : l.length ≤ big
  · rw [if_pos hl, if_pos hl]
    exact comp_run (r.clr own) q2 hp ht he l
  · rw [if_neg hl]; trivial
theorem xe_yes : XE B sl tYes' bP (.ok true) := fun env S r => ⟨true, rfl, rfl⟩
inductive Lp (σ ρ : Type) where
  | go (s : σ) | cont (s : σ) | brk (s : σ) | out (x : ρ)
def OutN (B : Bs) (E : σ → List Sl) (f : R σ) (r : RS) : Prop := match f with
  | .ok s => ∃ env' S', r = .next env' S' ∧ SRel B (E s) env' S'
  | .err c => ∃ env' S', r = .err c env' S' ∧ Fr B S'
  | .bad => True
def OutB (B : Bs) (P : ρ → D → Store → Prop) (f : R ρ) (r : RS) : Prop := match f with
  | .ok x => ∃ d S', (r = .ret d S' ∨ (d = .non ∧ ∃ e, r = .next e S')) ∧ P x d S' ∧ Fr B S'
  | .err c => ∃ env' S', r = .err c env' S' ∧ Fr B S'
  | .bad => True
def OutL (B : Bs) (E : σ → List Sl) (P : ρ → D → Store → Prop) (f : R (Lp σ ρ)) (r : RS) : Prop := match f with
  | .ok (.go s) => ∃ env' S', r = .next env' S' ∧ SRel B (E s) env' S'
  | .ok (.cont s) => ∃ env' S', r = .cont env' S' ∧ SRel B (E s) env' S'
  | .ok (.brk s) => ∃ env' S', r = .brk env' S' ∧ SRel B (E s) env' S'
  | .ok (.out x) => ∃ d S', r = .ret d S' ∧ P x d S' ∧ Fr B S'
  | .err c => ∃ env' S', r = .err c env' S' ∧ Fr B S'
  | .bad => True
def XN (B : Bs) (sl : List Sl) (m : MS) (E : σ → List Sl) (f : R σ) : Prop := ∀ env S, SRel B sl env S → OutN B E f (m env S)
def XB (B : Bs) (sl : List Sl) (m : MS) (P : ρ → D → Store → Prop) (f : R ρ) : Prop := ∀ env S, SRel B sl env S → OutB B P f (m env S)
def XL (B : Bs) (sl : List Sl) (m : MS) (E : σ → List Sl) (P : ρ → D → Store → Prop) (f : R (Lp σ ρ)) : Prop := ∀ env S, SRel B sl env S → OutL B E P f (m env S)
theorem Out.thenN {β : Type} {P : α → β → Store → Prop} {E : σ → List Sl} {f : R α} {g : α → R σ} {r : Res β} {env : En} {S : Store} {k : β → Store → RS} (hr : Fr B S) (h : Out S P f r) (hk : ∀ a d, P a d S → OutN B E (g a) (k d S)) : OutN B E (f.bind g) (r.then env k) := by
  cases f with
  | ok a => obtain ⟨d, rfl, q⟩ := h; exact hk a d q
  | err c => rw [show r = _ from h]; exact ⟨env, S, rfl, hr⟩
  | bad => trivial
theorem Out.thenB {β : Type} {P : α → β → Store → Prop} {P' : ρ → D → Store → Prop} {f : R α} {g : α → R ρ} {r : Res β} {env : En} {S : Store} {k : β → Store → RS} (hr : Fr B S) (h : Out S P f r) (hk : ∀ a d, P a d S → OutB B P' (g a) (k d S)) : OutB B P' (f.bind g) (r.then env k) := by
  cases f with
  | ok a => obtain ⟨d, rfl, q⟩ := h; exact hk a d q
  | err c => rw [show r = _ from h]; exact ⟨env, S, rfl, hr⟩
  | bad => trivial
theorem Out.thenL {β : Type} {P : α → β → Store → Prop} {E : σ → List Sl} {P' : ρ → D → Store → Prop} {f : R α} {g : α → R (Lp σ ρ)} {r : Res β} {env : En} {S : Store} {k : β → Store → RS} (hr : Fr B S) (h : Out S P f r) (hk : ∀ a d, P a d S → OutL B E P' (g a) (k d S)) : OutL B E P' (f.bind g) (r.then env k) := by
  cases f with
  | ok a => obtain ⟨d, rfl, q⟩ := h; exact hk a d q
  | err c => rw [show r = _ from h]; exact ⟨env, S, rfl, hr⟩
  | bad => trivial
theorem bind_ret {α : Type} (f : R α) : f.bind (fun a => .ok a) = f := by cases f <;> rfl
theorem xn_asg {m : M D} {f : R α} (i : Nat) (h : XE B sl m (vP t) f) : XN B sl (sAsg m (pName i)) (fun a => sl.set i (.v (t a))) f := fun env S r => by
  have := Out.thenN (env := env) (g := fun a => .ok a) (E := fun a => sl.set i (.v (t a))) r.frm (h env S r) (k := fun d S1 => match pName i d env with | some e' => .next e' S1 | none => .bad) fun a d q => by cases q; exact ⟨_, _, rfl, r.set_v i _⟩
  rw [bind_ret] at this
  exact this
theorem OutN.imp {E E' : σ → List Sl} {f : R σ} {r : RS} (h : OutN B E f r) (k : ∀ s env S, SRel B (E s) env S → SRel B (E' s) env S) : OutN B E' f r := by
  cases f with
  | ok s => obtain ⟨e, S, q1, q2⟩ := h; exact ⟨e, S, q1, k s e S q2⟩
  | err c => exact h
  | bad => trivial
theorem xn_new {m : M (List D)} {f : R (List α)} (i : Nat) (h : XE B sl m (vP (lM t)) f) : XN B sl (sAsg (cel m) (pName i)) (fun l => sl.set i (.c (l.map t))) f := fun env S r => by
  have := h env S r
  unfold sAsg cel
  cases f with
  | bad => trivial
  | err c => rw [show m env S = _ from this]; exact ⟨env, S, rfl, r.frm⟩
  | ok l =>
    obtain ⟨d, q1, q2⟩ := this
    cases q2
    rw [q1]
    exact ⟨_, _, rfl, r.new i _⟩
@[irreducible] def appR {α : Type} (l : List α) (a : α) : R (List α) := if l.length < big then .ok (l ++ [a]) else .bad
theorem cell_of {S : Store} {n : Nat} {ds : List D} (h : S[n]? = some (.lst ds)) : cellOf S (.cell n) = some (n, ds) ∧ seqOf S (.cell n) = some ds ∧ isLst (.cell n) S = true := by
  refine ⟨by unfold cellOf; dsimp only; rw [h], by unfold seqOf; dsimp only; rw [h], ?_⟩
  unfold isLst seqOf
  dsimp only
  rw [h]
  rfl
theorem xn_app {m : M D} {f : R α} {f' : R (List α)} {l : List α} (i : Nat) (hi : sl[i]? = some (.c (l.map t))) (h : XE B sl m (vP t) f) (e : (f.bind fun a => appR l a) = f' := by rfl) : XN B sl (sExpr (eMt dAppend isLst (eVar i) (aCons m aNil))) (fun l' => sl.set i (.c (l'.map t))) f' := fun env S r => by
  rw [← e]
  obtain ⟨n, e1, q⟩ := r.c hi
  obtain ⟨c1, c2, c3⟩ := cell_of q
  unfold sExpr eMt eVar aCons aNil
  rw [e1]
  dsimp only [bind_ok]
  rw [if_pos c3]
  have h1 := h env S r
  cases f with
  | bad => trivial
  | err c => rw [show m env S = _ from h1]; exact ⟨env, S, rfl, r.frm⟩
  | ok a =>
    obtain ⟨d, q1, q2⟩ := h1
    cases q2
    rw [q1]
    dsimp only [bind_ok]
    unfold dAppend appR
    rw [c1]
    show OutN B _ (if l.length < big then _ else _) (Res.then (if (l.map t).length < big then _ else _) env _)
    rw [List.length_map]
    by_cases hl : l.length < big
    · rw [if_pos hl, if_pos hl]
      refine ⟨env, _, rfl, ?_⟩
      have := r.wr (l.map t ++ [t a]) hi e1 q
      rw [show l.map t ++ [t a] = (l ++ [a]).map t by simp] at this ⊢
      exact this
    · rw [if_neg hl]; trivial
theorem xn_seq {E1 : σ → List Sl} {E2 : δ → List Sl} {a b : MS} {fa : R σ} {fb : σ → R δ} {f' : R δ} (ha : XN B sl a E1 fa) (hb : ∀ s, XN B (E1 s) b E2 (fb s)) (e : (fa.bind fun s => fb s) = f' := by rfl) : XN B sl (sSeq a b) E2 f' := fun env S r => by
  rw [← e]
  have h1 := ha env S r
  unfold sSeq
  cases fa with
  | bad => trivial
  | err c => obtain ⟨e1, S1, q1, q2⟩ := h1; rw [q1]; exact ⟨e1, S1, rfl, q2⟩
  | ok s => obtain ⟨e1, S1, q1, q2⟩ := h1; rw [q1]; exact hb s e1 S1 q2
theorem xb_seq {E1 : σ → List Sl} {P : ρ → D → Store → Prop} {a b : MS} {fa : R σ} {fb : σ → R ρ} {f' : R ρ} (ha : XN B sl a E1 fa) (hb : ∀ s, XB B (E1 s) b P (fb s)) (e : (fa.bind fun s => fb s) = f' := by rfl) : XB B sl (sSeq a b) P f' := fun env S r => by
  rw [← e]
  have h1 := ha env S r
  unfold sSeq
  cases fa with
  | bad => trivial
  | err c => obtain ⟨e1, S1, q1, q2⟩ := h1; rw [q1]; exact ⟨e1, S1, rfl, q2⟩
  | ok s => obtain ⟨e1, S1, q1, q2⟩ := h1; rw [q1]; exact hb s e1 S1 q2
theorem xl_seq {E1 : σ → List Sl} {E : δ → List Sl} {P : ρ → D → Store → Prop} {a b : MS} {fa : R σ} {fb : σ → R (Lp δ ρ)} {f' : R (Lp δ ρ)} (ha : XN B sl a E1 fa) (hb : ∀ s, XL B (E1 s) b E P (fb s)) (e : (fa.bind fun s => fb s) = f' := by rfl) : XL B sl (sSeq a b) E P f' := fun env S r => by
  rw [← e]
  have h1 := ha env S r
  unfold sSeq
  cases fa with
  | bad => trivial
  | err c => obtain ⟨e1, S1, q1, q2⟩ := h1; rw [q1]; exact ⟨e1, S1, rfl, q2⟩
  | ok s => obtain ⟨e1, S1, q1, q2⟩ := h1; rw [q1]; exact hb s e1 S1 q2
theorem xl_ret {E : σ → List Sl} {m : M D} {f : R α} {f' : R (Lp σ α)} (h : XE B sl m (vP t) f) (e : (f.bind fun a => .ok (.out a)) = f' := by rfl) : XL B sl (sRet m) E (vP t) f' := fun env S r => by
  rw [← e]
  exact Out.thenL (env := env) (g := fun a => .ok (.out a)) r.frm (h env S r) (k := fun d S1 => .ret d S1) fun a d q => ⟨d, S, rfl, q, r.frm⟩
theorem xn_if {E : σ → List Sl} {c : M Bool} {a b : MS} {fc : R Bool} {fa fb f' : R σ} (hc : XE B sl c bP fc) (ha : XN B sl a E fa) (hb : XN B sl b E fb) (e : (fc.bind fun c => if c = true then fa else fb) = f' := by rfl) : XN B sl (sIf c a b) E f' := fun env S r => by
  rw [← e]
  refine Out.thenN (env := env) r.frm (hc env S r) fun c d q => ?_
  cases q
  cases c with
  | true => exact ha env S r
  | false => exact hb env S r
theorem xb_if {P : ρ → D → Store → Prop} {c : M Bool} {a b : MS} {fc : R Bool} {fa fb f' : R ρ} (hc : XE B sl c bP fc) (ha : XB B sl a P fa) (hb : XB B sl b P fb) (e : (fc.bind fun c => if c = true then fa else fb) = f' := by rfl) : XB B sl (sIf c a b) P f' := fun env S r => by
  rw [← e]
  refine Out.thenB (env := env) r.frm (hc env S r) fun c d q => ?_
  cases q
  cases c with
  | true => exact ha env S r
  | false => exact hb env S r
theorem xl_if {E : σ → List Sl} {P : ρ → D → Store → Prop} {c : M Bool} {a b : MS} {fc : R Bool} {fa fb f' : R (Lp σ ρ)} (hc : XE B sl c bP fc) (ha : XL B sl a E P fa) (hb : XL B sl b E P fb) (e : (fc.bind fun c => if c = true then fa else fb) = f' := by rfl) : XL B sl (sIf c a b) E P f' := fun env S r => by
  rw [← e]
  refine Out.thenL (env := env) r.frm (hc env S r) fun c d q => ?_
  cases q
  cases c with
  | true => exact ha env S r
  | false => exact hb env S r
theorem xn_cl {E : σ → List Sl} {m : MS} {f : R σ} (l : List Nat) (h : XN B sl m E f) : XN B sl (sCl l m) (fun s => clrS (E s) l) f := fun env S r => by
  have h1 := h env S r
  unfold sCl
  cases f with
  | bad => trivial
  | err c => obtain ⟨e1, S1, q1, q2⟩ := h1; rw [q1]; exact ⟨e1, S1, rfl, q2⟩
  | ok s => obtain ⟨e1, S1, q1, q2⟩ := h1; rw [q1]; exact ⟨_, S1, rfl, q2.clr l⟩
theorem seq_if (c : M Bool) (a b rest : MS) : sSeq (sIf c a b) rest = sIf c (sSeq a rest) (sSeq b rest) := by
  funext env S
  unfold sSeq sIf
  cases c env S with
  | ok x S1 => cases x <;> rfl
  | err c S1 => rfl
  | bad => rfl
theorem xb_push {P : ρ → D → Store → Prop} {c : M Bool} {a b rest : MS} {f' : R ρ} (h : XB B sl (sIf c (sSeq a rest) (sSeq b rest)) P f') : XB B sl (sSeq (sIf c a b) rest) P f' := by rw [seq_if]; exact h
theorem xl_push {E : σ → List Sl} {P : ρ → D → Store → Prop} {c : M Bool} {a b rest : MS} {f' : R (Lp σ ρ)} (h : XL B sl (sIf c (sSeq a rest) (sSeq b rest)) E P f') : XL B sl (sSeq (sIf c a b) rest) E P f' := by rw [seq_if]; exact h
def Ends (m : MS) : Prop := ∀ env S e' S', m env S ≠ .next e' S'
theorem ends_ret (m : M D) : Ends (sRet m) := fun env S e' S' h => by unfold sRet at h; cases e : m env S <;> rw [e] at h <;> cases h
theorem seq_ends {a : MS} (rest : MS) (h : Ends a) : sSeq a rest = a := by
  funext env S
  unfold sSeq
  cases e : a env S with
  | next e1 S1 => exact absurd e (h _ _ _ _)
  | _ => rfl
theorem xb_skip {P : ρ → D → Store → Prop} {a rest : MS} {f : R ρ} (h : Ends a) (ha : XB B sl a P f) : XB B sl (sSeq a rest) P f := by rw [seq_ends rest h]; exact ha
theorem xl_skip {E : σ → List Sl} {P : ρ → D → Store → Prop} {a rest : MS} {f : R (Lp σ ρ)} (h : Ends a) (ha : XL B sl a E P f) : XL B sl (sSeq a rest) E P f := by rw [seq_ends rest h]; exact ha
theorem xb_nil {P : ρ → D → Store → Prop} {rest : MS} {f : R ρ} (h : XB B sl rest P f) : XB B sl (sSeq sNil rest) P f := h
theorem xl_nil {E : σ → List Sl} {P : ρ → D → Store → Prop} {rest : MS} {f : R (Lp σ ρ)} (h : XL B sl rest E P f) : XL B sl (sSeq sNil rest) E P f := h
theorem xb_ret {m : M D} {f : R α} (h : XE B sl m (vP t) f) : XB B sl (sRet m) (vP t) f := fun env S r => by
  have := Out.thenB (env := env) (g := fun a => .ok a) (P' := vP t) r.frm (h env S r) (k := fun d S1 => .ret d S1) fun a d q => ⟨d, S, .inl rfl, q, r.frm⟩
  rw [bind_ret] at this
  exact this
end
end Rf

namespace Rf
open PySem PySem.Spec PyProof.Rows L2
section
variable {B : Bs} {sl : List Sl} {α β γ δ σ ρ τ : Type} {t : α → D}
def forR (step : σ → α → R σ) : List α → σ → R σ
  | [], s => .ok s
  | x :: l, s => (step s x).bind fun s' => forR step l s'
def forL (step : σ → α → R (Lp σ ρ)) : List α → σ → R (Lp σ ρ)
  | [], s => .ok (.go s)
  | x :: l, s => (step s x).bind fun r => match r with
    | .go s' => forL step l s'
    | .cont s' => forL step l s'
    | .brk s' => .ok (.go s')
    | .out y => .ok (.out y)
def Lp.fin (r : Lp σ ρ) (k : σ → R ρ) : R ρ := match r with
  | .go s => k s
  | .out x => .ok x
  | _ => .bad
def Lp.thn (r : Lp σ ρ) (k : σ → R (Lp τ ρ)) : R (Lp τ ρ) := match r with
  | .go s => k s
  | .out x => .ok (.out x)
  | _ => .bad
def Lp.val (r : Lp σ Empty) : R σ := match r with
  | .go s => .ok s
  | _ => .bad
@[simp] theorem fin_go (s : σ) (k : σ → R ρ) : (Lp.go s).fin k = k s := rfl
@[simp] theorem fin_out (x : ρ) (k : σ → R ρ) : (Lp.out x : Lp σ ρ).fin k = .ok x := rfl
@[simp] theorem thn_go (s : σ) (k : σ → R (Lp τ ρ)) : (Lp.go s).thn k = k s := rfl
@[simp] theorem thn_out (x : ρ) (k : σ → R (Lp τ ρ)) : (Lp.out x : Lp σ ρ).thn k = .ok (.out x) := rfl
@[simp] theorem val_go (s : σ) : (Lp.go s : Lp σ Empty).val = .ok s := rfl
theorem loop_N {E E2 : σ → List Sl} {Es : σ → α → List Sl} {step : σ → α → R σ} {p : Pat} {body : MS} {dead : List Nat} {chk : Store → Prop} (J : En → Prop) (hp : ∀ s, XPt B p t (E s) (Es s)) (hb : ∀ s x, XN B (Es s x) body E2 (step s x)) (hd : ∀ s, clrS (E2 s) dead = E s)
    (j1 : ∀ x env e1, J env → p (t x) env = some e1 → J e1) (j2 : ∀ env S e' S', J env → (body env S = .next e' S' ∨ body env S = .cont e' S' ∨ body env S = .brk e' S') → J (clr e' dead)) (hc : ∀ s env S, SRel B (E s) env S → J env → chk S) :
    ∀ (l : List α) (s : σ) (env : En) (S : Store), SRel B (E s) env S → J env → OutN B E (forR step l s) (loopD p body dead chk (l.map t) env S)
  | [], s, env, S, r, j => by rw [List.map_nil]; unfold loopD; rw [if_pos (hc s env S r j)]; exact ⟨env, S, rfl, r⟩
  | x :: l, s, env, S, r, j => by
    obtain ⟨e1, q1, r1⟩ := hp s x env S r
    rw [List.map_cons]
    unfold loopD forR
    rw [if_pos (hc s env S r j), q1]
    dsimp only
    have h1 := hb s x e1 S r1
    cases hs : step s x with
    | bad => trivial
    | err c => rw [hs] at h1; obtain ⟨e2, S2, q2, q3⟩ := h1; rw [q2]; exact ⟨e2, S2, rfl, q3⟩
    | ok s' =>
      rw [hs] at h1
      obtain ⟨e2, S2, q2, q3⟩ := h1
      rw [q2]
      exact loop_N J hp hb hd j1 j2 hc l s' _ S2 (by have := q3.clr dead; rw [hd] at this; exact this) (j2 e1 S e2 S2 (j1 x env e1 j q1) (.inl q2))
theorem loop_L {E E2 : σ → List Sl} {P : ρ → D → Store → Prop} {Es : σ → α → List Sl} {step : σ → α → R (Lp σ ρ)} {p : Pat} {body : MS} {dead : List Nat} {chk : Store → Prop} (J : En → Prop) (hp : ∀ s, XPt B p t (E s) (Es s)) (hb : ∀ s x, XL B (Es s x) body E2 P (step s x)) (hd : ∀ s, clrS (E2 s) dead = E s)
    (j1 : ∀ x env e1, J env → p (t x) env = some e1 → J e1) (j2 : ∀ env S e' S', J env → (body env S = .next e' S' ∨ body env S = .cont e' S' ∨ body env S = .brk e' S') → J (clr e' dead)) (hc : ∀ s env S, SRel B (E s) env S → J env → chk S) :
    ∀ (l : List α) (s : σ) (env : En) (S : Store), SRel B (E s) env S → J env → OutL B E P (forL step l s) (loopD p body dead chk (l.map t) env S)
  | [], s, env, S, r, j => by rw [List.map_nil]; unfold loopD; rw [if_pos (hc s env S r j)]; exact ⟨env, S, rfl, r⟩
  | x :: l, s, env, S, r, j => by
    obtain ⟨e1, q1, r1⟩ := hp s x env S r
    rw [List.map_cons]
    unfold loopD forL
    rw [if_pos (hc s env S r j), q1]
    dsimp only
    have h1 := hb s x e1 S r1
    cases hs : step s x with
    | bad => trivial
    | err c => rw [hs] at h1; obtain ⟨e2, S2, q2, q3⟩ := h1; rw [q2]; exact ⟨e2, S2, rfl, q3⟩
    | ok v =>
      rw [hs] at h1
      have cl : ∀ s' e2 S2, SRel B (E2 s') e2 S2 → SRel B (E s') (clr e2 dead) S2 := fun s' e2 S2 q => by have := q.clr dead; rw [hd] at this; exact this
      cases v with
      | go s' => obtain ⟨e2, S2, q2, q3⟩ := h1; rw [q2]; exact loop_L J hp hb hd j1 j2 hc l s' _ S2 (cl s' e2 S2 q3) (j2 e1 S e2 S2 (j1 x env e1 j q1) (.inl q2))
      | cont s' => obtain ⟨e2, S2, q2, q3⟩ := h1; rw [q2]; exact loop_L J hp hb hd j1 j2 hc l s' _ S2 (cl s' e2 S2 q3) (j2 e1 S e2 S2 (j1 x env e1 j q1) (.inr (.inl q2)))
      | brk s' => obtain ⟨e2, S2, q2, q3⟩ := h1; rw [q2]; exact ⟨_, S2, rfl, cl s' e2 S2 q3⟩
      | out y => obtain ⟨d, S2, q2, q3⟩ := h1; rw [q2]; exact ⟨d, S2, rfl, q3⟩
theorem xl_for {E E2 : σ → List Sl} {P : ρ → D → Store → Prop} {Es : σ → α → List Sl} {step : σ → α → R (Lp σ ρ)} {mi : M IT} {p : Pat} {body : MS} {dead : List Nat} {fi : R (List α)} {f' : R (Lp σ ρ)} (s0 : σ) (hi : XE B sl mi (i0 t) fi) (h0 : clrS sl dead = E s0) (hp : ∀ s, XPt B p t (E s) (Es s)) (hb : ∀ s x, XL B (Es s x) body E2 P (step s x)) (hd : ∀ s, clrS (E2 s) dead = E s)
    (e : (fi.bind fun l => forL step l s0) = f' := by rfl) : XL B sl (sFor mi p body dead) E P f' := fun env S r => by
  rw [← e]
  refine Out.thenL (env := env) r.frm (hi env S r) fun l it q => ?_
  cases q
  exact loop_L (fun _ => True) hp hb hd (fun _ _ _ _ _ => trivial) (fun _ _ _ _ _ _ => trivial) (fun _ _ _ _ _ p hp => (nomatch hp)) l s0 _ S (by have := r.clr dead; rw [h0] at this; exact this) trivial
def Kp (m : MS) (j : Nat) : Prop := ∀ env S e' S', (m env S = .next e' S' ∨ m env S = .cont e' S' ∨ m env S = .brk e' S') → e'[j]? = env[j]?
def KpP (p : Pat) (j : Nat) : Prop := ∀ d env e', p d env = some e' → e'[j]? = env[j]?
def KpPs (p : Pats) (j : Nat) : Prop := ∀ d env e', p d env = some e' → e'[j]? = env[j]?
theorem kpp_name {i j : Nat} (h : i ≠ j := by decide) : KpP (pName i) j := fun d env e' q => by cases q; exact List.getElem?_set_ne h
theorem kpps_nil {j : Nat} : KpPs pNil j := fun d env e' q => by
  unfold pNil at q
  split at q
  · cases q; rfl
  · cases q
theorem kpps_cons {p : Pat} {q : Pats} {j : Nat} (h1 : KpP p j) (h2 : KpPs q j) : KpPs (pCons p q) j := fun d env e' z => by
  unfold pCons at z
  split at z
  · rename_i d0 r
    cases e : p d0 env with
    | none => rw [e] at z; cases z
    | some e1 => rw [e] at z; exact (h2 r e1 e' z).trans (h1 d0 env e1 e)
  · cases z
theorem kpp_tup {n : Nat} {q : Pats} {j : Nat} (h : KpPs q j) : KpP (pTup n q) j := fun d env e' z => by
  unfold pTup at z
  split at z
  · split at z
    · exact h _ _ _ z
    · cases z
  · cases z
theorem clr_ne {j : Nat} {env : En} : ∀ {l : List Nat}, (l.contains j) = false → (clr env l)[j]? = env[j]?
  | [], _ => rfl
  | i :: l, h => by
    have h1 : i ≠ j := by rintro rfl; simp at h
    have h2 : l.contains j = false := by simp at h; simpa using h.2
    unfold clr
    rw [List.getElem?_set_ne h1]
    exact clr_ne h2
theorem kp_nil {j : Nat} : Kp sNil j := fun env S e' S' h => by rcases h with h | h | h <;> cases h; rfl
theorem kp_bad {j : Nat} : Kp sBad j := fun env S e' S' h => by rcases h with h | h | h <;> cases h
theorem kp_ret {m : M D} {j : Nat} : Kp (sRet m) j := fun env S e' S' h => by unfold sRet at h; cases e : m env S <;> rw [e] at h <;> rcases h with h | h | h <;> cases h
theorem kp_retN {j : Nat} : Kp (fun _ S => .ret .non S) j := fun env S e' S' h => by rcases h with h | h | h <;> cases h
theorem kp_cont {j : Nat} : Kp (fun env S => .cont env S) j := fun env S e' S' h => by rcases h with h | h | h <;> cases h; rfl
theorem kp_brk {j : Nat} : Kp (fun env S => .brk env S) j := fun env S e' S' h => by rcases h with h | h | h <;> cases h; rfl
theorem kp_expr {m : M D} {j : Nat} : Kp (sExpr m) j := fun env S e' S' h => by unfold sExpr at h; cases e : m env S <;> rw [e] at h <;> rcases h with h | h | h <;> cases h; rfl
theorem kp_asg {m : M D} {p : Pat} {j : Nat} (hp : KpP p j) : Kp (sAsg m p) j := fun env S e' S' h => by
  unfold sAsg at h
  cases e : m env S with
  | ok d S1 =>
    rw [e] at h
    dsimp only [then_ok] at h
    cases e1 : p d env with
    | none => rw [e1] at h; rcases h with h | h | h <;> cases h
    | some e2 => rw [e1] at h; rcases h with h | h | h <;> cases h; exact hp d env _ e1
  | err c S1 => rw [e] at h; rcases h with h | h | h <;> cases h
  | bad => rw [e] at h; rcases h with h | h | h <;> cases h
theorem kp_par {ma : M (List D)} {i k j : Nat} (h1 : i ≠ j := by decide) (h2 : k ≠ j := by decide) : Kp (sPar i k ma) j := fun env S e' S' h => by
  unfold sPar at h
  cases e : ma env S with
  | ok d S1 =>
    rw [e] at h
    dsimp only [then_ok] at h
    split at h
    · rcases h with h | h | h <;> cases h; rw [List.getElem?_set_ne h2, List.getElem?_set_ne h1]
    · rcases h with h | h | h <;> cases h
  | err c S1 => rw [e] at h; rcases h with h | h | h <;> cases h
  | bad => rw [e] at h; rcases h with h | h | h <;> cases h
theorem kp_set {mv mo mi : M D} {f : D → D → D → Store → Option Store} {j : Nat} : Kp (sSet mv mo mi f) j := fun env S e' S' h => by
  unfold sSet at h
  cases e : mv env S with
  | ok d S1 =>
    rw [e] at h
    dsimp only [then_ok] at h
    cases e1 : mo env S1 with
    | ok d1 S2 =>
      rw [e1] at h
      dsimp only [then_ok] at h
      cases e2 : mi env S2 with
      | ok d2 S3 =>
        rw [e2] at h
        dsimp only [then_ok] at h
        split at h
        · rcases h with h | h | h <;> cases h; rfl
        · rcases h with h | h | h <;> cases h
      | err c S1 => rw [e2] at h; rcases h with h | h | h <;> cases h
      | bad => rw [e2] at h; rcases h with h | h | h <;> cases h
    | err c S1 => rw [e1] at h; rcases h with h | h | h <;> cases h
    | bad => rw [e1] at h; rcases h with h | h | h <;> cases h
  | err c S1 => rw [e] at h; rcases h with h | h | h <;> cases h
  | bad => rw [e] at h; rcases h with h | h | h <;> cases h
theorem kp_aug {m : M D} {f : D → D → Store → Res D} {i j : Nat} (hij : i ≠ j := by decide) : Kp (sAug i m f) j := fun env S e' S' h => by
  unfold sAug at h
  split at h
  · cases e : m env S with
    | ok d S1 =>
      rw [e] at h
      dsimp only [then_ok] at h
      rename_i x _
      cases e1 : f x d S1 with
      | ok d1 S2 => rw [e1] at h; rcases h with h | h | h <;> cases h; exact List.getElem?_set_ne hij
      | err c S1 => rw [e1] at h; rcases h with h | h | h <;> cases h
      | bad => rw [e1] at h; rcases h with h | h | h <;> cases h
    | err c S1 => rw [e] at h; rcases h with h | h | h <;> cases h
    | bad => rw [e] at h; rcases h with h | h | h <;> cases h
  · rcases h with h | h | h <;> cases h
theorem kp_seq {a b : MS} {j : Nat} (ha : Kp a j) (hb : Kp b j) : Kp (sSeq a b) j := fun env S e' S' h => by
  unfold sSeq at h
  cases e : a env S with
  | next e1 S1 => rw [e] at h; exact (hb e1 S1 e' S' h).trans (ha env S e1 S1 (.inl e))
  | brk e1 S1 => rw [e] at h; exact ha env S e' S' (by rw [e]; exact h)
  | cont e1 S1 => rw [e] at h; exact ha env S e' S' (by rw [e]; exact h)
  | _ => rw [e] at h; rcases h with h | h | h <;> cases h
theorem kp_if {c : M Bool} {a b : MS} {j : Nat} (ha : Kp a j) (hb : Kp b j) : Kp (sIf c a b) j := fun env S e' S' h => by
  unfold sIf at h
  cases e : c env S with
  | ok x S1 =>
    rw [e] at h
    cases x with
    | true => exact ha env S1 e' S' h
    | false => exact hb env S1 e' S' h
  | _ => rw [e] at h; rcases h with h | h | h <;> cases h
theorem kp_cl {l : List Nat} {a : MS} {j : Nat} (ha : Kp a j) (hl : l.contains j = false := by decide) : Kp (sCl l a) j := fun env S e' S' h => by
  unfold sCl at h
  cases e : a env S with
  | next e1 S1 => rw [e] at h; rcases h with h | h | h <;> cases h; rw [clr_ne hl]; exact ha env S e1 _ (.inl e)
  | brk e1 S1 => rw [e] at h; exact ha env S e' S' (by rw [e]; exact h)
  | cont e1 S1 => rw [e] at h; exact ha env S e' S' (by rw [e]; exact h)
  | _ => rw [e] at h; rcases h with h | h | h <;> cases h
theorem kp_loop {p : Pat} {body : MS} {dead : List Nat} {chk : Store → Prop} {j : Nat} (hp : KpP p j) (hb : Kp body j) (hl : dead.contains j = false) : ∀ (ds : List D), Kp (loopD p body dead chk ds) j
  | [], env, S, e', S', h => by
    unfold loopD at h
    split at h
    · rcases h with h | h | h <;> cases h; rfl
    · rcases h with h | h | h <;> cases h
  | d :: ds, env, S, e', S', h => by
    unfold loopD at h
    split at h
    · cases e : p d env with
      | none => rw [e] at h; rcases h with h | h | h <;> cases h
      | some e1 =>
        rw [e] at h
        dsimp only at h
        have h0 := hp d env e1 e
        cases eb : body e1 S with
        | next e2 S2 => rw [eb] at h; exact ((kp_loop hp hb hl ds _ _ _ _ h).trans (clr_ne hl)).trans ((hb _ _ _ _ (.inl eb)).trans h0)
        | cont e2 S2 => rw [eb] at h; exact ((kp_loop hp hb hl ds _ _ _ _ h).trans (clr_ne hl)).trans ((hb _ _ _ _ (.inr (.inl eb))).trans h0)
        | brk e2 S2 => rw [eb] at h; rcases h with h | h | h <;> cases h; rw [clr_ne hl]; exact (hb _ _ _ _ (.inr (.inr eb))).trans h0
        | _ => rw [eb] at h; rcases h with h | h | h <;> cases h
    · rcases h with h | h | h <;> cases h
theorem kp_for {mi : M IT} {p : Pat} {body : MS} {dead : List Nat} {j : Nat} (hp : KpP p j) (hb : Kp body j) (hl : dead.contains j = false := by decide) : Kp (sFor mi p body dead) j := fun env S e' S' h => by
  unfold sFor at h
  cases e : mi env S with
  | ok it S1 => rw [e] at h; exact (kp_loop hp hb hl it.ds _ _ _ _ h).trans (clr_ne hl)
  | _ => rw [e] at h; rcases h with h | h | h <;> cases h
theorem kp_wh {c : M Bool} {body : MS} {dead : List Nat} {j : Nat} (hb : Kp body j) (hl : dead.contains j = false) : ∀ (n : Nat), Kp (whileD c body dead n) j
  | 0, env, S, e', S', h => by rcases h with h | h | h <;> cases h
  | n + 1, env, S, e', S', h => by
    unfold whileD at h
    cases e : c env S with
    | ok x S1 =>
      rw [e] at h
      cases x with
      | true =>
        dsimp only at h
        cases eb : body env S1 with
        | next e2 S2 => rw [eb] at h; exact ((kp_wh hb hl n _ _ _ _ h).trans (clr_ne hl)).trans (hb _ _ _ _ (.inl eb))
        | cont e2 S2 => rw [eb] at h; exact ((kp_wh hb hl n _ _ _ _ h).trans (clr_ne hl)).trans (hb _ _ _ _ (.inr (.inl eb)))
        | brk e2 S2 => rw [eb] at h; rcases h with h | h | h <;> cases h; rw [clr_ne hl]; exact hb _ _ _ _ (.inr (.inr eb))
        | _ => rw [eb] at h; rcases h with h | h | h <;> cases h
      | false => rcases h with h | h | h <;> cases h; rfl
    | _ => rw [e] at h; rcases h with h | h | h <;> cases h
theorem kp_while {fuel : Nat} {c : M Bool} {body : MS} {dead : List Nat} {j : Nat} (hb : Kp body j) (hl : dead.contains j = false := by decide) : Kp (sWhile fuel c body dead) j := fun env S e' S' h => (kp_wh hb hl fuel _ _ _ _ h).trans (clr_ne hl)
def XJ (B : Bs) (sl : List Sl) (mi : M IT) (j : Nat) (ds : List D) (t : α → D) (l : List α) : Prop := ∀ env S, SRel B sl env S → ∃ d it, env[j]? = some (some d) ∧ mi env S = .ok it S ∧ it.ds = l.map t ∧ ∀ p ∈ it.cells, d = .cell p.1 ∧ p.2 = ds
theorem slot_seq {env : En} {S : Store} {j : Nat} {ds : List D} {d : D} (r : SRel B sl env S) (h : sl[j]? = some (.c ds) ∨ sl[j]? = some (.r ds)) (e : env[j]? = some (some d)) : seqOf S d = some ds := by
  rcases h with h | h
  · obtain ⟨n, q1, q2⟩ := r.c h
    rw [q1] at e
    cases e
    exact (cell_of q2).2.1
  · obtain ⟨d', q1, q2, _⟩ := r.r h
    rw [q1] at e
    cases e
    exact q2
theorem slot_at {env : En} {S : Store} {j : Nat} {ds : List D} (r : SRel B sl env S) (h : sl[j]? = some (.c ds) ∨ sl[j]? = some (.r ds)) : ∃ d, env[j]? = some (some d) := by
  rcases h with h | h
  · obtain ⟨n, q1, q2⟩ := r.c h; exact ⟨_, q1⟩
  · obtain ⟨d', q1, q2, _⟩ := r.r h; exact ⟨_, q1⟩
theorem xj_seq {l : List α} (j : Nat) (h : sl[j]? = some (.c (l.map t)) ∨ sl[j]? = some (.r (l.map t))) : XJ B sl (iSeq (eVar j)) j (l.map t) t l := fun env S r => by
  obtain ⟨d, e⟩ := slot_at r h
  obtain ⟨it, q1, q2, q3, q4⟩ := fIt_of (slot_seq r h e)
  refine ⟨d, it, e, ?_, q2, q4⟩
  unfold iSeq eVar
  rw [e]
  dsimp only [bind_ok]
  rw [q1]
theorem chk_of {env : En} {S : Store} {j : Nat} {ds : List D} {d : D} {it : IT} (r : SRel B sl env S) (h : sl[j]? = some (.c ds) ∨ sl[j]? = some (.r ds)) (e : env[j]? = some (some d)) (q : ∀ p ∈ it.cells, d = .cell p.1 ∧ p.2 = ds) : it.chk S := fun p hp => by
  obtain ⟨q1, q2⟩ := q p hp
  have := slot_seq r h e
  rw [q1] at this
  unfold seqOf at this
  dsimp only at this
  cases eo : S[p.1]? with
  | none => rw [eo] at this; cases this
  | some o =>
    rw [eo] at this
    cases o with
    | lst xs => cases this; rw [q2]
    | dK _ => cases this
    | dI _ => cases this
    | ins _ _ => cases this
    | dS _ => cases this
    | gone => cases this
theorem xn_forv {E E2 : σ → List Sl} {Es : σ → α → List Sl} {step : σ → α → R σ} {mi : M IT} {p : Pat} {body : MS} {dead : List Nat} {j : Nat} {ds : List D} {l : List α} {f' : R σ} (s0 : σ) (hi : XJ B sl mi j ds t l) (h0 : clrS sl dead = E s0) (hj : ∀ s, (E s)[j]? = some (.c ds) ∨ (E s)[j]? = some (.r ds)) (kp : KpP p j) (kb : Kp body j) (hl : dead.contains j = false)
    (hp : ∀ s, XPt B p t (E s) (Es s)) (hb : ∀ s x, XN B (Es s x) body E2 (step s x)) (hd : ∀ s, clrS (E2 s) dead = E s) (e : forR step l s0 = f' := by rfl) : XN B sl (sFor mi p body dead) E f' := fun env S r => by
  rw [← e]
  obtain ⟨d, it, e1, q1, q2, q3⟩ := hi env S r
  unfold sFor
  rw [q1]
  dsimp only [then_ok]
  rw [q2]
  exact loop_N (fun env => env[j]? = some (some d)) hp hb hd (fun x env e1 h z => (kp _ _ _ z).trans h) (fun env S e' S' h z => (clr_ne hl).trans ((kb env S e' S' z).trans h)) (fun s env S r h => chk_of r (hj s) h q3) l s0 _ S (by have := r.clr dead; rw [h0] at this; exact this) ((clr_ne hl).trans e1)
theorem xb_seqL {E : σ → List Sl} {P : ρ → D → Store → Prop} {a b : MS} {fa : R (Lp σ ρ)} {fb : σ → R ρ} {f' : R ρ} (ha : XL B sl a E P fa) (hb : ∀ s, XB B (E s) b P (fb s)) (e : (fa.bind fun r => r.fin fb) = f' := by rfl) : XB B sl (sSeq a b) P f' := fun env S r => by
  rw [← e]
  have h1 := ha env S r
  unfold sSeq
  cases fa with
  | bad => trivial
  | err c => obtain ⟨e1, S1, q1, q2⟩ := h1; rw [q1]; exact ⟨e1, S1, rfl, q2⟩
  | ok v =>
    cases v with
    | go s => obtain ⟨e1, S1, q1, q2⟩ := h1; rw [q1]; exact hb s e1 S1 q2
    | cont s => trivial
    | brk s => trivial
    | out x => obtain ⟨d, S1, q1, q2⟩ := h1; rw [q1]; exact ⟨d, S1, .inl rfl, q2⟩
def PRel (S : Store) (Q : List Nat) (d : D) : Sl → Prop
  | .u => True
  | .v e => d = e
  | .r l => seqOf S d = some l ∧ isTup d = false ∧ ∀ n, d = .cell n → n ∉ Q
  | .f (some q) ob => d = .cell q ∧ q ∈ Q ∧ S[q]? = some ob
  | .q k f => ∃ n, d = .cell n ∧ (f n).length = k ∧ (∀ (i : Nat) (ob : Ob), (f n)[i]? = some ob → S[n + i]? = some ob) ∧ ∀ x ∈ List.range' n k, x ∉ Q
  | _ => False
inductive PRels (S : Store) (Q : List Nat) : List D → List Sl → Prop
  | nil : PRels S Q [] []
  | cons {d : D} {s : Sl} {ds : List D} {ss : List Sl} : PRel S Q d s → PRels S Q ds ss → PRels S Q (d :: ds) (s :: ss)
def nfe : List Sl → Nat
  | [] => 0
  | .f _ _ :: l => nfe l + 1
  | _ :: l => nfe l
theorem PRels.len {S : Store} {Q : List Nat} : ∀ {ds : List D} {ss : List Sl}, PRels S Q ds ss → ds.length = ss.length
  | _, _, .nil => rfl
  | _, _, .cons _ h => congrArg (· + 1) h.len
theorem PRels.get {S : Store} {Q : List Nat} : ∀ {ds : List D} {ss : List Sl}, PRels S Q ds ss → ∀ (i : Nat) (d : D) (s : Sl), ds[i]? = some d → ss[i]? = some s → PRel S Q d s
  | _, _, .nil, i, d, s, h, _ => by simp at h
  | _, _, .cons h0 h, 0, d, s, h1, h2 => by cases h1; cases h2; exact h0
  | _, _, .cons h0 h, i + 1, d, s, h1, h2 => h.get i d s (by simpa using h1) (by simpa using h2)
theorem fe_one : ∀ {ss : List Sl} {i j : Nat} {q q' : Option Nat} {o o' : Ob}, nfe ss ≤ 1 → ss[i]? = some (.f q o) → ss[j]? = some (.f q' o') → i = j := by
  intro ss
  induction ss with
  | nil => intro i j q q' o o' _ h; simp at h
  | cons s ss ih =>
    intro i j q q' o o' hn h1 h2
    have none : nfe ss = 0 → ∀ (k : Nat) (q : Option Nat) (o : Ob), ss[k]? = some (.f q o) → False := by
      clear ih hn h1 h2
      induction ss with
      | nil => intro _ k q o h; simp at h
      | cons s2 ss ih2 =>
        intro h0 k q o h
        cases s2 with
        | f _ _ => simp [nfe] at h0
        | _ =>
          cases k with
          | zero => simp at h
          | succ k => exact ih2 h0 k q o (by simpa using h)
    cases i with
    | zero =>
      cases j with
      | zero => rfl
      | succ j =>
        have : s = .f q o := by simpa using h1
        subst this
        exact (none (by simp [nfe] at hn; omega) j q' o' (by simpa using h2)).elim
    | succ i =>
      cases j with
      | zero =>
        have : s = .f q' o' := by simpa using h2
        subst this
        exact (none (by simp [nfe] at hn; omega) i q o (by simpa using h1)).elim
      | succ j =>
        have hn' : nfe ss ≤ 1 := by
          cases s with
          | f _ _ => simp [nfe] at hn; omega
          | _ => exact hn
        exact congrArg (· + 1) (ih hn' (by simpa using h1) (by simpa using h2))
theorem init_rel {S : Store} {Q : List Nat} {ds : List D} {ss : List Sl} (k : Nat) (h : PRels S Q ds ss) (hf : nfe ss ≤ 1) : SRel ⟨S, Q⟩ (ss ++ List.replicate k .u) (ds.map some ++ List.replicate k none) S := by
  have hl := h.len
  have atp : ∀ (i : Nat) (s : Sl) (o : Option D), (ss ++ List.replicate k .u)[i]? = some s → (ds.map some ++ List.replicate k none)[i]? = some o → (s = .u ∧ o = none) ∨ (∃ d, o = some d ∧ ds[i]? = some d ∧ ss[i]? = some s ∧ PRel S Q d s) := fun i s o h1 h2 => by
    by_cases hi : i < ds.length
    · rw [List.getElem?_append_left (by rw [← hl]; exact hi)] at h1
      rw [List.getElem?_append_left (by rw [List.length_map]; exact hi), List.getElem?_map] at h2
      obtain ⟨d, ed⟩ : ∃ d, ds[i]? = some d := ⟨ds[i], List.getElem?_eq_getElem hi⟩
      rw [ed] at h2
      cases h2
      exact .inr ⟨d, rfl, ed, h1, h.get i d s ed h1⟩
    · rw [List.getElem?_append_right (by rw [← hl]; omega), List.getElem?_replicate] at h1
      rw [List.getElem?_append_right (by rw [List.length_map]; omega), List.getElem?_replicate] at h2
      split at h1
      · cases h1
        split at h2
        · cases h2; exact .inl ⟨rfl, rfl⟩
        · cases h2
      · cases h1
  have mcp : ∀ (d : D) (s : Sl) (x : Nat), PRel S Q d s → x ∈ mc (some d) s → x ∈ Q ∧ ∃ q o, s = .f q o := fun d s x hp hx => by
    cases s with
    | f q ob =>
      cases q with
      | none => exact hp.elim
      | some q => obtain ⟨rfl, h2, h3⟩ := hp; rw [List.mem_singleton.mp hx]; exact ⟨h2, _, _, rfl⟩
    | u => rw [mc_u] at hx; cases hx
    | v _ => rw [mc_v] at hx; cases hx
    | r _ => rw [mc_r] at hx; cases hx
    | c _ => exact hp.elim
    | n _ => exact hp.elim
    | o _ _ => exact hp.elim
    | p _ _ => exact hp.elim
    | q _ _ => rw [mc_q] at hx; cases hx
  refine ⟨by simp [hl], fun i s o h1 h2 => ?_, fun i j s s' o o' hij h1 h2 h3 h4 x hx hx2 => ?_, fun i s o h1 h2 x hx => ?_, ⟨Nat.le_refl _, fun _ _ _ => rfl⟩⟩
  · rcases atp i s o h1 h2 with ⟨rfl, rfl⟩ | ⟨d, rfl, _, _, hp⟩
    · trivial
    · cases s with
      | u => trivial
      | v _ => exact congrArg some hp
      | r _ => exact ⟨d, rfl, hp.1, hp.2.1⟩
      | f q ob =>
        cases q with
        | none => exact hp.elim
        | some q => obtain ⟨rfl, h2, h3⟩ := hp; exact ⟨q, rfl, h3, fun k hk => by cases hk; rfl⟩
      | c _ => exact hp.elim
      | n _ => exact hp.elim
      | o _ _ => exact hp.elim
      | p _ _ => exact hp.elim
      | q _ _ => obtain ⟨n, rfl, h1, h2, _⟩ := hp; exact ⟨n, rfl, h1, h2⟩
  · rcases atp i s o h1 h2 with ⟨rfl, rfl⟩ | ⟨d, rfl, g1, g2, hp⟩
    · rw [mc_u] at hx; cases hx
    · obtain ⟨q1, qq, oo, rfl⟩ := mcp d s x hp hx
      rcases atp j s' o' h3 h4 with ⟨rfl, rfl⟩ | ⟨d', rfl, g3, g4, hp'⟩
      · rw [rc_u] at hx2; cases hx2
      · cases s' with
        | f q' ob' => exact hij (fe_one hf g2 g4)
        | u => rw [rc_u] at hx2; cases hx2
        | v _ => rw [rc_v] at hx2; cases hx2
        | c _ => exact hp'.elim
        | n _ => exact hp'.elim
        | o _ _ => exact hp'.elim
        | p _ _ => exact hp'.elim
        | q _ _ => obtain ⟨n, rfl, _, _, h5⟩ := hp'; exact h5 x hx2 q1
        | r _ =>
          cases d' with
          | cell n => rw [List.mem_singleton.mp (show x ∈ [n] from hx2)] at q1; exact hp'.2.2 n rfl q1
          | _ => cases hx2
  · rcases atp i s o h1 h2 with ⟨rfl, rfl⟩ | ⟨d, rfl, _, _, hp⟩
    · rw [mc_u] at hx; cases hx
    · exact .inr (mcp d s x hp hx)
theorem Fr.stOk {S S' : Store} (h : Fr ⟨S, []⟩ S') : stOk S S' := ⟨h.len, fun i hi => .inl (h.same i hi (fun z => (nomatch z)))⟩
theorem Fr.take {S S' : Store} (h : Fr ⟨S, []⟩ S') : S'.take S.length = S := by
  apply List.ext_getElem?
  intro i
  by_cases hi : i < S.length
  · rw [List.getElem?_take_of_lt hi]; exact h.same i hi (fun z => (nomatch z))
  · rw [List.getElem?_eq_none (by rw [List.length_take]; omega), List.getElem?_eq_none (by omega)]
theorem fn_v {u : ρ → D} [TPu u] {N : Nat} {body : MS} {ds : List D} {ss : List Sl} {S : Store} {f : R ρ} (hp : PRels S [] ds ss) (hf : nfe ss ≤ 1) (h : XB ⟨S, []⟩ (ss ++ List.replicate (N - ds.length) .u) body (vP u) f) : Out S (vP u) f (runFn .val N body ds S) := by
  have h1 := h _ S (init_rel (N - ds.length) hp hf)
  unfold runFn
  cases f with
  | bad => trivial
  | err c =>
    obtain ⟨e1, S1, q1, q2⟩ := h1
    rw [q1]
    dsimp only
    rw [if_pos q2.stOk, q2.take]
    rfl
  | ok x =>
    obtain ⟨d, S1, q1, q2, q3⟩ := h1
    cases q2
    have key : fin .val S (u x) S1 = .ok (u x) S := by rw [fin_val q3.stOk (TPu.pu (t := u) x), q3.take]
    rcases q1 with q1 | ⟨q0, e, q1⟩
    · rw [q1]; exact ⟨u x, key, rfl⟩
    · rw [q1]; rw [q0] at key; exact ⟨.non, key, q0.symm⟩
end
end Rf

namespace Rf
open PySem PySem.Spec PyProof.Rows L2
def R.ne {α : Type} (f : R α) : R α := match f with
  | .err _ => .bad
  | x => x
@[simp] theorem ne_ok {α : Type} (a : α) : (R.ok a).ne = .ok a := rfl
@[simp] theorem ne_bad {α : Type} : (R.bad : R α).ne = .bad := rfl
section
variable {B : Bs} {sl : List Sl} {α β γ δ σ τ ρ : Type} {t : α → D}
def OutI (B : Bs) (E : σ → List Sl) (P : α → β → Store → Prop) (env : En) (f : R (α × σ)) (r : Res β) : Prop := match f with
  | .ok (a, s) => ∃ d S', r = .ok d S' ∧ P a d S' ∧ SRel B (E s) env S'
  | .err c => ∃ S', r = .err c S' ∧ Fr B S'
  | .bad => True
def XI (B : Bs) (sl : List Sl) (E : σ → List Sl) (m : M β) (P : α → β → Store → Prop) (f : R (α × σ)) : Prop := ∀ env S, SRel B sl env S → OutI B E P env f (m env S)
theorem OutI.bind {E : σ → List Sl} {E' : τ → List Sl} {P : α → β → Store → Prop} {P' : γ → δ → Store → Prop} {env : En} {f : R (α × σ)} {g : α × σ → R (γ × τ)} {r : Res β} {k : β → Store → Res δ} (h : OutI B E P env f r) (hk : ∀ a s d S', P a d S' → SRel B (E s) env S' → OutI B E' P' env (g (a, s)) (k d S')) : OutI B E' P' env (f.bind g) (r.bind k) := by
  cases f with
  | ok p => obtain ⟨a, s⟩ := p; obtain ⟨d, S', rfl, q1, q2⟩ := h; exact hk a s d S' q1 q2
  | err c => obtain ⟨S', rfl, q⟩ := h; exact ⟨S', rfl, q⟩
  | bad => trivial
theorem Out.toI {E : σ → List Sl} {P : α → β → Store → Prop} {env : En} {S : Store} {f : R α} {r : Res β} (s : σ) (h : Out S P f r) (hr : SRel B (E s) env S) : OutI B E P env (f.bind fun a => .ok (a, s)) r := by
  cases f with
  | ok a => obtain ⟨d, q1, q2⟩ := h; exact ⟨d, S, q1, q2, hr⟩
  | err c => exact ⟨S, h, hr.frm⟩
  | bad => trivial
theorem xf_pure {E : σ → List Sl} {P : α → β → Store → Prop} {m : M β} {f : R α} {f' : R (α × σ)} (s : σ) (h : XE B sl m P f) (hE : sl = E s := by rfl) (e : (f.bind fun a => .ok (a, s)) = f' := by rfl) : XI B sl E m P f' := fun env S r => by
  rw [← e]
  exact (h env S r).toI s (hE ▸ r)
theorem xf_puret {E : σ → List Sl} {P : α → β → Store → Prop} {m : M β} {a : α} (s : σ) (h : XE B sl m P (.ok a)) (hE : sl = E s := by rfl) : XI B sl E m P (.ok (a, s)) := xf_pure s h hE
theorem Op2.ofL {P' : β → D → Store → Prop} {P'' : γ → D → Store → Prop} {f : D → D → Store → Res D} {g : List α → β → R γ} (h : Op2 f (lP false t) P' P'' g) : Op2 f (vP (yL t)) P' P'' g := fun a b d e S h1 h2 => h a b d e S (by cases h1; exact ⟨rfl, rfl⟩) h2
theorem xf_e2 {u : α → D} {E1 : σ → List Sl} {E2 : τ → List Sl} {f : D → D → Store → Res D} {P' : β → D → Store → Prop} {P'' : γ → D → Store → Prop} {g : α → β → R γ} {ma mb : M D} {fa : R (α × σ)} {fb : σ → R (β × τ)} {f' : R (γ × τ)} (op : Op2 f (vP u) P' P'' g) (ha : XI B sl E1 ma (vP u) fa) (hb : ∀ s, XI B (E1 s) E2 mb P' (fb s))
    (e : (fa.bind fun p => (fb p.2).bind fun q => (g p.1 q.1).bind fun c => .ok (c, q.2)) = f' := by rfl) : XI B sl E2 (e2 f ma mb) P'' f' := fun env S r => by
  rw [← e]
  exact OutI.bind (ha env S r) fun a s d S1 pa r1 => OutI.bind (hb s env S1 r1) fun b s2 d2 S2 pb r2 => (op a b d d2 S2 pa pb).toI s2 r2
theorem xe_kr {f : D → D → Store → Res D} {k : D} {P : α → D → Store → Prop} {P'' : γ → D → Store → Prop} {g : α → R γ} {ma : M D} {fa : R α} {f' : R γ} (op : Op1 (fun d S => f d k S) P P'' g) (ha : XE B sl ma P fa) (e : (fa.bind fun a => g a) = f' := by rfl) : XE B sl (e2 f ma (eC k)) P'' f' := fun env S r => by
  rw [← e]
  exact Out.bind (ha env S r) fun a d pa => op a d S pa
theorem xe_krt {f : D → D → Store → Res D} {k : D} {P : α → D → Store → Prop} {P'' : γ → D → Store → Prop} {g : α → R γ} {ma : M D} {a : α} {f' : R γ} (op : Op1 (fun d S => f d k S) P P'' g) (ha : XE B sl ma P (.ok a)) (e : g a = f' := by rfl) : XE B sl (e2 f ma (eC k)) P'' f' := xe_kr op ha e
theorem xf_r1 {E : σ → List Sl} {m : M D} {f : R (Int × σ)} {f' : R (List Int × σ)} (h : XI B sl E m (vP yI) f) (e : (f.bind fun p => (rng1R p.1).bind fun l => .ok (l, p.2)) = f' := by rfl) : XI B sl E (iR1 (aCons m aNil)) (i0 yI) f' := fun env S r => by
  rw [← e]
  unfold iR1 aCons aNil
  have assoc : ∀ {X Y Z : Type} (r : Res X) (p : X → Store → Res Y) (q : Y → Store → Res Z), (r.bind p).bind q = r.bind fun x S => (p x S).bind q := fun r p q => by cases r <;> rfl
  simp only [assoc, bind_ok]
  refine OutI.bind (h env S r) fun n s d S1 pa r1 => ?_
  cases pa
  have key := xi_r1 (f' := rng1R n) (xe_c (B := B) (sl := E s) (t := yI) n rfl) rfl env S1 r1
  exact key.toI s r1

end
section
variable {B : Bs} {sl : List Sl} {α β γ δ ε ζ η θ ι ρ κ ς : Type}
theorem res_assoc {X Y Z : Type} (r : Res X) (p : X → Store → Res Y) (q : Y → Store → Res Z) : (r.bind p).bind q = r.bind fun x S => (p x S).bind q := by cases r <;> rfl
theorem xg2 {σ0 σ1 : Type} {t : α → D} {u : β → D} {E0 : σ0 → List Sl} {E1 : σ1 → List Sl} {F : α → β → R ρ} {P' : ρ → κ → Store → Prop} {k : List D → Store → Res κ} {m0 m1 : M D} {f0 : R (α × σ0)} {f1 : σ0 → R (β × σ1)} (hk : ∀ a0 a1 d0 d1 S, vP t a0 d0 S → vP u a1 d1 S → Out S P' (F a0 a1) (k [d0, d1] S)) (h0 : XI B sl E0 m0 (vP t) f0) (h1 : ∀ s, XI B (E0 s) E1 m1 (vP u) (f1 s)) {env : En} {S : Store} (r : SRel B sl env S) : OutI B E1 P' env (f0.bind fun p0 => (f1 p0.2).bind fun p1 => (F p0.1 p1.1).bind fun c => .ok (c, p1.2)) (((aCons m0 (aCons m1 aNil)) env S).bind k) := by
  simp only [aCons, aNil, res_assoc, bind_ok]
  exact OutI.bind (h0 env S r) fun a0 s0 d0 S0 p0 r0 => OutI.bind (h1 s0 env S0 r0) fun a1 s1 d1 S1 p1 r1 => (hk a0 a1 d0 d1 S1 p0 p1).toI s1 r1
theorem xf_P2 {σ0 σ1 : Type} {t : α → D} {u : β → D} {E0 : σ0 → List Sl} {E1 : σ1 → List Sl} {m0 m1 : M D} {f0 : R (α × σ0)} {f1 : σ0 → R (β × σ1)} {f' : R ((α × β) × σ1)} (h0 : XI B sl E0 m0 (vP t) f0) (h1 : ∀ s, XI B (E0 s) E1 m1 (vP u) (f1 s)) (e : (f0.bind fun p0 => (f1 p0.2).bind fun p1 => .ok ((p0.1, p1.1), p1.2)) = f' := by rfl) : XI B sl E1 (eTup (aCons m0 (aCons m1 aNil))) (vP (yP2 t u)) f' := fun env S r => by rw [← e]; exact xg2 (F := fun a0 a1 => .ok (a0, a1)) (fun a0 a1 d0 d1 S p0 p1 => by cases p0; cases p1; exact ⟨_, rfl, rfl⟩) h0 h1 r
end
def OutG {γ ρ : Type} (fo : γ → Ob) (S : Store) (q : Nat) (P : ρ → D → Store → Prop) (f : R (ρ × γ)) (r : Res D) : Prop := match f with
  | .ok (x, g) => ∃ d, r = .ok d (S.set q (fo g)) ∧ P x d (S.set q (fo g))
  | .err _ => False
  | .bad => True
section
variable {B : Bs} {sl : List Sl} {α β γ δ ε ζ σ τ ρ : Type} {t : α → D}
def XQ (B : Bs) (sl : List Sl) (iF : Nat) (m : M D) (P : Nat → α → D → Store → Prop) (f : R α) : Prop := ∀ env S q, SRel B sl env S → env[iF]? = some (some (.cell q)) → Out S (P q) f (m env S)
theorem xq_v {iF : Nat} {m : M D} {P : α → D → Store → Prop} {f : R α} (h : XE B sl m P f) : XQ B sl iF m (fun _ => P) f := fun env S q r _ => h env S r
theorem xf_f1 {κ : Type} {fo : κ → Ob} {P0 : Nat → α → D → Store → Prop} {F : κ → α → R (ρ × κ)} {P' : ρ → D → Store → Prop} {m : List D → Store → Res D} {m0 : M D} {f0 : R α} {g : κ} {qo : Option Nat} {iF : Nat} {E : κ → List Sl} {f' : R (ρ × κ)} (hPP : ∀ x d S S', P' x d S → P' x d S') (hF : ∀ (g : κ) a0 d0 q S, S[q]? = some (fo g) → P0 q a0 d0 S → OutG fo S q P' (F g a0) (m [.cell q, d0] S)) (hi : sl[iF]? = some (.f qo (fo g))) (hE : ∀ g', sl.set iF (.f qo (fo g')) = E g') (h0 : XQ B sl iF m0 P0 f0) (e : (f0.bind fun a0 => F g a0) = f' := by rfl) : XI B sl E (eCall 2 m (aCons (eVar iF) (aCons m0 aNil))) P' f' := fun env S r => by
  rw [← e]
  obtain ⟨q, e1, q1, q2⟩ := r.f hi
  have ev : (eVar iF : M D) env S = .ok (.cell q) S := by unfold eVar; rw [e1]
  unfold eCall
  simp only [aCons, aNil, res_assoc, bind_ok, ev]
  have k0 := h0 env S q r e1
  cases hf0 : f0 with
  | bad => trivial
  | err c => rw [hf0] at k0; rw [show m0 env S = _ from k0]; exact ⟨S, rfl, r.frm⟩
  | ok a0 =>
    rw [hf0] at k0
    obtain ⟨d0, z0, y0⟩ := k0
    rw [z0]
    dsimp only [bind_ok, R.ok_bind]
    have key := hF g a0 d0 q S q1 y0
    cases hx : F g a0 with
    | bad => trivial
    | err c => rw [hx] at key; exact key.elim
    | ok v =>
      obtain ⟨x, g'⟩ := v
      rw [hx] at key
      obtain ⟨d, z, y⟩ := key
      refine ⟨d, _, z, y, ?_⟩
      have := r.wrf (fo g') hi e1 q1 q2
      rw [hE] at this
      exact this
theorem OutI.thenN {E : σ → List Sl} {E' : τ → List Sl} {P : α → β → Store → Prop} {env : En} {f : R (α × σ)} {g : α × σ → R τ} {r : Res β} {k : β → Store → RS} (h : OutI B E P env f r) (hk : ∀ a s d S', P a d S' → SRel B (E s) env S' → OutN B E' (g (a, s)) (k d S')) : OutN B E' (f.bind g) (r.then env k) := by
  cases f with
  | ok p => obtain ⟨a, s⟩ := p; obtain ⟨d, S', rfl, q1, q2⟩ := h; exact hk a s d S' q1 q2
  | err c => obtain ⟨S', rfl, q⟩ := h; exact ⟨env, S', rfl, q⟩
  | bad => trivial
theorem OutI.thenB {E : σ → List Sl} {P : α → β → Store → Prop} {P' : ρ → D → Store → Prop} {env : En} {f : R (α × σ)} {g : α × σ → R ρ} {r : Res β} {k : β → Store → RS} (h : OutI B E P env f r) (hk : ∀ a s d S', P a d S' → SRel B (E s) env S' → OutB B P' (g (a, s)) (k d S')) : OutB B P' (f.bind g) (r.then env k) := by
  cases f with
  | ok p => obtain ⟨a, s⟩ := p; obtain ⟨d, S', rfl, q1, q2⟩ := h; exact hk a s d S' q1 q2
  | err c => obtain ⟨S', rfl, q⟩ := h; exact ⟨env, S', rfl, q⟩
  | bad => trivial
theorem OutI.thenL {E : σ → List Sl} {E' : τ → List Sl} {P : α → β → Store → Prop} {P' : ρ → D → Store → Prop} {env : En} {f : R (α × σ)} {g : α × σ → R (Lp τ ρ)} {r : Res β} {k : β → Store → RS} (h : OutI B E P env f r) (hk : ∀ a s d S', P a d S' → SRel B (E s) env S' → OutL B E' P' (g (a, s)) (k d S')) : OutL B E' P' (f.bind g) (r.then env k) := by
  cases f with
  | ok p => obtain ⟨a, s⟩ := p; obtain ⟨d, S', rfl, q1, q2⟩ := h; exact hk a s d S' q1 q2
  | err c => obtain ⟨S', rfl, q⟩ := h; exact ⟨env, S', rfl, q⟩
  | bad => trivial
theorem xn_asgF {E : σ → List Sl} {m : M D} {f : R (α × σ)} (i : Nat) (h : XI B sl E m (vP t) f) : XN B sl (sAsg m (pName i)) (fun p => (E p.2).set i (.v (t p.1))) f := fun env S r => by
  have := OutI.thenN (g := fun p => .ok p) (E' := fun p : α × σ => (E p.2).set i (.v (t p.1))) (h env S r) (k := fun d S1 => match pName i d env with | some e' => .next e' S1 | none => .bad) fun a s d S1 q r1 => by cases q; exact ⟨_, _, rfl, r1.set_v i _⟩
  rw [bind_ret] at this
  exact this
theorem xn_appF {E : σ → List Sl} {m : M D} {f : R (α × σ)} {f' : R (List α × σ)} {l : List α} (i : Nat) (h0 : sl[i]? = some (.c (l.map t))) (hi : ∀ s, (E s)[i]? = some (.c (l.map t))) (h : XI B sl E m (vP t) f) (e : (f.bind fun p => (appR l p.1).bind fun l' => .ok (l', p.2)) = f' := by rfl) : XN B sl (sExpr (eMt dAppend isLst (eVar i) (aCons m aNil))) (fun q => (E q.2).set i (.c (q.1.map t))) f' := fun env S r => by
  rw [← e]
  obtain ⟨n, e1, q⟩ := r.c h0
  obtain ⟨c1, c2, c3⟩ := cell_of q
  have then_assoc : ∀ {X Y : Type} (r : Res X) (p : X → Store → Res Y) (k : Y → Store → RS), (r.bind p).then env k = r.then env fun x S => (p x S).then env k := fun r p k => by cases r <;> rfl
  unfold sExpr eMt eVar aCons aNil
  rw [e1]
  dsimp only [bind_ok]
  rw [if_pos c3]
  simp only [then_assoc, bind_ok]
  refine OutI.thenN (h env S r) fun a s d S1 pa r1 => ?_
  cases pa
  obtain ⟨n', e2, q'⟩ := r1.c (hi s)
  rw [e1] at e2
  cases e2
  obtain ⟨c1, c2, c3⟩ := cell_of q'
  dsimp only [then_ok]
  unfold dAppend appR
  rw [c1]
  show OutN B _ ((if l.length < big then R.ok (l ++ [a]) else R.bad).bind _) (Res.then (if (l.map t).length < big then _ else _) env _)
  rw [List.length_map]
  by_cases hl : l.length < big
  · rw [if_pos hl, if_pos hl]
    refine ⟨env, _, rfl, ?_⟩
    have := r1.wr (l.map t ++ [t a]) (hi s) e1 q'
    rw [show l.map t ++ [t a] = (l ++ [a]).map t by simp] at this ⊢
    exact this
  · rw [if_neg hl]; trivial
theorem xn_forF {E0 : τ → List Sl} {E E2 : σ → List Sl} {Es : σ → α → List Sl} {step : σ → α → R σ} {mi : M IT} {p : Pat} {body : MS} {dead : List Nat} {fi : R (List α × τ)} {f' : R σ} (s0 : τ → σ) (hi : XI B sl E0 mi (i0 t) fi) (h0 : ∀ g, clrS (E0 g) dead = E (s0 g)) (hp : ∀ s, XPt B p t (E s) (Es s)) (hb : ∀ s x, XN B (Es s x) body E2 (step s x)) (hd : ∀ s, clrS (E2 s) dead = E s)
    (e : (fi.bind fun l => forR step l.1 (s0 l.2)) = f' := by rfl) : XN B sl (sFor mi p body dead) E f' := fun env S r => by
  rw [← e]
  refine OutI.thenN (hi env S r) fun l s it S1 q r1 => ?_
  cases q
  exact loop_N (fun _ => True) hp hb hd (fun _ _ _ _ _ => trivial) (fun _ _ _ _ _ _ => trivial) (fun _ _ _ _ _ p hp => (nomatch hp)) l (s0 s) _ S1 (by have := r1.clr dead; rw [h0] at this; exact this) trivial
def rF {κ : Type} (fo : κ → Ob) (q : Nat) (P : ρ → D → Store → Prop) : ρ × κ → D → Store → Prop := fun p d S => P p.1 d S ∧ S[q]? = some (fo p.2)
theorem xb_retF {κ : Type} {fo : κ → Ob} {q iF : Nat} {E : κ → List Sl} {m : M D} {f : R (α × κ)} (hi : ∀ g, (E g)[iF]? = some (.f (some q) (fo g))) (h : XI B sl E m (vP t) f) : XB B sl (sRet m) (rF fo q (vP t)) f := fun env S r => by
  have := OutI.thenB (g := fun p => .ok p) (P' := rF fo q (vP t)) (h env S r) (k := fun d S1 => .ret d S1) fun a s d S1 qa r1 => ⟨d, S1, .inl rfl, ⟨qa, by obtain ⟨n, _, e2, e3⟩ := r1.f (hi s); rw [e3 q rfl] at e2; exact e2⟩, r1.frm⟩
  rw [bind_ret] at this
  exact this
theorem FrQ.stOk {S S' : Store} {q : Nat} {ob : Ob} (h : Fr ⟨S, [q]⟩ S') (hq : S'[q]? = some ob) (hp : ob.pure = true) : stOk S S' := ⟨h.len, fun i hi => by
  by_cases e : i = q
  · subst e; exact .inr ⟨ob, hq, hp⟩
  · exact .inl (h.same i hi (by simpa using e))⟩
theorem FrQ.take {S S' : Store} {q : Nat} {ob : Ob} (h : Fr ⟨S, [q]⟩ S') (hq : S'[q]? = some ob) (hl : q < S.length) : S'.take S.length = S.set q ob := by
  apply List.ext_getElem?
  intro i
  by_cases hi : i < S.length
  · rw [List.getElem?_take_of_lt hi]
    by_cases e : i = q
    · subst e; rw [hq, List.getElem?_set_self hi]
    · rw [List.getElem?_set_ne (Ne.symm e)]; exact h.same i hi (by simpa using e)
  · rw [List.getElem?_eq_none (by rw [List.length_take]; omega), List.getElem?_eq_none (by rw [List.length_set]; omega)]
theorem fn_vF {κ : Type} {fo : κ → Ob} {g : κ} (hpf : ∀ g, (fo g).pure = true) {u : ρ → D} [TPu u] {N q : Nat} {body : MS} {ds : List D} {ss : List Sl} {S : Store} {f : R (ρ × κ)} (hq : S[q]? = some (fo g)) (hp : PRels S [q] ds ss) (hf : nfe ss ≤ 1) (h : XB ⟨S, [q]⟩ (ss ++ List.replicate (N - ds.length) .u) body (rF fo q (vP u)) f) : OutG fo S q (vP u) f.ne (runFn .val N body ds S) := by
  have h1 := h _ S (init_rel (N - ds.length) hp hf)
  have hl : q < S.length := (List.getElem?_eq_some_iff.mp hq).1
  unfold runFn
  cases f with
  | bad => trivial
  | err c => trivial
  | ok x =>
    obtain ⟨x, g'⟩ := x
    obtain ⟨d, S1, q1, ⟨q2, q4⟩, q3⟩ := h1
    cases q2
    have key : fin .val S (u x) S1 = .ok (u x) (S.set q (fo g')) := by rw [fin_val (FrQ.stOk q3 q4 (hpf g')) (TPu.pu (t := u) x), FrQ.take q3 q4 hl]
    rcases q1 with q1 | ⟨q0, e, q1⟩
    · rw [q1]; exact ⟨u x, key, rfl⟩
    · rw [q1]; rw [q0] at key; exact ⟨.non, key, q0.symm⟩
theorem xn_feed {κ : Type} {fo : κ → Ob} {g : κ} {m : M D} (i : Nat) (h : ∀ env S, SRel B sl env S → m env S = .ok (.cell S.length) (S ++ [fo g])) : XN B sl (sAsg m (pName i)) (fun g' : κ => sl.set i (.f none (fo g'))) (.ok g) := fun env S r => by
  unfold sAsg
  rw [h env S r]
  exact ⟨_, _, rfl, r.newf i _⟩
end
end Rf

namespace Rf
open PySem PySem.Spec PyProof.Rows L2
section
variable {B : Bs} {sl : List Sl} {α β γ δ σ ρ τ : Type} {t : α → D}
theorem SRel.drops {env : En} {S : Store} (r : SRel B sl env S) : ∀ l : List Nat, SRel B (clrS sl l) env S
  | [] => r
  | i :: l => (SRel.drops r l).drop i
theorem xn_nild {E : σ → List Sl} (s : σ) (drops : List Nat) (h : clrS sl drops = E s) : XN B sl sNil E (.ok s) := fun env S r => ⟨env, S, rfl, h ▸ r.drops drops⟩
theorem xn_end {E1 : σ → List Sl} {E2 : δ → List Sl} {a : MS} {fa : R σ} {f' : R δ} (g : σ → δ) (drops : List Nat) (ha : XN B sl a E1 fa) (hE : ∀ s, clrS (E1 s) drops = E2 (g s)) (e : (fa.bind fun s => .ok (g s)) = f' := by rfl) : XN B sl a E2 f' := fun env S r => by
  rw [← e]
  have h1 := ha env S r
  cases fa with
  | bad => trivial
  | err c => exact h1
  | ok s => obtain ⟨e1, S1, q1, q2⟩ := h1; exact ⟨e1, S1, q1, hE s ▸ q2.drops drops⟩
theorem xl_god {E : σ → List Sl} {P : ρ → D → Store → Prop} (s : σ) (drops : List Nat) (h : clrS sl drops = E s) : XL B sl sNil E P (.ok (.go s)) := fun env S r => ⟨env, S, rfl, h ▸ r.drops drops⟩
theorem xi_r1k {m : M D} {n : Int} (h : XE B sl m (vP yI) (.ok n)) (hn : -(2 ^ 62) ≤ n ∧ n < 2 ^ 62) : XE B sl (iR1 (aCons m aNil)) (i0 yI) (.ok (rng1 n)) := xi_r1 h (by show rng1R n = _; unfold rng1R; exact if_pos hn)
def lexI : List Int → List Int → Bool
  | [], [] => false
  | [], _ :: _ => true
  | _ :: _, [] => false
  | x :: r, y :: s => decide (x < y) || (!decide (y < x) && lexI r s)
theorem lexI_eq : ∀ a b : List Int, PyProof.Rows.lexLt itemOrd (a.map Sum.inl) (b.map Sum.inl) = lexI a b
  | [], [] => rfl
  | [], _ :: _ => rfl
  | _ :: _, [] => rfl
  | x :: a, y :: b => by
    show (decide (x < y) || (!decide (y < x) && PyProof.Rows.lexLt itemOrd (a.map Sum.inl) (b.map Sum.inl))) = _
    rw [lexI_eq a b]; rfl
class TTok {α : Type} (t : α → D) (k : outParam (α → List Int)) : Prop where
  tok : ∀ a, PySem.W.keyToks (py (t a)) = (k a).map Sum.inl
class TAl {α : Type} (t : α → D) : Prop where
  al : ∀ a b, PySem.W.alike (py (t a)) (py (t b)) = true
def kI : Int → List Int := fun a => [a]
def leK {α : Type} (k : α → List Int) (a b : α) : Bool := !lexI (k b) (k a)
instance : TTok yI kI := ⟨fun a => by simp [yI, py, PySem.W.keyToks, kI]⟩
instance : TAl yI := ⟨fun _ _ => rfl⟩
instance : TAl yB := ⟨fun _ _ => rfl⟩
def kB : Bool → List Int := fun a => [if a then 1 else 0]
instance : TTok yB kB := ⟨fun a => by cases a <;> simp [yB, py, PySem.W.keyToks, kB]⟩
theorem le_of_tok {k : α → List Int} [TTok t k] (a b : α) : PySem.W.dataLe false py (t a) (t b) = leK k a b := by
  show (!PyProof.Rows.lexLt itemOrd (PySem.W.keyToks (py (t b))) (PySem.W.keyToks (py (t a)))) = _
  rw [TTok.tok (t := t), TTok.tok (t := t), lexI_eq]
  rfl
def kT {α : Type} (k : α → List Int) : List α → List Int
  | [] => [0]
  | x :: l => 1 :: (k x ++ kT k l)
theorem toks_all {k : α → List Int} [TTok t k] : ∀ l : List α, PySem.W.keyToksAll (pyL (l.map t)) = (kT k l).map Sum.inl
  | [] => rfl
  | x :: l => by
    show Sum.inl 1 :: (PySem.W.keyToks (py (t x)) ++ PySem.W.keyToksAll (pyL (l.map t))) = _
    rw [toks_all l, TTok.tok (t := t)]
    simp [kT]
instance {k : α → List Int} [TTok t k] : TTok (yT t) (kT k) := ⟨fun l => toks_all l⟩
end
def kP1 {α : Type} (k0 : α → List Int) : α → List Int := fun p => 1 :: (k0 (p) ++ [0])
instance {α : Type} {t : α → D} {k0 : α → List Int} [TTok t k0] : TTok (yP1 t) (kP1 k0) := ⟨fun p => by
  show Sum.inl 1 :: (PySem.W.keyToks (py (t (p))) ++ [Sum.inl 0]) = _
  rw [TTok.tok (t := t)]
  simp [kP1]⟩
instance {α : Type} {t : α → D} [TAl t] : TAl (yP1 t) := ⟨fun a b => by show (PySem.W.alike (py (t (a))) (py (t (b))) && true) = true; rw [TAl.al (t := t)]; rfl⟩
instance {α : Type} {t : α → D} {k : α → List Int} [TTok (yP1 t) k] [TAl (yP1 t)] : TOrd (yP1 t) (leK k) := ⟨fun a b => le_of_tok a b, fun a b => TAl.al (t := yP1 t) a b, .inl fun a => ⟨_, _, rfl⟩⟩
def kP2 {α β : Type} (k0 : α → List Int) (k1 : β → List Int) : α × β → List Int := fun p => 1 :: (k0 (p.1) ++ 1 :: (k1 (p.2) ++ [0]))
instance {α β : Type} {t : α → D} {u : β → D} {k0 : α → List Int} {k1 : β → List Int} [TTok t k0] [TTok u k1] : TTok (yP2 t u) (kP2 k0 k1) := ⟨fun p => by
  show Sum.inl 1 :: (PySem.W.keyToks (py (t (p.1))) ++ Sum.inl 1 :: (PySem.W.keyToks (py (u (p.2))) ++ [Sum.inl 0])) = _
  rw [TTok.tok (t := t), TTok.tok (t := u)]
  simp [kP2]⟩
instance {α β : Type} {t : α → D} {u : β → D} [TAl t] [TAl u] : TAl (yP2 t u) := ⟨fun a b => by show (PySem.W.alike (py (t (a.1))) (py (t (b.1))) && (PySem.W.alike (py (u (a.2))) (py (u (b.2))) && true)) = true; rw [TAl.al (t := t), TAl.al (t := u)]; rfl⟩
instance {α β : Type} {t : α → D} {u : β → D} {k : α × β → List Int} [TTok (yP2 t u) k] [TAl (yP2 t u)] : TOrd (yP2 t u) (leK k) := ⟨fun a b => le_of_tok a b, fun a b => TAl.al (t := yP2 t u) a b, .inl fun a => ⟨_, _, rfl⟩⟩
def kP3 {α β γ : Type} (k0 : α → List Int) (k1 : β → List Int) (k2 : γ → List Int) : α × β × γ → List Int := fun p => 1 :: (k0 (p.1) ++ 1 :: (k1 (p.2.1) ++ 1 :: (k2 (p.2.2) ++ [0])))
instance {α β γ : Type} {t : α → D} {u : β → D} {v : γ → D} {k0 : α → List Int} {k1 : β → List Int} {k2 : γ → List Int} [TTok t k0] [TTok u k1] [TTok v k2] : TTok (yP3 t u v) (kP3 k0 k1 k2) := ⟨fun p => by
  show Sum.inl 1 :: (PySem.W.keyToks (py (t (p.1))) ++ Sum.inl 1 :: (PySem.W.keyToks (py (u (p.2.1))) ++ Sum.inl 1 :: (PySem.W.keyToks (py (v (p.2.2))) ++ [Sum.inl 0]))) = _
  rw [TTok.tok (t := t), TTok.tok (t := u), TTok.tok (t := v)]
  simp [kP3]⟩
instance {α β γ : Type} {t : α → D} {u : β → D} {v : γ → D} [TAl t] [TAl u] [TAl v] : TAl (yP3 t u v) := ⟨fun a b => by show (PySem.W.alike (py (t (a.1))) (py (t (b.1))) && (PySem.W.alike (py (u (a.2.1))) (py (u (b.2.1))) && (PySem.W.alike (py (v (a.2.2))) (py (v (b.2.2))) && true))) = true; rw [TAl.al (t := t), TAl.al (t := u), TAl.al (t := v)]; rfl⟩
instance {α β γ : Type} {t : α → D} {u : β → D} {v : γ → D} {k : α × β × γ → List Int} [TTok (yP3 t u v) k] [TAl (yP3 t u v)] : TOrd (yP3 t u v) (leK k) := ⟨fun a b => le_of_tok a b, fun a b => TAl.al (t := yP3 t u v) a b, .inl fun a => ⟨_, _, rfl⟩⟩
def kP4 {α β γ δ : Type} (k0 : α → List Int) (k1 : β → List Int) (k2 : γ → List Int) (k3 : δ → List Int) : α × β × γ × δ → List Int := fun p => 1 :: (k0 (p.1) ++ 1 :: (k1 (p.2.1) ++ 1 :: (k2 (p.2.2.1) ++ 1 :: (k3 (p.2.2.2) ++ [0]))))
instance {α β γ δ : Type} {t : α → D} {u : β → D} {v : γ → D} {w : δ → D} {k0 : α → List Int} {k1 : β → List Int} {k2 : γ → List Int} {k3 : δ → List Int} [TTok t k0] [TTok u k1] [TTok v k2] [TTok w k3] : TTok (yP4 t u v w) (kP4 k0 k1 k2 k3) := ⟨fun p => by
  show Sum.inl 1 :: (PySem.W.keyToks (py (t (p.1))) ++ Sum.inl 1 :: (PySem.W.keyToks (py (u (p.2.1))) ++ Sum.inl 1 :: (PySem.W.keyToks (py (v (p.2.2.1))) ++ Sum.inl 1 :: (PySem.W.keyToks (py (w (p.2.2.2))) ++ [Sum.inl 0])))) = _
  rw [TTok.tok (t := t), TTok.tok (t := u), TTok.tok (t := v), TTok.tok (t := w)]
  simp [kP4]⟩
instance {α β γ δ : Type} {t : α → D} {u : β → D} {v : γ → D} {w : δ → D} [TAl t] [TAl u] [TAl v] [TAl w] : TAl (yP4 t u v w) := ⟨fun a b => by show (PySem.W.alike (py (t (a.1))) (py (t (b.1))) && (PySem.W.alike (py (u (a.2.1))) (py (u (b.2.1))) && (PySem.W.alike (py (v (a.2.2.1))) (py (v (b.2.2.1))) && (PySem.W.alike (py (w (a.2.2.2))) (py (w (b.2.2.2))) && true)))) = true; rw [TAl.al (t := t), TAl.al (t := u), TAl.al (t := v), TAl.al (t := w)]; rfl⟩
instance {α β γ δ : Type} {t : α → D} {u : β → D} {v : γ → D} {w : δ → D} {k : α × β × γ × δ → List Int} [TTok (yP4 t u v w) k] [TAl (yP4 t u v w)] : TOrd (yP4 t u v w) (leK k) := ⟨fun a b => le_of_tok a b, fun a b => TAl.al (t := yP4 t u v w) a b, .inl fun a => ⟨_, _, rfl⟩⟩
def kP5 {α β γ δ ε : Type} (k0 : α → List Int) (k1 : β → List Int) (k2 : γ → List Int) (k3 : δ → List Int) (k4 : ε → List Int) : α × β × γ × δ × ε → List Int := fun p => 1 :: (k0 (p.1) ++ 1 :: (k1 (p.2.1) ++ 1 :: (k2 (p.2.2.1) ++ 1 :: (k3 (p.2.2.2.1) ++ 1 :: (k4 (p.2.2.2.2) ++ [0])))))
instance {α β γ δ ε : Type} {t : α → D} {u : β → D} {v : γ → D} {w : δ → D} {y : ε → D} {k0 : α → List Int} {k1 : β → List Int} {k2 : γ → List Int} {k3 : δ → List Int} {k4 : ε → List Int} [TTok t k0] [TTok u k1] [TTok v k2] [TTok w k3] [TTok y k4] : TTok (yP5 t u v w y) (kP5 k0 k1 k2 k3 k4) := ⟨fun p => by
  show Sum.inl 1 :: (PySem.W.keyToks (py (t (p.1))) ++ Sum.inl 1 :: (PySem.W.keyToks (py (u (p.2.1))) ++ Sum.inl 1 :: (PySem.W.keyToks (py (v (p.2.2.1))) ++ Sum.inl 1 :: (PySem.W.keyToks (py (w (p.2.2.2.1))) ++ Sum.inl 1 :: (PySem.W.keyToks (py (y (p.2.2.2.2))) ++ [Sum.inl 0]))))) = _
  rw [TTok.tok (t := t), TTok.tok (t := u), TTok.tok (t := v), TTok.tok (t := w), TTok.tok (t := y)]
  simp [kP5]⟩
instance {α β γ δ ε : Type} {t : α → D} {u : β → D} {v : γ → D} {w : δ → D} {y : ε → D} [TAl t] [TAl u] [TAl v] [TAl w] [TAl y] : TAl (yP5 t u v w y) := ⟨fun a b => by show (PySem.W.alike (py (t (a.1))) (py (t (b.1))) && (PySem.W.alike (py (u (a.2.1))) (py (u (b.2.1))) && (PySem.W.alike (py (v (a.2.2.1))) (py (v (b.2.2.1))) && (PySem.W.alike (py (w (a.2.2.2.1))) (py (w (b.2.2.2.1))) && (PySem.W.alike (py (y (a.2.2.2.2))) (py (y (b.2.2.2.2))) && true))))) = true; rw [TAl.al (t := t), TAl.al (t := u), TAl.al (t := v), TAl.al (t := w), TAl.al (t := y)]; rfl⟩
instance {α β γ δ ε : Type} {t : α → D} {u : β → D} {v : γ → D} {w : δ → D} {y : ε → D} {k : α × β × γ × δ × ε → List Int} [TTok (yP5 t u v w y) k] [TAl (yP5 t u v w y)] : TOrd (yP5 t u v w y) (leK k) := ⟨fun a b => le_of_tok a b, fun a b => TAl.al (t := yP5 t u v w y) a b, .inl fun a => ⟨_, _, rfl⟩⟩
section
variable {B : Bs} {sl : List Sl} {α β γ δ σ ρ τ : Type} {t : α → D}
theorem op_isN (h : ∀ a : α, t a ≠ .non) : Op1 (fun d S => dIsN false d .non S) (vP (yO t)) (vP yB) fun a => .ok a.isNone := fun a d S q => by
  cases q
  cases a with
  | none => exact ⟨_, rfl, rfl⟩
  | some a =>
    refine ⟨_, rfl, ?_⟩
    show D.bl (isNon (t a)) = D.bl false
    cases e : t a <;> first | rfl | exact absurd e (h a)
theorem op_isnt (h : ∀ a : α, t a ≠ .non) : Op1 (fun d S => dIsN true d .non S) (vP (yO t)) (vP yB) fun a => .ok a.isSome := fun a d S q => by
  cases q
  cases a with
  | none => exact ⟨_, rfl, rfl⟩
  | some a =>
    refine ⟨_, rfl, ?_⟩
    show D.bl (!isNon (t a)) = D.bl true
    cases e : t a <;> first | rfl | exact absurd e (h a)
end
end Rf

namespace Rf
open PySem PySem.Spec PyProof.Rows L2
def dInsert (d : D) (xs : List D) (S : Store) : Res D := match cellOf S d, xs with
  | some (n, ds), [.int i, y] => if ds.length < big ∧ 0 ≤ i ∧ i < 1000000000 then .ok .non (S.set n (.lst (ds.take i.toNat ++ [y] ++ ds.drop i.toNat))) else .bad
  | _, _ => .bad
def rInsert : V → List V → Hp → VK → Prop := fun x vs H Q => ∃ (l : Addr) (xs : List V) (i : Int) (y : V), x = .ref l ∧ vs = [.int i, y] ∧ H l = some (.lst xs) ∧ xs.length < sizeLine ∧ 0 ≤ i ∧ i < 2 ^ 63 ∧
    Q .non (upd H l (.lst (xs.take i.toNat ++ [y] ++ xs.drop i.toNat)))
theorem mt_ins {X : Cx} : MtR X "list.insert" rInsert := mt_insert
theorem md_insert {K : PySem.W.Frag} : MtD K rInsert dInsert := by
  intro G ρ H S d ds v vs E Q r x1 x2 h
  unfold dInsert at h
  split at h
  · rename_i n xs i y ec
    obtain ⟨rfl, eS⟩ := cellOf_some ec
    obtain ⟨a, rfl, ha⟩ := x1
    obtain ⟨w, _, rfl, q1, w2, _, rfl, q2, rfl⟩ := x2
    cases (show w = .int i from q1)
    obtain ⟨ws, h1, h2⟩ := r.ob n _ a eS ha
    by_cases hl : xs.length < big ∧ 0 ≤ i ∧ i < 1000000000
    · rw [if_pos hl] at h
      refine ⟨a, ws, i, w2, rfl, rfl, h1, by rw [h2.length]; exact big_lt hl.1, hl.2.1, by omega, ?_⟩
      have k : Keep G ρ H ρ (upd H a (.lst (ws.take i.toNat ++ [w2] ++ ws.drop i.toNat))) := Keep.write (List.mem_of_getElem? ha) (r.ng a (List.mem_of_getElem? ha)) (.inl ⟨_, h1⟩)
      obtain ⟨r', k'⟩ := r.write (o := .lst (xs.take i.toNat ++ [y] ++ xs.drop i.toNat)) (u := .lst (ws.take i.toNat ++ [w2] ++ ws.drop i.toNat)) ha (.inl ⟨_, h1⟩) ⟨_, upd_same, RepL.keep k _ _ (((h2.take _).snoc q2).app (h2.drop _))⟩
      exact h .non ρ _ r' rfl k'
    · rw [if_neg hl] at h; exact h.elim
  · exact h.elim
instance (ds : List D) : Decidable (ds ≠ []) := match ds with
  | [] => isFalse fun h => h rfl
  | _ :: _ => isTrue fun h => (nomatch h)
section
variable {B : Bs} {sl : List Sl} {α β γ σ : Type} {t : α → D}
@[irreducible] def insR {α : Type} (l : List α) (i : Int) (a : α) : R (List α) := if l.length < big ∧ 0 ≤ i ∧ i < 1000000000 then .ok (l.take i.toNat ++ [a] ++ l.drop i.toNat) else .bad
abbrev PD : Type := { d : D // pureD d = true }
def yA : PD → D := fun x => x.1
instance : TPu yA := ⟨fun x => x.2⟩
instance : TNc yA := ⟨fun x S => by
  obtain ⟨d, h⟩ := x
  cases d <;> first | rfl | cases h⟩
def toA {α : Type} (t : α → D) [TPu t] (a : α) : PD := ⟨t a, TPu.pu a⟩
theorem asA [TPu t] (a : α) (d : D) (S : Store) (h : vP t a d S) : vP yA (toA t a) d S := h
def isiA (T : String) (x : PD) : R Bool := match tyN x.1 with
  | some a => (match isiT a T with
    | some b => .ok b
    | none => .bad)
  | none => .bad
theorem xe_isiA {T : String} {m : M D} {f : R PD} {f' : R Bool} (h : XE B sl m (vP yA) f) (e : (f.bind fun x => isiA T x) = f' := by rfl) : XE B sl (eB dIsi (aCons m (aCons (eC (.ty T)) aNil))) (vP yB) f' := fun env S r => by
  rw [← e]
  unfold eB aCons aNil
  simp only [res_assoc, bind_ok, eC]
  refine Out.bind (h env S r) fun a d q => ?_
  cases q
  unfold dIsi isiA
  dsimp only
  show Out S (vP yB) (match tyN a.1 with | some a => (match isiT a T with | some b => R.ok b | none => R.bad) | none => R.bad) (match tyN a.1 with | some a => (match isiT a T with | some b => Res.ok (D.bl b) S | none => Res.bad) | none => Res.bad)
  cases tyN a.1 with
  | none => trivial
  | some k =>
    dsimp only
    cases isiT k T with
    | none => trivial
    | some b => exact ⟨_, rfl, rfl⟩
theorem xe_isiAt {T : String} {m : M D} {x : PD} {f' : R Bool} (h : XE B sl m (vP yA) (.ok x)) (e : isiA T x = f' := by rfl) : XE B sl (eB dIsi (aCons m (aCons (eC (.ty T)) aNil))) (vP yB) f' := xe_isiA h e
def eqA (x y : PD) : R Bool := if shD dpt x.1 = true ∧ shD dpt y.1 = true then .ok (PyData.eqv (py x.1) (py y.1)) else .bad
theorem op_eqA : Op2 dEq (vP yA) (vP yA) (vP yB) eqA := fun a b d e S h1 h2 => by
  cases h1; cases h2
  unfold eqA
  by_cases h : shD dpt a.1 = true ∧ shD dpt b.1 = true
  · rw [if_pos h]
    have v1 : val S (yA a) = yA a := TNc.nc a S
    have v2 : val S (yA b) = yA b := TNc.nc b S
    refine ⟨_, dEq_of (by rw [v1]; exact h.1) (by rw [v2]; exact h.2), ?_⟩
    rw [v1, v2]; rfl
  · rw [if_neg h]; trivial
def neA (x y : PD) : R Bool := (eqA x y).bind fun b => .ok (!b)
theorem op_neA : Op2 dNe (vP yA) (vP yA) (vP yB) neA := fun a b d e S h1 h2 => by
  cases h1; cases h2
  unfold neA eqA
  by_cases h : shD dpt a.1 = true ∧ shD dpt b.1 = true
  · rw [if_pos h]
    have v1 : val S (yA a) = yA a := TNc.nc a S
    have v2 : val S (yA b) = yA b := TNc.nc b S
    refine ⟨_, dNe_of (by rw [v1]; exact h.1) (by rw [v2]; exact h.2), ?_⟩
    rw [v1, v2]; rfl
  · rw [if_neg h]; trivial
theorem pure_of_mem : ∀ {ds : List D} {d : D}, pureL ds = true → d ∈ ds → pureD d = true
  | [], d, _, h => (nomatch h)
  | x :: ds, d, hp, h => by
    have : (pureD x && pureL ds) = true := hp
    rw [Bool.and_eq_true] at this
    rcases List.mem_cons.mp h with rfl | h
    · exact this.1
    · exact pure_of_mem this.2 h
def itsD : D → Option (List D)
  | .tup ds => some ds
  | .lst ds => some ds
  | .fz ds => some ds
  | _ => none
theorem itsD_pure {x : PD} {ds : List D} (h : itsD x.1 = some ds) : pureL ds = true := by
  obtain ⟨d, hp⟩ := x
  cases d <;> first | (cases h; exact hp) | cases h
theorem itsD_seq {x : PD} {S : Store} : seqOf S x.1 = itsD x.1 := by
  obtain ⟨d, hp⟩ := x
  cases d <;> first | rfl | cases hp
def attA : (ds : List D) → pureL ds = true → List PD
  | [], _ => []
  | d :: ds, h => ⟨d, pure_of_mem h List.mem_cons_self⟩ :: attA ds (by have : (pureD d && pureL ds) = true := h; rw [Bool.and_eq_true] at this; exact this.2)
theorem attA_map : ∀ (ds : List D) (h : pureL ds = true), (attA ds h).map yA = ds
  | [], _ => rfl
  | d :: ds, h => by unfold attA; rw [List.map_cons, attA_map ds]; rfl
def itemsA (x : PD) : R (List PD) := match e : itsD x.1 with
  | some ds => .ok (attA ds (itsD_pure e))
  | none => .bad
def lenA (x : PD) : R Int := match itsD x.1 with
  | some ds => .ok (ds.length : Int)
  | none => .bad
theorem bf_lenA : ∀ x d S, vP yA x d S → Out S (vP yI) (lenA x) (dLen [d] S) := fun x d S h => by
  cases h
  unfold dLen lenA
  dsimp only
  show Out S _ _ (match seqOf S x.1 with | some xs => Res.ok (D.int (xs.length : Nat)) S | none => Res.bad)
  rw [itsD_seq]
  cases itsD x.1 with
  | none => trivial
  | some ds => exact ⟨_, rfl, rfl⟩
theorem atI_mem {α : Type} {l : List α} {i : Int} {x : α} (h : atI l i = some x) : x ∈ l := by
  unfold atI at h
  cases e : ixN l.length i with
  | none => rw [e] at h; cases h
  | some j => rw [e] at h; exact List.mem_of_getElem? h
def ixA (x : PD) (i : Int) : R PD := match e : itsD x.1 with
  | some ds => (match e2 : atI ds i with
    | some d => .ok ⟨d, pure_of_mem (itsD_pure e) (atI_mem e2)⟩
    | none => .bad)
  | none => .bad
theorem op_ixA : Op2 dIx (vP yA) (vP yI) (vP yA) ixA := fun x i d e S h1 h2 => by
  cases h1; cases h2
  unfold ixA
  split
  · rename_i ds ed
    split
    · rename_i y ey
      refine ⟨y, ?_, rfl⟩
      unfold dIx
      rw [show seqOf S (yA x) = some ds from itsD_seq.trans ed]
      show (match atI ds i with | some x => Res.ok x S | none => Res.bad) = _
      rw [ey]
    · trivial
  · trivial
def intA (x : PD) : R Int := match x.1 with
  | .int i => .ok i
  | _ => .bad
theorem XE.toI {m : M D} {f : R PD} {f' : R Int} (h : XE B sl m (vP yA) f) (e : (f.bind fun x => intA x) = f' := by rfl) : XE B sl m (vP yI) f' := fun env S r => by
  rw [← e]
  have := h env S r
  cases f with
  | bad => trivial
  | err c => exact this
  | ok x =>
    obtain ⟨d, q1, q2⟩ := this
    cases q2
    dsimp only [R.ok_bind]
    obtain ⟨x, hx⟩ := x
    cases x with
    | int i => exact ⟨_, q1, rfl⟩
    | _ => trivial
theorem xi_A {m : M D} {f : R PD} {f' : R (List PD)} (h : XE B sl m (vP yA) f) (e : (f.bind fun x => itemsA x) = f' := by rfl) : XE B sl (iSeq m) (i0 yA) f' := fun env S r => by
  rw [← e]
  unfold iSeq
  refine Out.bind (h env S r) fun x d q => ?_
  cases q
  unfold itemsA
  split
  · rename_i ds ed
    refine ⟨⟨ds, []⟩, ?_, ?_⟩
    · have : fIt S (yA x) = some ⟨ds, []⟩ := by
        obtain ⟨x, hx⟩ := x
        cases x <;> first | (cases ed; rfl) | cases ed
      rw [this]
    · show IT.mk ds [] = IT.mk ((attA ds _).map yA) []
      rw [attA_map]
  · trivial
theorem xe_c0 {t : α → D} (a : α) (h : D.tup [] = t a) : XE B sl (eTup aNil) (vP t) (.ok a) := fun env S r => ⟨_, rfl, h⟩
theorem XI.conv {E : σ → List Sl} {m : M β} {P : α → β → Store → Prop} {P' : γ → β → Store → Prop} {f : R (α × σ)} {f' : R (γ × σ)} (h : XI B sl E m P f) (c : α → γ) (hc : ∀ a d S, P a d S → P' (c a) d S) (e : (f.bind fun p => .ok (c p.1, p.2)) = f' := by rfl) : XI B sl E m P' f' := fun env S r => by
  rw [← e]
  have := h env S r
  cases f with
  | bad => trivial
  | err c => exact this
  | ok x => obtain ⟨a, s⟩ := x; obtain ⟨d, S', q1, q2, q3⟩ := this; exact ⟨d, S', q1, hc a d S' q2, q3⟩
theorem xl_Lw {τ ρ : Type} {E : σ → List Sl} {E' : τ → List Sl} {P : ρ → D → Store → Prop} {a : MS} {fa : R (Lp σ ρ)} {f' : R (Lp τ ρ)} (g : σ → τ) (drops : List Nat) (ha : XL B sl a E P fa) (hE : ∀ s, clrS (E s) drops = E' (g s)) (e : (fa.bind fun r => r.thn fun s => .ok (.go (g s))) = f' := by rfl) : XL B sl a E' P f' := fun env S r => by
  rw [← e]
  have h1 := ha env S r
  cases fa with
  | bad => trivial
  | err c => exact h1
  | ok v =>
    cases v with
    | go s => obtain ⟨e1, S1, q1, q2⟩ := h1; exact ⟨e1, S1, q1, hE s ▸ q2.drops drops⟩
    | cont s => trivial
    | brk s => trivial
    | out x => exact h1
theorem prel_r {l : List α} {d : D} {S : Store} (h : lP false t l d S) : PRel S [] d (.r (l.map t)) := ⟨h.1, h.2, fun n _ z => List.not_mem_nil z⟩
theorem op_i2A {f : D → D → Store → Res D} {g : Int → Int → R γ} {P : γ → D → Store → Prop} (h : Op2 f (vP yI) (vP yI) P g) (hb : True) : Op2 f (vP yA) (vP yI) P fun x b => (intA x).bind fun a => g a b := fun x b d e S h1 h2 => by
  obtain ⟨x, hx⟩ := x
  cases x with
  | int i => exact h i b d e S h1 h2
  | _ => trivial
end
end Rf

namespace Rf
open PySem PySem.Spec PyProof.Rows L2
section
variable {α β γ σ ρ : Type}
theorem R.okb (a : α) (f : α → R β) : (R.ok a).bind f = f a := Eq.trans (Eq.refl _) (Eq.refl _)
theorem R.assoc (f : R α) (g : α → R β) (h : β → R γ) : (f.bind g).bind h = f.bind fun a => (g a).bind h := by cases f <;> rfl
theorem R.ret (f : R α) : (f.bind fun a => .ok a) = f := by cases f <;> rfl
theorem bd {f : R α} {a : α} (h : f = .ok a) (g : α → R β) : f.bind g = g a := by rw [h]; rfl
theorem for_ex {step : σ → α → R σ} {g : σ → R β} {Q : β → Prop} {l : List α} {s0 : σ} (P : List α → σ → Prop) (h0 : P [] s0) (hs : ∀ p x q, l = p ++ x :: q → ∀ s, P p s → ∃ s', step s x = .ok s' ∧ P (p ++ [x]) s') (k : ∀ s, P l s → ∃ b, g s = .ok b ∧ Q b) : ∃ b, (forR step l s0).bind g = .ok b ∧ Q b := by
  have : ∀ (post pre : List α) (s : σ), P pre s → (∀ p x q, pre ++ post = p ++ x :: q → ∀ s, P p s → ∃ s', step s x = .ok s' ∧ P (p ++ [x]) s') → ∃ s', forR step post s = .ok s' ∧ P (pre ++ post) s' := by
    intro post
    induction post with
    | nil => intro pre s h _; exact ⟨s, rfl, by rw [List.append_nil]; exact h⟩
    | cons x post ih =>
      intro pre s h k
      obtain ⟨s1, e, h1⟩ := k pre x post rfl s h
      obtain ⟨s2, e2, h2⟩ := ih (pre ++ [x]) s1 h1 fun p y q e => k p y q (by rw [← e]; simp)
      refine ⟨s2, ?_, by rw [← List.append_cons pre x post] at h2; exact h2⟩
      unfold forR
      rw [bd e]
      exact e2
  obtain ⟨s, e, h⟩ := this l [] s0 h0 hs
  rw [bd e]
  exact k s h
theorem ne_ex {f : R α} {Q : α → Prop} (h : ∃ b, f = .ok b ∧ Q b) : ∃ b, f.ne = .ok b ∧ Q b := by
  obtain ⟨b, e, q⟩ := h
  exact ⟨b, by rw [e]; rfl, q⟩
theorem forL_same {step : Unit → α → R (Lp Unit ρ)} (l : List α) (h : ∀ x ∈ l, step () x = .ok (.go ())) : forL step l () = .ok (.go ()) := by
  induction l with
  | nil => rfl
  | cons x l ih => unfold forL; rw [bd (h x List.mem_cons_self)]; exact ih fun y hy => h y (List.mem_cons_of_mem _ hy)
theorem compR_ok {fc : α → R Bool} {fe : α → R β} (c : α → Bool) (g : α → β) : ∀ l : List α, (∀ x ∈ l, fc x = .ok (c x)) → (∀ x ∈ l, c x = true → fe x = .ok (g x)) → compR fc fe l = .ok ((l.filter c).map g)
  | [], _, _ => rfl
  | x :: l, h1, h2 => by
    have ih := compR_ok c g l (fun y hy => h1 y (List.mem_cons_of_mem _ hy)) (fun y hy => h2 y (List.mem_cons_of_mem _ hy))
    unfold compR
    rw [h1 x List.mem_cons_self]
    cases hc : c x with
    | true => dsimp only; rw [h2 x List.mem_cons_self hc, ih, List.filter_cons_of_pos hc]; rfl
    | false => dsimp only; rw [ih, List.filter_cons_of_neg (by rw [hc]; decide)]
theorem compB_ok {fc : α → R Bool} {fe : α → R β} (c : α → Bool) (g : α → β) {l : List α} (hl : l.length ≤ 1000000) (h1 : ∀ x ∈ l, fc x = .ok (c x)) (h2 : ∀ x ∈ l, c x = true → fe x = .ok (g x)) : compB fc fe l = .ok ((l.filter c).map g) := by
  unfold compB
  rw [if_pos (show l.length ≤ big from hl)]
  exact compR_ok c g l h1 h2
theorem compB_all {fe : α → R β} (g : α → β) {l : List α} (hl : l.length ≤ 1000000) (h2 : ∀ x ∈ l, fe x = .ok (g x)) : compB (fun _ => .ok true) fe l = .ok (l.map g) := by
  rw [compB_ok (fun _ => true) g hl (fun _ _ => rfl) (fun x hx _ => h2 x hx), List.filter_eq_self.mpr (fun _ _ => rfl)]
theorem rng1R_ok {n : Int} (h0 : -1000000000 ≤ n) (h : n ≤ 1000000000) : rng1R n = .ok (rng1 n) := by unfold rng1R; rw [if_pos ⟨by omega, by omega⟩]
theorem rng1_len (n : Int) : (rng1 n).length = n.toNat := by unfold rng1; simp
theorem appR_ok {l : List α} {a : α} (h : l.length < 1000000) : appR l a = .ok (l ++ [a]) := by unfold appR; rw [if_pos (show l.length < big from h)]
theorem catR_ok {l m : List α} (h : l.length + m.length ≤ 1000000) : catR l m = .ok (l ++ m) := by unfold catR; rw [if_pos (show l.length + m.length ≤ big from h)]
theorem sortR_ok {le : α → α → Bool} {l : List α} (h : l.length ≤ 1000000) : sortR le l = .ok (l.mergeSort le) := by unfold sortR; rw [if_pos (show l.length ≤ big from h)]
theorem insR_ok {l : List α} {i : Int} {a : α} (h : l.length < 1000000) (h0 : 0 ≤ i) (h1 : i < 1000000000) : insR l i a = .ok (l.take i.toNat ++ [a] ++ l.drop i.toNat) := by unfold insR; rw [if_pos ⟨h, h0, h1⟩]
theorem ixR_nat {l : List α} {i : Int} (h0 : 0 ≤ i) (h : i.toNat < l.length) : ixR l i = .ok l[i.toNat] := by
  unfold ixR atI ixN
  rw [if_pos h0, if_pos (by omega)]
  simp [h]
theorem ixR_of {l : List α} {i : Int} {x : α} (h0 : 0 ≤ i) (h : l[i.toNat]? = some x) : ixR l i = .ok x := by
  obtain ⟨hl, e⟩ := List.getElem?_eq_some_iff.mp h
  rw [ixR_nat h0 hl, e]
theorem modR_ok {a b : Int} (h : 0 < b) : modR a b = .ok (a % b) := by unfold modR; rw [if_pos h]
theorem mulR_ok {a b : Int} (h : -1000000000 ≤ b) (h2 : b ≤ 1000000000) : mulR a b = .ok (a * b) := by unfold mulR; rw [if_pos (.inl (.inr ⟨by omega, by omega⟩))]
end
end Rf

namespace Rf
open PySem PySem.Spec PyProof.Rows L2
section
variable {P : Program} {w : World} {K : PySem.W.Frag} {G : Addr → Prop} {ρ : List Addr} {H : Hp} {h : Heap}
end
def CRp (p : PyData) : Prop := p.showable = true ∧ p.depth ≤ 60 ∧ p.shown.length ≤ sizeLine
instance (p : PyData) : Decidable (CRp p) := by unfold CRp; infer_instance
end Rf

namespace Rf
open PySem PySem.Spec PyProof.Rows L2
end Rf

namespace Rf
open PySem PySem.Spec PyProof.Rows L2
structure Cls (K : PySem.W.Frag) (mg : Str → Option Value) (x : Str) (C : Addr) : Prop where
  ns : PySem.W.nsIn K mainGlobals x = some (some (.ref C))
  gl : mg x = some (.ref C)
  kept : PySem.W.keepIn K (.ref C) = true
  ex : PySem.W.excIn K C [.type "ValueError", .type "Exception", .type "BaseException", .type "object"] "ValueError.__new__" = true
  ty : PySem.W.typeIn K (.ref C) = some (.type "type")
  ec : ExcC K C
section
variable {X : Cx} {cA : Nat → Addr} {W : WX}
def sRaise (c : Nat) : MS := fun env S => .err c env S
theorem js_raise {x m : Str} {j : Nat} {p p2 pos pos' : Pos} (c : Nat) (hc : X.calm = true) (tk : Takes X W) (h : Cls X.K X.mg x (cA c)) (hg : Gl X x) (hdb : (x == ("__debug__" : Str)) = false := by decide) : PS X (.Raise (some (.Call (.Name x p) [.Constant (.str m) j p2] [] pos)) none pos') (tS X.K cA W (sRaise c)) :=
  ps_imp (ps_raise hc tk (pmk_own PySem.F.excBase_ValueError h.ex h.gl h.kept (raises_own h.ec.hs h.ty) hg hdb)) fun D σ H ⟨G, ρ, env, S, hE, hS, q⟩ => q σ ρ H hE hS Keep.refl
theorem je_cls {x : Str} {C : Addr} {pos : Pos} (hg : Gl X x) (h : Cls X.K X.mg x C) (hd : (x == ("__debug__" : Str)) = false := by decide) : PE X (.Name x pos) (tE X.K cA W (eC (.cl x))) :=
  pe_imp (pe_glob (v := .ref C) hg h.gl rfl hd) fun _ _ _ ⟨_, _, _, _, _, hS, q⟩ => q.now hS (ClV.mk h.ns)
end
def hTry (ct : Nat → Option Bool) (cn : Nat → Str) (i : Nat) (ms : MS) (c : Nat) (e : En) (S : Store) : RS := match ct c with
  | some true => (match ms (e.set i (some (.exc (cn c)))) S with
    | .next e2 S2 => .next (e2.set i none) S2
    | .ret d S2 => .ret d S2
    | .brk e2 S2 => .brk (e2.set i none) S2
    | .cont e2 S2 => .cont (e2.set i none) S2
    | .err _ _ _ => .bad
    | .bad => .bad)
  | some false => .err c e S
  | none => .bad
def sTry (mb : MS) (ct : Nat → Option Bool) (cn : Nat → Str) (i : Nat) (ms : MS) : MS := fun env S => match mb env S with
  | .err c e S' => hTry ct cn i ms c e S'
  | r => r
theorem RelE.unset {K : PySem.W.Frag} {G : Addr → Prop} {ρ : List Addr} {H : Hp} {env : En} {σ : L2.St} (r : RelE K G ρ H env σ) (i : Nat) : RelE K G ρ H (env.set i none) (σ.set i none) := by
  refine ⟨by rw [List.length_set, List.length_set]; exact r.len, fun j d e => ?_⟩
  by_cases hj : i = j
  · subst hj
    by_cases hl : i < env.length
    · rw [List.getElem?_set_self hl] at e; cases e
    · rw [List.getElem?_eq_none (by rw [List.length_set]; omega)] at e; cases e
  · rw [List.getElem?_set_ne hj] at e ⊢
    exact r.get j d e
section
variable {X : Cx} {cA : Nat → Addr} {Wout : WX}
def wTry (K : PySem.W.Frag) (cA : Nat → Addr) (Wout : WX) (ct : Nat → Option Bool) (cn : Nat → Str) (i : Nat) (ms : MS) (D : L2.Ends) : WX := fun cls d σ H =>
  ∃ c e S G ρ, cls = .ref (cA c) ∧ d = none ∧ RelE K G ρ H e σ ∧ RelS K G ρ S H ∧ OkS K cA Wout G ρ H D (hTry ct cn i ms c e S)
def goneE (i : Nat) (D : L2.Ends) : L2.Ends := { nx := fun σ H => D.nx (σ.set i none) H, rt := D.rt, bk := fun σ H => D.bk (σ.set i none) H, ct := fun σ H => D.ct (σ.set i none) H }
theorem inv_hand {pins : List (Addr × Obj)} {σ : L2.St} {H : Hp} {s : Shared} (I : Inv X pins σ H s) (a : Addr) : Inv (X.suite a (X.pn ++ pins)) [] σ H s :=
  ⟨I.ok.suite _ _, I.os, I.bare, I.base, I.loc, I.cell, I.free, I.freeC, fun p hp => I.pin p (by rwa [List.append_nil] at hp), I.hok, I.len⟩
theorem inv_back {pins pn' : List (Addr × Obj)} {σ : L2.St} {H : Hp} {s : Shared} {a : Addr} (ok : X.Ok) (I : Inv (X.suite a (X.pn ++ pins)) pn' σ H s) : Inv X pins σ H s :=
  ⟨ok, I.os, I.bare, I.base, I.loc, I.cell, I.free, I.freeC, fun q hq => I.pin q (List.mem_append_left _ hq), I.hok, I.len⟩
theorem js_try {x n : Str} {cv : Value} {i : Nat} {body suite : List Stmt} {b₀ : Stmt} {np pos pos' : Pos} {mb ms : MS} {ct : Nat → Option Bool} {cn : Nat → Str} (hs : X.stack = X.env :: X.outer) (hf : X.env.frame = some X.env.locals) (hN : X.N.Nodup) (hi : X.N[i]? = some n) (hln : X.env.kindOf n = some .local) (hc : Names X x cv) (tk : Takes X Wout)
    (hx : ∀ c b, ct c = some b → PySem.W.exmOne X.K (.ref (cA c)) cv = some b) (hn : ∀ c, ct c = some true → PySem.W.nsIn X.K mainGlobals (cn c) = some (some (.ref (cA c))))
    (hb : ∀ (W : WX) (pn : List (Addr × Obj)) (xe : Value → Shared → Prop), Takes (X.tr pn xe) W → PassesOwn (model X.prog X.w) X.A X.env xe → PSs (X.tr pn xe) body (tS X.K cA W mb))
    (hsu : ∀ (a : Addr) (pn : List (Addr × Obj)), PSs (X.suite a pn) (b₀ :: suite) (tS X.K cA (fun _ _ _ _ => False) ms)) :
    PS X (.Try body [.ExceptHandler (some (.Name x np)) (some n) (b₀ :: suite) pos'] [] [] pos) (tS X.K cA Wout (sTry mb ct cn i ms)) := by
  refine ⟨fun pins s σ H D I hpre => ?_⟩
  have ok := I.ok
  have frm : X.A.frames = some (X.env :: X.outer) := by rw [ok.frames, hs]
  have isl : Loc X.env.scope n := .inl hln
  -- the body's own reading
  have hbody : tS X.K cA (wTry X.K cA Wout ct cn i ms D) mb D σ H := by
    obtain ⟨G, ρ, env, S, hE, hS, q⟩ := hpre
    refine ⟨G, ρ, env, S, hE, hS, ?_⟩
    unfold sTry at q
    cases hm : mb env S with
    | err c e S' =>
      rw [hm] at q
      exact fun σ' ρ' H' r1 r2 k => ⟨c, e, S', G, ρ', rfl, rfl, r1, r2, q.keep k⟩
    | next e S' => rw [hm] at q; exact q
    | ret d S' => rw [hm] at q; exact q
    | brk e S' => rw [hm] at q; exact q
    | cont e S' => rw [hm] at q; exact q
    | bad => rw [hm] at q; exact q
  refine wpAny_Try_except ?_
  refine wpAny_mono ((hb (wTry X.K cA Wout ct cn i ms D) (X.pn ++ pins) (fun e s₁ => wpAny (model X.prog X.w) X.A (noteFrame e X.env) (fun _ s₂ => wpAny (model X.prog X.w) X.A (setFlight e none) (fun _ s₃ =>
    wpAny (model X.prog X.w) X.A (handleBy e X.env [.ExceptHandler (some (.Name x np)) (some n) (b₀ :: suite) pos']) (SP X pins D) X.xe s₃) X.xe s₂) X.xe s₁) (fun u s' air => ?_) PassesOwn.looking).run [] s σ H D (I.toTry _) hbody) (fun f s1 fin => ?_) (fun _ _ z => z)
  · obtain ⟨a, B, sI, pins', σ', H', cls, d, rfl, J0, nb, up, sky, na, os, ag, c, e, S, G, ρ, rfl, rfl, rE, rS, okh⟩ := air
    have J : Inv X pins σ' H' sI := J0.ofTry ok
    have skyX : Sky B (X.env :: X.outer) a (Zc (.ref (cA c)) none) X.env.locals s'.heap := by rw [← hs]; exact sky
    show wpAny (model X.prog X.w) X.A (noteFrame (.ref a) X.env) _ X.xe s'
    refine Sky.land Zc.steady frm hf skyX fun h1 fl1 up1 => ?_
    have J1 : Inv X pins σ' H' { s' with heap := h1 } := J.landed nb fl1.1 (up.trans up1) os ag
    obtain ⟨oe1, vs1, at1, zc1, fd1⟩ := fl1.there
    have notF : a ∉ frs (X.env :: X.outer) := fun hm => by
      obtain ⟨_, o', e', hnf⟩ := fl1.2.2.1.mem hm
      rw [at1] at e'; cases e'
      exact hnf _ fd1
    cases hct : ct c with
    | none => unfold hTry at okh; rw [hct] at okh; exact okh.elim
    | some b =>
      have hmt := hx c b hct
      have S1 := inv_hand J1 a
      refine wpAny_handleBy_cons (codeAny_handlers_test ?_) (by intro z; cases z)
      have lookT : PySem.W.Looks (model X.prog X.w) h1 (typeOf (.ref a)) (.ref (cA c)) := fun A Q E s k q => wpAny_typeOf_ref (k _ _ at1) (by rw [zc1.1]; exact q)
      have lookM := PySem.W.exm_one (M := model X.prog X.w) (J1.kIn) lookT hmt
      have named : ∀ {Q : Value → Shared → Prop} {E : Value → Shared → Prop}, Q cv { s' with heap := h1 } → wpAny (model X.prog X.w) (X.A.mark (some (.ref a))) (eval (.Name x np) X.env) Q E { s' with heap := h1 } := fun {Q E} q => by
        obtain ⟨hg, hdb, hm | ⟨hm, hv, hnn⟩⟩ := hc
        · exact ld_glob (X := X.suite a (X.pn ++ pins)) S1 hg hm q hdb
        · exact ld_blt (X := X.suite a (X.pn ++ pins)) S1 hg hm hv q hnn hdb
      refine named (lookM.here ?_)
      cases b with
      | true =>
        refine codeAny_handlers_suite_as (HandSPX.lands_againZ fl1 fun h2 fl2 up2 => ?_)
        obtain ⟨oe2, vs2, at2, zc2, fd2⟩ := fl2.there
        have noI : sI.heap.get? a = none := by
          cases q : sI.heap.get? a with
          | none => rfl
          | some o =>
            have z := nb a o q (by rw [hs]; exact notF)
            rw [fl2.2.1] at z
            cases z
        obtain ⟨Gh, g1, g2⟩ := restrict h2 fun b => decide (b ≠ a)
        have ga : Gh.get? a = none := g2 a (decide_eq_false fun z => z rfl)
        have gn : ∀ b, b ≠ a → Gh.get? b = h2.get? b := fun b hb => g1 b (decide_eq_true hb)
        have JG : Inv X pins σ' H' { s' with heap := Gh } := J.landed nb
          (fun b o q => by
            have hb : b ≠ a := fun z => by rw [z, fl2.2.1] at q; cases q
            show Gh.get? b = some o
            rw [gn b hb]
            exact fl2.1 b o q)
          (fun b o q hd => by
            have hb : b ≠ a := fun z => by rw [z, noI] at q; cases q
            obtain ⟨sl, z⟩ := ((up.trans up1).trans up2) b o q hd
            exact ⟨sl, by show Gh.get? b = _; rw [gn b hb]; exact z⟩) os ag
        have J2 : Inv X pins σ' (upd H' a (.frz oe2 (.ext fun _ => True))) { s' with heap := h2 } := JG.laidN (h' := h2) (t' := s'.toks) (fun b u q => by
            have hb : b ≠ a := fun z => by rw [z] at q; rw [show Gh.get? a = some u from q] at ga; cases ga
            rw [← gn b hb]; exact q) ga na ⟨at2, trivial, ⟨_, at2⟩, fun _ _ _ _ => trivial⟩
        have S2 := inv_hand J2 a
        refine store_ok (X := X.suite a (X.pn ++ pins)) (v := .ref a) S2 hN hi isl rfl (fun s3 S3 => ?_) (.inr hln)
        have k2 : Keep G ρ H' ρ (upd H' a (.frz oe2 (.ext fun _ => True))) := Keep.new na rS.gt
        have run : tS X.K cA (fun _ _ _ _ => False) ms (goneE i D) (σ'.set i (some (.ref a))) (upd H' a (.frz oe2 (.ext fun _ => True))) := by
          refine ⟨G, ρ, e.set i (some (.exc (cn c))), S, (rE.keep k2).set (ExV.mk (hn c hct) ⟨oe2, _, upd_same, zc2, vs2, fd2⟩), rS.new na, ?_⟩
          unfold hTry at okh
          rw [hct] at okh
          dsimp only at okh
          cases hm : ms (e.set i (some (.exc (cn c)))) S with
          | next e2 S2 => rw [hm] at okh; exact fun σ3 ρ3 H3 r1 r2 k3 => okh _ ρ3 H3 (r1.unset i) r2 (k2.trans k3)
          | ret d S2 => rw [hm] at okh; exact fun v ρ3 H3 r1 r2 k3 => okh v ρ3 H3 r1 r2 (k2.trans k3)
          | brk e2 S2 => rw [hm] at okh; exact fun σ3 ρ3 H3 r1 r2 k3 => okh _ ρ3 H3 (r1.unset i) r2 (k2.trans k3)
          | cont e2 S2 => rw [hm] at okh; exact fun σ3 ρ3 H3 r1 r2 k3 => okh _ ρ3 H3 (r1.unset i) r2 (k2.trans k3)
          | err c' e2 S2 => rw [hm] at okh; exact okh.elim
          | bad => rw [hm] at okh; exact okh.elim
        refine wpAny_mono ((hsu a (X.pn ++ pins)).run [] s3 _ _ _ S3 run) (fun f s4 fin => ?_) (fun _ _ z => False.elim z)
        have endS : ∀ {σ6 : L2.St} {H6 : Hp} {Q : Shared → Prop}, Inv (X.suite a (X.pn ++ pins)) [] σ6 H6 s4 → (∀ s7, Inv X pins (σ6.set i none) H6 s7 → Q s7) →
            wpAny (model X.prog X.w) X.A (do bindName X.env n .none; unbindBehindTheSuite X.env n pos') (fun _ s7 => Q s7) X.xe s4 := fun {σ6 H6 Q} S6 hq => gone_ok (inv_back ok S6) hN hi hln hq
        cases f with
        | next => obtain ⟨σ6, H6, S6, q6⟩ := fin; exact endS S6 fun s7 J7 => ⟨_, _, J7, q6⟩
        | brk => obtain ⟨σ6, H6, S6, q6⟩ := fin; exact endS S6 fun s7 J7 => ⟨_, _, J7, q6⟩
        | cont => obtain ⟨σ6, H6, S6, q6⟩ := fin; exact endS S6 fun s7 J7 => ⟨_, _, J7, q6⟩
        | ret u => obtain ⟨v6, σ6, H6, S6, r6, q6⟩ := fin; exact endS S6 fun s7 J7 => ⟨_, _, _, J7, r6, q6⟩
      | false =>
        show wpAny _ X.A (handleBy (.ref a) X.env []) _ X.xe _
        refine wpAny_handleBy_nil (E := X.xe) ?_
        obtain ⟨k1, k2, k3, oe, vs, Tb, oT, ts', he, hz, hd, ht1, hr⟩ := id fl1
        unfold PySem.passOn
        refine wpAny_bind (wpAny_field he hd ht1 ?_)
        rw [if_neg (show ¬ ((Value.ref Tb == Value.none) = true) from by simp)]
        have hW : Wout (.ref (cA c)) none σ' H' := by
          unfold hTry at okh
          rw [hct] at okh
          exact okh σ' ρ H' rE rS Keep.refl
        have again : wpAny (model X.prog X.w) X.A (setFlight (.ref a) X.env.frame) (fun _ s4 => wpAny (model X.prog X.w) X.A (throw (.ref a) : Sem Flow) (SP X pins D) X.xe s4) X.xe { s' with heap := h1 } := by
          rw [hf]
          refine HandSPX.setFlight_upZ fl1 fun h4 hh4 up4 => wpAny_throw (tk _ _ ?_)
          exact ⟨a, B, sI, pins, σ', H', _, none, rfl, J, nb, (up.trans up1).trans up4, .inr (.inr (by rw [hs]; exact hh4)), na, os, ag, hW⟩
        first
          | exact wpAny_bind (wpAny_pure (wpAny_bind again))
          | exact wpAny_bind again
  · cases f with
    | next => obtain ⟨σ', H', J', q⟩ := fin; exact wpAny_execs_nil ⟨σ', H', J'.ofTry ok, q⟩
    | brk => obtain ⟨σ', H', J', q⟩ := fin; exact ⟨σ', H', J'.ofTry ok, q⟩
    | cont => obtain ⟨σ', H', J', q⟩ := fin; exact ⟨σ', H', J'.ofTry ok, q⟩
    | ret u => obtain ⟨v, σ', H', J', r, q⟩ := fin; exact ⟨v, σ', H', J'.ofTry ok, r, q⟩
end
def TyE (K : PySem.W.Frag) (H : Hp) (v : V) (t : Value) : Prop := TyX K H v t ∨ ∃ a C, v = .ref a ∧ t = .ref C ∧ ExAt H a C ∧ ExcC K C
def rIsX (K : PySem.W.Frag) : List V → Hp → VK → Prop := fun xs H Q => ∃ (v w : V) (t : Value) (b : Bool), xs = [v, w] ∧ TyE K H v t ∧ ((∃ u, ClsV w u ∧ PySem.W.kitOne K t u = some b) ∨ ∃ tp cs us, w = .ref tp ∧ Rd H tp (.tup cs) ∧ Paired ClsV cs us ∧ PySem.W.kitAny K t us = some b) ∧ Q (.bl b) H
section
variable {X : Cx}
theorem kit_e {pins : List (Addr × Obj)} {σ : L2.St} {H : Hp} {s : Shared} {x : V} {u t : Value} (I : Inv X pins σ H s) (rx : RelV x u) (ty : TyE X.K H x t) : ∃ P : Heap → Prop, PySem.W.KitX X.K u t P ∧ P s.heap ∧ u ≠ .builtin "__main__.__loader__#opaque" := by
  rcases ty with ty | ⟨a, C, rfl, rfl, ⟨oe, φ, hH, hz, vs, hv⟩, E⟩
  · exact kit_of I rx ty
  · cases (show u = Value.ref a from rx)
    have hget : s.heap.get? a = some oe := (show ObjOk X.prog X.w H s.heap a (.frz oe (.ext φ)) from I.hok a _ hH).1
    have J : PySem.W.InstAt s.heap a oe C none := by
      obtain ⟨o1, o2, o3, o4⟩ := oe
      obtain ⟨z1, z2⟩ := hz
      dsimp only at z1 z2 hv
      subst z1 z2 hv
      exact ⟨hget, rfl, rfl, True.intro⟩
    exact ⟨_, PySem.W.handS_kitx_exc E.hg E.hk E.hs E.hd E.ha E.hn E.ht E.hm, J, fun z => nomatch z⟩
theorem call_isX : CallR X (.builtin "isinstance") (rIsX X.K) := by
  intro pins s σ H xs us Q I r ⟨v, w, t, b, e, ty, k, q⟩
  subst e
  obtain ⟨x1, x2, rfl, r1, r2⟩ := vals2 r
  obtain ⟨P, Z, p, hx⟩ := kit_e I r1 ty
  rcases k with ⟨u, k, e⟩ | ⟨tp, cs, ws, rfl, hT, k, e⟩
  · have e2 := k.eq r2
    subst e2
    exact PySem.W.kia_one Z I.kIn p e hx fun t' => ⟨.bl b, H, I.tok t', rfl, q⟩
  · cases (show x2 = Value.ref tp from r2)
    obtain ⟨_, its, rv, o, h1, h2, n, h3⟩ := rd_of I.hok hT
    have e3 := ClsV.all k rv
    subst e3
    obtain ⟨o1, o2, o3, o4⟩ := o
    simp only at h2 h3
    subst h2 h3
    exact PySem.W.kia_tup Z I.kIn p h1 e hx fun t' => ⟨.bl b, H, I.tok t', rfl, q⟩
end
structure IsX (K : PySem.W.Frag) (tab : Str → Str → Option Bool) (tb : Str → String → Option Bool) (no : Str → Bool) : Prop where
  own : ∀ x y b C1 C2, tab x y = some b → PySem.W.nsIn K mainGlobals x = some (some (.ref C1)) → PySem.W.nsIn K mainGlobals y = some (some (.ref C2)) → ExcC K C1 ∧ PySem.W.kitOne K (.ref C1) (.ref C2) = some b
  blt : ∀ x T b C1, tb x T = some b → PySem.W.nsIn K mainGlobals x = some (some (.ref C1)) → ExcC K C1 ∧ PySem.W.kitOne K (.ref C1) (.type T) = some b
  non : ∀ y C2, no y = true → PySem.W.nsIn K mainGlobals y = some (some (.ref C2)) → PySem.W.kitOne K (.type "NoneType") (.ref C2) = some false
def isiN : String → Option Bool
  | "ValueError" => some false
  | "CrossError" => none
  | T => isiT "NoneType" T
theorem isiN_ok {b : String} {r : Bool} (h : isiN b = some r) : kitB "NoneType" b = some r := by
  unfold isiN at h
  split at h
  · cases h; decide +kernel
  · cases h
  · exact isiT_ok h
def isX (tab : Str → Str → Option Bool) (tb : Str → String → Option Bool) (no : Str → Bool) (d c : D) : Option Bool := match c with
  | .cl y => (match d with
    | .exc x => tab x y
    | .non => if no y = true then some false else none
    | _ => none)
  | .ty T => (match d with
    | .exc x => tb x T
    | .non => isiN T
    | _ => (match tyN d with
      | some a => isiT a T
      | none => none))
  | _ => none
def anyX (f : D → Option Bool) : List D → Option Bool
  | [] => some false
  | c :: cs => match f c with
    | some true => some true
    | some false => anyX f cs
    | none => none
def isQ (f : D → D → Option Bool) (d c : D) : Option Bool := match c with
  | .tup (c :: cs) => if (c :: cs).all (fun c => (f d c).isSome) = true then anyX (f d) (c :: cs) else none
  | _ => f d c
def dIsX (f : D → D → Option Bool) (ds : List D) (S : Store) : Res D := match ds with
  | [d, c] => (match isQ f d c with
    | some b => .ok (.bl b) S
    | none => .bad)
  | _ => .bad
section
variable {K : PySem.W.Frag} {G : Addr → Prop} {ρ : List Addr} {H : Hp} {tab : Str → Str → Option Bool} {tb : Str → String → Option Bool} {no : Str → Bool}
theorem isX_one (hX : IsX K tab tb no) {d : D} {v : V} (rd : Rep K G ρ H d v) : ∃ t, ∀ (c : D) (w : V) (b : Bool), Rep K G ρ H c w → isX tab tb no d c = some b → TyE K H v t ∧ ∃ u, ClsV w u ∧ PySem.W.kitOne K t u = some b := by
  have other : ∀ a, tyN d = some a → (∀ c, isX tab tb no d c = (match c with | .ty T => isiT a T | _ => none)) → ∃ t, ∀ (c : D) (w : V) (b : Bool), Rep K G ρ H c w → isX tab tb no d c = some b → TyE K H v t ∧ ∃ u, ClsV w u ∧ PySem.W.kitOne K t u = some b := fun a ea hh =>
    ⟨.type a, fun c w b rc e => by
      rw [hh] at e
      cases c with
      | ty T =>
        cases (show w = .ty T from rc)
        exact ⟨.inl (tyN_ok rd ea), _, .ty T, kit_ty (isiT_ok e)⟩
      | _ => cases e⟩
  cases d with
  | exc x =>
    obtain ⟨a, C, rfl, hC, hA⟩ := ExV.ex rd
    refine ⟨.ref C, fun c w b rc e => ?_⟩
    cases c with
    | cl y =>
      obtain ⟨C2, rfl, h2⟩ := ClV.ex rc
      obtain ⟨q1, q2⟩ := hX.own x y b C C2 e hC h2
      exact ⟨.inr ⟨a, C, rfl, rfl, hA, q1⟩, _, .own C2, q2⟩
    | ty T =>
      cases (show w = .ty T from rc)
      obtain ⟨q1, q2⟩ := hX.blt x T b C e hC
      exact ⟨.inr ⟨a, C, rfl, rfl, hA, q1⟩, _, .ty T, q2⟩
    | _ => cases e
  | non =>
    refine ⟨.type "NoneType", fun c w b rc e => ?_⟩
    cases c with
    | cl y =>
      obtain ⟨C2, rfl, h2⟩ := ClV.ex rc
      unfold isX at e
      dsimp only at e
      by_cases hn : no y = true
      · rw [if_pos hn] at e
        cases e
        exact ⟨.inl (tyN_ok rd rfl), _, .own C2, hX.non y C2 hn h2⟩
      · rw [if_neg hn] at e; cases e
    | ty T =>
      cases (show w = .ty T from rc)
      exact ⟨.inl (tyN_ok rd rfl), _, .ty T, kit_ty (isiN_ok e)⟩
    | _ => cases e
  | bl x => exact other "bool" rfl fun c => by cases c <;> rfl
  | int x => exact other "int" rfl fun c => by cases c <;> rfl
  | str x => exact other "str" rfl fun c => by cases c <;> rfl
  | tup x => exact other "tuple" rfl fun c => by cases c <;> rfl
  | lst x => exact other "list" rfl fun c => by cases c <;> rfl
  | fz x => exact other "list" rfl fun c => by cases c <;> rfl
  | ty x => exact ⟨.none, fun c w b _ e => by cases c <;> cases e⟩
  | cell x => exact ⟨.none, fun c w b _ e => by cases c <;> cases e⟩
  | cl x => exact ⟨.none, fun c w b _ e => by cases c <;> cases e⟩
  | dct _ _ _ => exact ⟨.none, fun c w b _ e => by cases c <;> cases e⟩
theorem isX_any {d : D} {v : V} {t : Value} (f : D → Option Bool) (h1 : ∀ (c : D) (w : V) (b : Bool), Rep K G ρ H c w → f c = some b → TyE K H v t ∧ ∃ u, ClsV w u ∧ PySem.W.kitOne K t u = some b) : ∀ (cs : List D) (ws : List V) (b : Bool), RepL K G ρ H cs ws → cs.all (fun c => (f c).isSome) = true → anyX f cs = some b → ∃ us, Paired ClsV ws us ∧ PySem.W.kitAny K t us = some b
  | [], ws, b, r, _, e => by
    cases (show ws = [] from r)
    cases e
    exact ⟨[], .nil, rfl⟩
  | c :: cs, ws, b, r, hs, e => by
    obtain ⟨w, ws', rfl, r1, r2⟩ := r
    rw [List.all_cons, Bool.and_eq_true] at hs
    obtain ⟨b1, hb1⟩ := Option.isSome_iff_exists.mp hs.1
    obtain ⟨_, u, k1, k2⟩ := h1 c w b1 r1 hb1
    have tail : ∀ b2, anyX f cs = some b2 → ∃ us, Paired ClsV ws' us ∧ PySem.W.kitAny K t us = some b2 := fun b2 e2 => isX_any (d := d) f h1 cs ws' b2 r2 hs.2 e2
    unfold anyX at e
    rw [hb1] at e
    cases b1 with
    | true =>
      dsimp only at e
      cases e
      have all : ∀ (cs : List D) (ws : List V), RepL K G ρ H cs ws → cs.all (fun c => (f c).isSome) = true → ∃ us, Paired ClsV ws us := by
        intro cs
        induction cs with
        | nil => intro ws r _; cases (show ws = [] from r); exact ⟨[], .nil⟩
        | cons c cs ih =>
          intro ws r hs
          obtain ⟨w, ws', rfl, r1, r2⟩ := r
          rw [List.all_cons, Bool.and_eq_true] at hs
          obtain ⟨b1, hb1⟩ := Option.isSome_iff_exists.mp hs.1
          obtain ⟨_, u, k1, _⟩ := h1 c w b1 r1 hb1
          obtain ⟨us, k⟩ := ih ws' r2 hs.2
          exact ⟨u :: us, .cons k1 k⟩
      obtain ⟨us, k3⟩ := all cs ws' r2 hs.2
      refine ⟨u :: us, .cons k1 k3, ?_⟩
      unfold PySem.W.kitAny
      rw [k2]
    | false =>
      dsimp only at e
      obtain ⟨us, k3, k4⟩ := tail b e
      refine ⟨u :: us, .cons k1 k3, ?_⟩
      unfold PySem.W.kitAny
      rw [k2]
      exact k4
end
theorem cd_isX {K : PySem.W.Frag} {tab : Str → Str → Option Bool} {tb : Str → String → Option Bool} {no : Str → Bool} (hX : IsX K tab tb no) : CallD K (rIsX K) (dIsX (isX tab tb no)) := by
  intro G ρ H S ds vs E Q r x h
  unfold dIsX at h
  split at h
  · rename_i d c
    obtain ⟨v, _, rfl, q1, w, _, rfl, q2, rfl⟩ := x
    obtain ⟨t, ht⟩ := isX_one hX q1
    cases e : isQ (isX tab tb no) d c with
    | none => rw [e] at h; exact h.elim
    | some b =>
      rw [e] at h
      unfold isQ at e
      split at e
      · rename_i c cs
        by_cases e1 : (c :: cs).all (fun c => (isX tab tb no d c).isSome) = true
        · rw [if_pos e1] at e
          obtain ⟨tp, ws, rfl, hT, hL⟩ := q2
          obtain ⟨us, k1, k2⟩ := isX_any (d := d) (isX tab tb no d) ht (c :: cs) ws b hL e1 e
          refine ⟨v, .ref tp, t, b, rfl, ?_, .inr ⟨tp, ws, us, rfl, hT, k1, k2⟩, h.now r rfl⟩
          obtain ⟨w, ws', rfl, r1, r2⟩ := hL
          rw [List.all_cons, Bool.and_eq_true] at e1
          obtain ⟨b1, hb1⟩ := Option.isSome_iff_exists.mp e1.1
          exact (ht c w b1 r1 hb1).1
        · rw [if_neg e1] at e; cases e
      · obtain ⟨k1, u, k2, k3⟩ := ht _ w b q2 e
        exact ⟨v, w, t, b, rfl, k1, .inl ⟨u, k2, k3⟩, h.now r rfl⟩
  · exact h.elim
section
variable {B : Bs} {sl : List Sl} {α σ ρ : Type} {t : α → D}
def yX (cn : Nat → Str) : Nat → D := fun c => .exc (cn c)
def yK (d : D) : Unit → D := fun _ => d
theorem ends_rs (c : Nat) : Ends (sRaise c) := fun env S e' S' h => by cases h
theorem xb_raise {P : ρ → D → Store → Prop} (c : Nat) : XB B sl (sRaise c) P (.err c) := fun env S r => ⟨env, S, rfl, r.frm⟩
theorem xl_raise {E : σ → List Sl} {P : ρ → D → Store → Prop} (c : Nat) : XL B sl (sRaise c) E P (.err c) := fun env S r => ⟨env, S, rfl, r.frm⟩
def R.noE : R α → R α
  | .ok a => .ok a
  | _ => .bad
def tryR (ct : Nat → Option Bool) (f : R α) (g : α → R σ) (fs : Nat → R σ) : R σ := match f with
  | .ok a => g a
  | .err c => (match ct c with
    | some true => (fs c).noE
    | some false => .err c
    | none => .bad)
  | .bad => .bad
theorem SRel.unset {env : En} {S : Store} {i : Nat} (r : SRel B sl env S) (h : sl[i]? = some .u) : SRel B sl (env.set i none) S := by
  have nth : ∀ (j : Nat) (s : Sl) (o : Option D), sl[j]? = some s → (env.set i none)[j]? = some o → (j = i ∧ s = .u ∧ o = none) ∨ (j ≠ i ∧ env[j]? = some o) := fun j s o h1 h2 => by
    by_cases e : i = j
    · subst e
      have hl : i < env.length := by
        have := (List.getElem?_eq_some_iff.mp h2).1
        rwa [List.length_set] at this
      rw [List.getElem?_set_self hl] at h2
      rw [h] at h1
      cases h1
      cases h2
      exact .inl ⟨rfl, rfl, rfl⟩
    · rw [List.getElem?_set_ne e] at h2
      exact .inr ⟨fun z => e z.symm, h2⟩
  refine ⟨by rw [List.length_set]; exact r.len, fun j s o h1 h2 => ?_, fun j k s s' o o' hjk h1 h2 h3 h4 x hx => ?_, fun j s o h1 h2 x hx => ?_, r.frm⟩
  · rcases nth j s o h1 h2 with ⟨_, rfl, rfl⟩ | ⟨_, h5⟩
    · trivial
    · exact r.at_ j s o h1 h5
  · rcases nth j s o h1 h2 with ⟨_, rfl, rfl⟩ | ⟨_, h5⟩
    · cases hx
    · rcases nth k s' o' h3 h4 with ⟨_, rfl, rfl⟩ | ⟨_, h6⟩
      · intro z; cases z
      · exact r.dis j k s s' o o' hjk h1 h5 h3 h6 x hx
  · rcases nth j s o h1 h2 with ⟨_, rfl, rfl⟩ | ⟨_, h5⟩
    · cases hx
    · exact r.own j s o h1 h5 x hx
theorem xn_try0 {E : σ → List Sl} {mb ms : MS} {ct : Nat → Option Bool} {cn : Nat → Str} {f : R α} {g : α → R σ} {fs : Nat → R σ} (i : Nat) (hb : ∀ env S, SRel B sl env S → (match f with | .ok a => OutN B E (g a) (mb env S) ∧ (∀ c, g a ≠ .err c) | .err c => mb env S = .err c env S | .bad => True)) (hs : ∀ c, XN B (sl.set i (.v (yX cn c))) ms E (fs c)) (hi : ∀ s, (E s)[i]? = some .u) : XN B sl (sTry mb ct cn i ms) E (tryR ct f g fs) := fun env S r => by
  have h := hb env S r
  unfold sTry
  cases f with
  | bad => trivial
  | ok a =>
    obtain ⟨h, hne⟩ := h
    show OutN B E (g a) _
    cases hg : g a with
    | ok s => rw [hg] at h; obtain ⟨e1, S1, q1, q2⟩ := h; rw [q1]; exact ⟨e1, S1, rfl, q2⟩
    | err c => exact absurd hg (hne c)
    | bad => trivial
  | err c =>
    rw [show mb env S = .err c env S from h]
    show OutN B E (match ct c with | some true => (fs c).noE | some false => .err c | none => .bad) (hTry ct cn i ms c env S)
    unfold hTry
    cases hc : ct c with
    | none => trivial
    | some b =>
      cases b with
      | false => exact ⟨env, S, rfl, r.frm⟩
      | true =>
        dsimp only
        have h2 := hs c (env.set i (some (.exc (cn c)))) S (r.set_v i _)
        cases hf : fs c with
        | bad => trivial
        | err c' => trivial
        | ok s =>
          rw [hf] at h2
          obtain ⟨e1, S1, q1, q2⟩ := h2
          rw [q1]
          exact ⟨_, S1, rfl, q2.unset (hi s)⟩
theorem xn_tryA {E : σ → List Sl} {m : M D} {ms : MS} {ct : Nat → Option Bool} {cn : Nat → Str} {f : R α} {fb : α → σ} {fs : Nat → R σ} (j i : Nat) (hm : XE B sl m (vP t) f) (hb : ∀ a, XN B (sl.set j (.v (t a))) sNil E (.ok (fb a))) (hs : ∀ c, XN B (sl.set i (.v (yX cn c))) ms E (fs c)) (hi : ∀ s, (E s)[i]? = some .u) : XN B sl (sTry (sAsg m (pName j)) ct cn i ms) E (tryR ct f (fun a => .ok (fb a)) fs) := by
  refine xn_try0 i (fun env S r => ?_) hs hi
  have h := hm env S r
  unfold sAsg
  cases f with
  | bad => trivial
  | err c => rw [show m env S = _ from h]; rfl
  | ok a =>
    obtain ⟨d, q, rfl⟩ := h
    rw [q]
    exact ⟨hb a _ S (r.set_v j _), fun c z => by cases z⟩
def oR : Option Bool → R Bool
  | some b => .ok b
  | none => .bad
theorem bf_isX (f : D → D → Option Bool) (c : D) : ∀ (a : α) (u : Unit) d e S, vP t a d S → vP (yK c) u e S → Out S (vP yB) (oR (isQ f (t a) c)) (dIsX f [d, e] S) := fun a u d e S h1 h2 => by
  cases h1
  cases h2
  show Out S (vP yB) (oR (isQ f (t a) c)) (match isQ f (t a) c with | some b => Res.ok (.bl b) S | none => .bad)
  cases isQ f (t a) c with
  | none => trivial
  | some b => exact ⟨_, rfl, rfl⟩
theorem xe_clT {ma : M (List D)} (ds : List D) (h : ∀ env S, ma env S = .ok ds S) (hl : ds.length ≤ big) : XE B sl (eTup ma) (vP (yK (.tup ds))) (.ok ()) := fun env S r => by
  refine ⟨.tup ds, ?_, rfl⟩
  unfold eTup
  rw [h env S]
  show (if ds.length ≤ big then Res.ok (D.tup ds) S else .bad) = _
  rw [if_pos hl]
theorem xe_cl (d : D) : XE B sl (eC d) (vP (yK d)) (.ok ()) := fun env S r => ⟨d, rfl, rfl⟩
end
theorem names_own {X : Cx} {x : Str} {C : Addr} (hg : Gl X x) (h : Cls X.K X.mg x C) (hdb : (x == ("__debug__" : Str)) = false := by decide) : Names X x (.ref C) := ⟨hg, hdb, .inl h.gl⟩
def cAK (cn : Nat → Str) (K : PySem.W.Frag) : Nat → Addr := fun c => match PySem.W.nsIn K mainGlobals (cn c) with
  | some (some (.ref C)) => C
  | _ => 0
theorem cAK_at {cn : Nat → Str} {K : PySem.W.Frag} {c : Nat} {C : Addr} (h : PySem.W.nsIn K mainGlobals (cn c) = some (some (.ref C))) : cAK cn K c = C := by unfold cAK; rw [h]
theorem kit_cl {K : PySem.W.Frag} {t : Value} {C : Addr} {b : Bool} (hd : PySem.W.hasDictIn K C = true) (ht : PySem.W.typeIn K (.ref C) = some (.type "type")) (hs : PySem.W.subIn K t (.ref C) = some b) (hc : PySem.W.subIn K (.ref C) (.ref C) = some true) : PySem.W.kitOne K t (.ref C) = some b := by
  obtain ⟨cd, hcd, _⟩ := PySem.W.any_some hd
  have e2 : ((PySem.W.clsIn K C).isSome && PySem.W.typeIn K (.ref C) == some (.type "type")) = true := by rw [hcd, ht] <;> rfl
  unfold PySem.W.kitOne
  by_cases e : (t == Value.ref C) = true
  · rw [if_pos e]
    rw [beq_iff_eq.mp e, hc] at hs
    exact hs
  · rw [if_neg e]
    show (if ((PySem.W.clsIn K C).isSome && PySem.W.typeIn K (.ref C) == some (.type "type")) = true then PySem.W.subIn K t (.ref C) else none) = some b
    rw [if_pos e2]
    exact hs
theorem kit_ve {K : PySem.W.Frag} {C : Addr} (hs : PySem.W.subIn K (.ref C) (.type "ValueError") = some true) : PySem.W.kitOne K (.ref C) (.type "ValueError") = some true := by
  have e1 : (Value.ref C == Value.type "ValueError") = false := beq_eq_false_iff_ne.mpr fun z => nomatch z
  have e2 : PySem.W.kitMeta "ValueError" = true := by decide +kernel
  unfold PySem.W.kitOne
  rw [e1, if_neg (by decide)]
  show (if PySem.W.kitMeta "ValueError" = true then PySem.W.subIn K (.ref C) (.type "ValueError") else none) = some true
  rw [if_pos e2]
  exact hs
end Rf
namespace Rf
open PySem PySem.Spec PyProof.Rows L2
section
variable {X : Cx} {cA : Nat → Addr} {W : WX}
end
section
variable {B : Bs} {sl : List Sl} {α σ : Type} {t : α → D}
end
end Rf
namespace Rf
open PySem PySem.Spec PyProof.Rows L2
@[irreducible] def sSR (d : D) : R (List (Int × Int)) := match itemsD d with
  | some ds => (match prs ds with
    | some xs => if xs.length < 64 ∧ xs.all inB = true then .ok (sortU xs) else .bad
    | none => .bad)
  | none => .bad
theorem sSR_of {d : D} {ds : List D} {xs : List (Int × Int)} (h0 : itemsD d = some ds) (h1 : prs ds = some xs) (h2 : xs.length < 64) (h3 : xs.all inB = true) : sSR d = .ok (sortU xs) := by
  unfold sSR
  rw [h0]
  dsimp only
  rw [h1]
  exact if_pos ⟨h2, h3⟩
section
variable {B : Bs} {sl : List Sl} {α : Type} {t : α → D}
theorem xe_sS1 {m : M D} {f : R α} {f' : R (List (Int × Int))} (h : XE B sl m (vP t) f) (e : (f.bind fun a => sSR (t a)) = f' := by rfl) : XE B sl (fun env S => (m env S).bind fun d S1 => fSortSet d S1) (vP (lM (yP2 yI yI))) f' := fun env S r => by
  rw [← e]
  refine Out.bind (h env S r) fun a d q => ?_
  cases q
  unfold sSR fSortSet
  cases itemsD (t a) with
  | none => trivial
  | some ds =>
    dsimp only
    cases prs ds with
    | none => trivial
    | some xs =>
      dsimp only
      by_cases c : xs.length < 64 ∧ xs.all inB = true
      · rw [if_pos c, if_pos c]; exact ⟨_, rfl, rfl⟩
      · rw [if_neg c]; trivial
end
end Rf
namespace Rf
open PySem PySem.Spec PyProof.Rows L2
end Rf

namespace Rf
open PySem PySem.Spec PyProof.Rows L2
section
variable {X : Cx} {cA : Nat → Addr} {W : WX}
end
section
variable {B : Bs} {sl : List Sl} {α β σ ρ : Type} {t : α → D} {u : β → D}
end
mutual
def back : PyData → D
  | .int i => .int i
  | .tuple xs => .tup (backL xs)
  | _ => .non
def backL : List PyData → List D
  | [] => []
  | x :: xs => back x :: backL xs
end
end Rf

namespace Rf
open PySem PySem.Spec PyProof.Rows L2
section
variable {K : PySem.W.Frag} {G : Addr → Prop} {ρ : List Addr} {H : Hp}
variable {P : Program} {w : World} {h : Heap}
end
def okK (k : D) : Bool := tupI k && isTup k && decide ((keyN k).depth ≤ 8)
def stV (vs : List DV) (k : NestedKey) (b : Addr) (v : V) : List DV := if (vs.any fun p => decide (p.1.1 = k)) = true then vs.map (fun p => if p.1.1 = k then (p.1, v) else p) else vs ++ [((k, b), v)]
def setKV (kvs : List (D × D)) (k v : D) : List (D × D) := if (kvs.any fun p => decide (keyN p.1 = keyN k)) = true then kvs.map (fun p => if keyN p.1 = keyN k then (p.1, v) else p) else kvs ++ [(k, v)]
section
variable {X : Cx} {pins : List (Addr × Obj)} {σ : L2.St} {H : Hp} {s : Shared}
end
section
variable {X : Cx} {cA : Nat → Addr} {W : WX}
end
section
variable {K : PySem.W.Frag} {G : Addr → Prop} {ρ : List Addr} {H : Hp}
theorem RepKV.length : ∀ {kvs : List (D × D)} {vs : List DV}, RepKV K G ρ H kvs vs → vs.length = kvs.length
  | [], vs, h => by rw [show vs = [] from h]; rfl
  | (k, d) :: r, vs, h => by
    obtain ⟨b, v, vs', rfl, _, _, _, h4⟩ := h
    show vs'.length + 1 = r.length + 1
    rw [RepKV.length h4]
theorem RepKV.any : ∀ {kvs : List (D × D)} {vs : List DV}, RepKV K G ρ H kvs vs → ∀ k, (vs.any fun p => decide (p.1.1 = k)) = kvs.any fun p => decide (keyN p.1 = k)
  | [], vs, h, k => by rw [show vs = [] from h]; rfl
  | (x, d) :: r, vs, h, k => by
    obtain ⟨b, v, vs', rfl, _, _, _, h4⟩ := h
    rw [List.any_cons, List.any_cons, RepKV.any h4 k]
theorem RepKV.put : ∀ {kvs : List (D × D)} {vs : List DV}, RepKV K G ρ H kvs vs → ∀ (k : NestedKey) {d : D} {v : V}, Rep K G ρ H d v → RepKV K G ρ H (kvs.map fun p => if keyN p.1 = k then (p.1, d) else p) (vs.map fun p => if p.1.1 = k then (p.1, v) else p)
  | [], vs, h, _, _, _, _ => by rw [show vs = [] from h]; rfl
  | (x, e) :: r, vs, h, k, d, v, hd => by
    obtain ⟨b, u, vs', rfl, h1, h2, h3, h4⟩ := h
    rw [List.map_cons, List.map_cons]
    by_cases c : keyN x = k
    · rw [if_pos c, if_pos c]; exact ⟨b, v, _, rfl, h1, h2, hd, RepKV.put h4 k hd⟩
    · rw [if_neg c, if_neg c]; exact ⟨b, u, _, rfl, h1, h2, h3, RepKV.put h4 k hd⟩
theorem RepKV.snoc : ∀ {kvs : List (D × D)} {vs : List DV} {k d : D} {b : Addr} {v : V}, RepKV K G ρ H kvs vs → tupI k = true → Rep K G ρ H k (.ref b) → Rep K G ρ H d v → RepKV K G ρ H (kvs ++ [(k, d)]) (vs ++ [((keyN k, b), v)])
  | [], vs, k, d, b, v, h, h1, h2, h3 => by rw [show vs = [] from h]; exact ⟨b, v, [], rfl, h1, h2, h3, rfl⟩
  | (x, e) :: r, vs, k, d, b, v, h, h1, h2, h3 => by
    obtain ⟨c, u, vs', rfl, q1, q2, q3, q4⟩ := h
    exact ⟨c, u, _, rfl, q1, q2, q3, RepKV.snoc q4 h1 h2 h3⟩
theorem RepKV.st {kvs : List (D × D)} {vs : List DV} {k d : D} {b : Addr} {v : V} (h : RepKV K G ρ H kvs vs) (h1 : tupI k = true) (h2 : Rep K G ρ H k (.ref b)) (h3 : Rep K G ρ H d v) : RepKV K G ρ H (setKV kvs k d) (stV vs (keyN k) b v) := by
  unfold setKV stV
  rw [h.any]
  by_cases c : (kvs.any fun p => decide (keyN p.1 = keyN k)) = true
  · rw [if_pos c, if_pos c]; exact h.put _ h3
  · rw [if_neg c, if_neg c]; exact h.snoc h1 h2 h3
end
end Rf


namespace PySem.W
open PySem PySem.Calls PyProof.Rows
section
variable {prog : Program} {w : World} {A : Around} {E : Value → Shared → Prop} {s : Shared} {β : Type} {R : Value → β → Prop} {enc : β → PyData} {bs : List β}
end
end PySem.W
namespace Rf
open PySem PySem.Spec PyProof.Rows L2
open PySem.W (EachIs AllAlike alike dataLe)
section
variable {X : Cx}
end
end Rf

namespace Rf
open PySem PySem.Spec PyProof.Rows L2
class TKy {α : Type} (t : α → D) : Prop where
  ok : ∀ a, okK (t a) = true
instance : TKy (yP2 yI yI) := ⟨fun a => rfl⟩
instance : TKy (yP3 yI yI yI) := ⟨fun a => rfl⟩
instance : TKy (yP4 yI yI yI yI) := ⟨fun a => rfl⟩
instance : TKy (yP2 (yP2 yI yI) (yP2 yI yI)) := ⟨fun a => rfl⟩
section
variable {α β σ : Type} {t : α → D} {u : β → D} {B : Bs} {sl : List Sl} [DecidableEq α]
end
section
variable {B : Bs} {sl : List Sl} {σ : Type}
end
end Rf

namespace Rf
open PySem PySem.Spec PyProof.Rows L2
instance : TKy (yP2 (yP2 yI yI) yI) := ⟨fun a => rfl⟩
instance : TKy (yP1 yI) := ⟨fun a => rfl⟩
instance : TKy (yP3 (yP2 yI yI) (yP2 yI yI) yI) := ⟨fun a => rfl⟩
instance : TKy (yP2 yI (yP2 yI yI)) := ⟨fun a => rfl⟩
section
variable {X : Cx} {o e : Expr} {es : List Expr} {to : TE} {t : TA} {name : Str} {apos cpos : Pos} {id : String} {r : V → List V → Hp → VK → Prop}
end
section
variable {X : Cx} {cA : Nat → Addr} {W : WX}
end
def atV (vs : List DV) (k : NestedKey) : Option V := (vs.find? fun p => decide (p.1.1 = k)).map (·.2)
def getKV (kvs : List (D × D)) (k : D) : Option D := (kvs.find? fun p => decide (keyN p.1 = keyN k)).map (·.2)
theorem RepKV.at_ {K : PySem.W.Frag} {G : Addr → Prop} {ρ : List Addr} {H : Hp} (k : D) : ∀ {kvs : List (D × D)} {vs : List DV}, RepKV K G ρ H kvs vs → (getKV kvs k = none ∧ atV vs (keyN k) = none) ∨ ∃ d v, getKV kvs k = some d ∧ atV vs (keyN k) = some v ∧ Rep K G ρ H d v
  | [], vs, h => by rw [show vs = [] from h]; exact .inl ⟨rfl, rfl⟩
  | (x, d) :: r, vs, h => by
    obtain ⟨b, v, vs', rfl, h1, h2, h3, h4⟩ := h
    have ih := RepKV.at_ k h4
    unfold getKV atV at *
    rw [List.find?_cons, List.find?_cons]
    dsimp only
    by_cases c : keyN x = keyN k
    · rw [decide_eq_true c]; exact .inr ⟨d, v, rfl, rfl, h3⟩
    · rw [decide_eq_false c]; exact ih
section
variable {α β σ : Type} {t : α → D} {u : β → D} {B : Bs} {sl : List Sl} [DecidableEq α]
end
end Rf

namespace Rf
open PySem PySem.Spec PyProof.Rows L2
def atI' (kvs : List (Int × D)) (k : Int) : Option D := (kvs.find? fun p => decide (p.1 = k)).map (·.2)
def putI (kvs : List (Int × D)) (k : Int) (v : D) : List (Int × D) := if (kvs.any fun p => decide (p.1 = k)) = true then kvs.map (fun p => if p.1 = k then (p.1, v) else p) else kvs ++ [(k, v)]
section
variable {K : PySem.W.Frag} {G : Addr → Prop} {ρ : List Addr} {H : Hp}
theorem inl_dec (a k : Int) : decide ((Sum.inl a : Key) = Sum.inl k) = decide (a = k) := by
  by_cases h : a = k
  · rw [decide_eq_true h, decide_eq_true (by rw [h])]
  · rw [decide_eq_false h, decide_eq_false fun z => h (Sum.inl.inj z)]
theorem RepKI.at_ (k : Int) : ∀ {kvs : List (Int × D)} {vs : List (Key × V)}, RepKI K G ρ H kvs vs → (atI' kvs k = none ∧ valV vs (.inl k) = none) ∨ ∃ d v, atI' kvs k = some d ∧ valV vs (.inl k) = some v ∧ Rep K G ρ H d v
  | [], vs, h => by rw [show vs = [] from h]; exact .inl ⟨rfl, rfl⟩
  | (x, d) :: r, vs, h => by
    obtain ⟨v, vs', rfl, h3, h4⟩ := h
    have ih := RepKI.at_ k h4
    unfold atI' valV at *
    rw [List.find?_cons, List.find?_cons]
    dsimp only
    rw [inl_dec]
    by_cases c : x = k
    · rw [decide_eq_true c]; exact .inr ⟨d, v, rfl, rfl, h3⟩
    · rw [decide_eq_false c]; exact ih
theorem RepKI.length : ∀ {kvs : List (Int × D)} {vs : List (Key × V)}, RepKI K G ρ H kvs vs → vs.length = kvs.length
  | [], vs, h => by rw [show vs = [] from h]; rfl
  | (k, d) :: r, vs, h => by
    obtain ⟨v, vs', rfl, _, h4⟩ := h
    show vs'.length + 1 = r.length + 1
    rw [RepKI.length h4]
theorem RepKI.any : ∀ {kvs : List (Int × D)} {vs : List (Key × V)}, RepKI K G ρ H kvs vs → ∀ k : Int, (vs.any fun p => decide (p.1 = (.inl k : Key))) = kvs.any fun p => decide (p.1 = k)
  | [], vs, h, k => by rw [show vs = [] from h]; rfl
  | (x, d) :: r, vs, h, k => by
    obtain ⟨v, vs', rfl, _, h4⟩ := h
    rw [List.any_cons, List.any_cons, RepKI.any h4 k, inl_dec]
theorem RepKI.map_ : ∀ {kvs : List (Int × D)} {vs : List (Key × V)}, RepKI K G ρ H kvs vs → ∀ (k : Int) {d : D} {v : V}, Rep K G ρ H d v → RepKI K G ρ H (kvs.map fun p => if p.1 = k then (p.1, d) else p) (vs.map fun p => if p.1 = (.inl k : Key) then (p.1, v) else p)
  | [], vs, h, _, _, _, _ => by rw [show vs = [] from h]; rfl
  | (x, e) :: r, vs, h, k, d, v, hd => by
    obtain ⟨u, vs', rfl, h3, h4⟩ := h
    rw [List.map_cons, List.map_cons]
    by_cases c : x = k
    · rw [if_pos c, if_pos (show (Sum.inl x : Key) = .inl k by rw [c])]; exact ⟨v, _, rfl, hd, RepKI.map_ h4 k hd⟩
    · rw [if_neg c, if_neg (show ¬ (Sum.inl x : Key) = .inl k from fun z => c (Sum.inl.inj z))]; exact ⟨u, _, rfl, h3, RepKI.map_ h4 k hd⟩
theorem RepKI.snoc : ∀ {kvs : List (Int × D)} {vs : List (Key × V)} {k : Int} {d : D} {v : V}, RepKI K G ρ H kvs vs → Rep K G ρ H d v → RepKI K G ρ H (kvs ++ [(k, d)]) (vs ++ [(.inl k, v)])
  | [], vs, k, d, v, h, h3 => by rw [show vs = [] from h]; exact ⟨v, [], rfl, h3, rfl⟩
  | (x, e) :: r, vs, k, d, v, h, h3 => by
    obtain ⟨u, vs', rfl, q3, q4⟩ := h
    exact ⟨u, _, rfl, q3, RepKI.snoc q4 h3⟩
theorem RepKI.put {kvs : List (Int × D)} {vs : List (Key × V)} {k : Int} {d : D} {v : V} (h : RepKI K G ρ H kvs vs) (h3 : Rep K G ρ H d v) : RepKI K G ρ H (putI kvs k d) (putK vs (.inl k) v) := by
  unfold putI putK
  rw [h.any]
  by_cases c : (kvs.any fun p => decide (p.1 = k)) = true
  · rw [if_pos c, if_pos c]; exact h.map_ k h3
  · rw [if_neg c, if_neg c]; exact h.snoc h3
end
section
variable {X : Cx} {cA : Nat → Addr} {W : WX}
end
section
variable {β σ : Type} {u : β → D} {B : Bs} {sl : List Sl}
end
end Rf

namespace Rf
open PySem PySem.Spec PyProof.Rows L2
section
variable {B : Bs} {sl : List Sl} {env : En} {S : Store}
theorem SRel.n (r : SRel B sl env S) {i : Nat} {dss : List (List D)} (h : sl[i]? = some (.n dss)) : ∃ ns : List Nat, env[i]? = some (some (.lst (ns.map .cell))) ∧ ns.Nodup ∧ ns.length = dss.length ∧ ∀ (j : Nat) (n : Nat), ns[j]? = some n → ∃ ds, dss[j]? = some ds ∧ S[n]? = some (.lst ds) := by
  obtain ⟨o, e, ns, rfl, q⟩ := r.env_at h
  exact ⟨ns, e, q⟩
end
section
variable {α β γ σ : Type} {t : α → D} {u : β → D} {B : Bs} {sl : List Sl}
end
end Rf

namespace PySem
open Sem (wp)
section
variable {prog : Program} {w : World} {A : Around} {R : Result → Shared → Prop} {I ax : Addr} {items : Array Value}
end
section
variable {prog : Program} {w : World} {A : Around} {E : Value → Shared → Prop} {s : Shared}
end
end PySem
namespace Rf
open PySem PySem.Spec PyProof.Rows L2
section
variable {X : Cx} {pins : List (Addr × Obj)} {σ : L2.St} {H : Hp} {s : Shared}
end
section
variable {α : Type} {t : α → D}
end
end Rf

namespace Rf
open PySem PySem.Spec PyProof.Rows L2
section
variable {X : Cx} {cA : Nat → Addr} {Wout : WX}
end
section
variable {B : Bs} {sl : List Sl} {α β γ σ : Type} {t : α → D}
end
section
variable {X : Cx} {cA : Nat → Addr} {W : WX}
end
section
variable {B : Bs} {sl : List Sl} {α β γ σ : Type} {t : α → D}
end
section
variable {B : Bs} {sl : List Sl} {α : Type} {t : α → D}
end
section
variable {B : Bs} {sl : List Sl} {α β : Type} {t : α → D} {u : β → D}
end
section
variable {B : Bs} {sl : List Sl} {α β : Type} {t : α → D}
end
end Rf

namespace Rf
open PySem PySem.Spec PyProof.Rows L2
structure OCls (K : PySem.W.Frag) (x : Str) (C : Addr) : Prop where
  ns : PySem.W.nsIn K mainGlobals x = some (some (.ref C))
  cl : L2.Cls K C
def putA (f : Str) (v : D) : List (Str × D) → List (Str × D)
  | [] => [(f, v)]
  | (g, x) :: r => if g = f then (g, v) :: r else (g, x) :: putA f v r
section
variable {K : PySem.W.Frag} {G : Addr → Prop} {ρ : List Addr} {H : Hp} {S : Store}
theorem RepF.put {f : Str} {d : D} {v : V} (hd : Rep K G ρ H d v) : ∀ {fs : List (Str × D)} {vs : List (Str × V)}, RepF K G ρ H fs vs → RepF K G ρ H (putA f d fs) (putF f v vs)
  | [], vs, h => by rw [show vs = [] from h]; exact ⟨v, [], rfl, hd, rfl⟩
  | (k, e) :: r, vs, h => by
    obtain ⟨u, vs', rfl, h1, h2⟩ := h
    unfold putA putF
    by_cases c : k = f
    · rw [if_pos c, if_pos c]; exact ⟨v, vs', rfl, hd, h2⟩
    · rw [if_neg c, if_neg c]; exact ⟨u, _, rfl, h1, RepF.put hd h2⟩
theorem RepF.length : ∀ {fs : List (Str × D)} {vs : List (Str × V)}, RepF K G ρ H fs vs → vs.length = fs.length
  | [], vs, h => by rw [show vs = [] from h]; rfl
  | (k, d) :: r, vs, h => by
    obtain ⟨v, vs', rfl, h1, h2⟩ := h
    show vs'.length + 1 = r.length + 1
    rw [RepF.length h2]
end
section
variable {X : Cx} {cA : Nat → Addr} {W : WX} {e o : Expr} {pos pos' apos p : Pos} {x f m : Str} {C : Addr}
structure OMk (K : PySem.W.Frag) (mg : Str → Option Value) (x : Str) (C g : Addr) : Prop where
  cls : OCls K x C
  mkd : Mk K C g
  gl : mg x = some (.ref C)
end
section
variable {P : Program} {w : World} {K : PySem.W.Frag} {mg : Str → Option Value} {base : Heap} {cA : Nat → Addr}
end
end Rf

namespace PySem
open Sem (wp)
section
variable {prog : Program} {w : World} {A : Around} {E : Value → Shared → Prop} {s : Shared}
end
end PySem

namespace Rf
open PySem PySem.Spec PyProof.Rows L2
section
variable {X : Cx} {cA : Nat → Addr} {W : WX}
end
end Rf

namespace Rf
open PySem PySem.Spec PyProof.Rows L2
section
variable {α β γ δ ρ σ : Type} {t : α → D} {u : β → D} {B : Bs} {sl : List Sl}
def ObAt (sl : List Sl) (i k : Nat) (f : Nat → List Ob) : Prop := sl[i]? = some (.q k f) ∨ sl[i]? = some (.o k f)
def CellsAt (S : Store) (n k : Nat) (l : List Ob) : Prop := l.length = k ∧ ∀ (j : Nat) (ob : Ob), l[j]? = some ob → S[n + j]? = some ob
theorem SRel.ob {env : En} {S : Store} {i k : Nat} {f : Nat → List Ob} (r : SRel B sl env S) (h : ObAt sl i k f) : ∃ n, env[i]? = some (some (.cell n)) ∧ CellsAt S n k (f n) := by
  rcases h with h | h
  · obtain ⟨o, e, n, rfl, q⟩ := r.env_at h
    exact ⟨n, e, q⟩
  · obtain ⟨o, e, n, rfl, q⟩ := r.env_at h
    exact ⟨n, e, q⟩
theorem Fr.refl {S : Store} : Fr ⟨S, []⟩ S := ⟨Nat.le_refl _, fun _ _ _ => rfl⟩
theorem Fr.more {S S' : Store} (h : Fr B S) (h' : Fr ⟨S, []⟩ S') : Fr B S' := ⟨Nat.le_trans h.len h'.len, fun i hi hq => by rw [h'.same i (Nat.lt_of_lt_of_le hi h.len) (fun z => nomatch z)]; exact h.same i hi hq⟩
theorem SRel.more {env : En} {S S' : Store} (r : SRel B sl env S) (h : Fr ⟨S, []⟩ S') : SRel B sl env S' := by
  have old : ∀ x, x < S.length → S'[x]? = S[x]? := fun x hx => h.same x hx (fun z => nomatch z)
  exact ⟨r.len, fun i s d h1 h2 => (r.at_ i s d h1 h2).same fun x hx => old x (rc_lt (r.at_ i s d h1 h2) hx), r.dis, r.own, r.frm.more h⟩
end
end Rf

namespace Rf
open PySem PySem.Spec PyProof.Rows L2
section
variable {α : Type} {t : α → D}
end
end Rf

namespace Rf
open PySem PySem.Spec PyProof.Rows L2
section
variable {X : Cx}
end
section
variable {α β : Type} {t : α → D} {u : β → D} {B : Bs} {sl : List Sl}
end
end Rf

namespace Rf
open PySem PySem.Spec PyProof.Rows L2
section
variable {X : Cx} {cA : Nat → Addr} {W : WX}
end
end Rf

namespace Rf
open PySem PySem.Spec PyProof.Rows L2
section
variable {X : Cx} {cA : Nat → Addr} {W : WX}
end
end Rf

namespace Rf
open PySem PySem.Spec PyProof.Rows L2
section
variable {κ α β γ : Type} {ek : κ → D} {et : α → D} {B : Bs} {sl : List Sl}
theorem SRel.p {env : En} {S : Store} {i m : Nat} {f : Nat → List Ob} (r : SRel B sl env S) (h : sl[i]? = some (.p m f)) : ∃ b, env[i]? = some (some (.cell (b + m))) ∧ (f b).length = m + 1 ∧ ∀ (j : Nat) (ob : Ob), (f b)[j]? = some ob → S[b + j]? = some ob := by
  obtain ⟨o, e, b, rfl, q⟩ := r.env_at h
  exact ⟨b, e, q⟩
end
end Rf

namespace Rf
open PySem PySem.Spec PyProof.Rows L2
section
variable {X : Cx} {a : Expr} {p p2 q pos : Pos} {cA : Nat → Addr} {W : WX}
end
section
variable {B : Bs} {sl : List Sl} {α β γ σ : Type} {t : α → D} {u : β → D}
end
section
variable {B : Bs} {sl : List Sl} {α β γ σ : Type} {t : α → D} {u : β → D}
end
section
variable {α β σ : Type} {t : α → D} {S0 : Store} {sl : List Sl} {q : Nat}
end
section
variable {B : Bs} {sl : List Sl} {α β γ ε : Type} {t : α → D}
end
def yE {α : Type} (t : α → D) : Option α → D
  | none => .tup []
  | some a => t a
instance {α : Type} {t : α → D} [TPu t] : TPu (yE t) := ⟨fun o => by
  cases o with
  | none => rfl
  | some a => exact TPu.pu (t := t) a⟩
section
variable {B : Bs} {sl : List Sl} {α : Type} {t : α → D}
end
end Rf

namespace Rf
open PySem PySem.Spec PyProof.Rows L2
section
variable {X : Cx} {cA : Nat → Addr} {pins : List (Addr × Obj)} {σ : L2.St}
structure MinJ (X : Cx) (pins : List (Addr × Obj)) (σ : L2.St) (G : Addr → Prop) (ρ : List Addr) (S : Store) (H : Hp) (d : D) (a It Sx : Addr) (s : Shared) : Prop where
  ex : ∃ ρ' H', Inv X pins σ H' s ∧ RelS X.K G ρ' S H' ∧ Keep G ρ H ρ' H' ∧ Rep X.K G ρ' H' d (.ref a) ∧ FpOk X pins H' It ∧ FpOk X pins H' Sx
end
section
variable {X : Cx} {cA : Nat → Addr} {W : WX}
end
section
variable {X : Cx} {cA : Nat → Addr} {W : WX}
end
section
variable {B : Bs} {sl : List Sl}
end
end Rf

namespace Rf
open PySem PySem.Spec PyProof.Rows L2
section
variable {X : Cx} {cA : Nat → Addr} {W : WX}
end
section
variable {X : Cx} {cA : Nat → Addr} {W : WX}
end
section
variable {B : Bs} {sl : List Sl} {α κ : Type} {t : κ → D} {P0 : α → D → Store → Prop}
end
end Rf

namespace L2
open PySem PySem.Spec PyProof.Rows
section
variable {w : World} {P : Program} {A : Around} {s : Shared} {E : Value → Shared → Prop}
end
end L2

namespace Rf
open PySem PySem.Spec PyProof.Rows L2
section
variable {X : Cx} {a : Expr} {p p2 q pos : Pos} {cA : Nat → Addr} {W : WX}
end
section
variable {B : Bs} {sl : List Sl}
end
end Rf

namespace Rf
open PySem PySem.Spec PyProof.Rows L2
section
variable {α β : Type} {t : α → D} {u : β → D} {B : Bs} {sl : List Sl}
end
end Rf

namespace Rf
open PySem PySem.Spec PyProof.Rows L2
section
variable {α β γ δ σ κ : Type} {t : α → D} {u : β → D} {B : Bs} {sl : List Sl}
def rLo (B : Bs) (t : α → D) : List α → D → Store → Prop := fun l d S => ∃ i, d = .cell i ∧ B.S0.length ≤ i ∧ S[i]? = some (.lst (l.map t))
end
end Rf

namespace Rf
open PySem PySem.Spec PyProof.Rows L2
section
variable {X : Cx} {b : Expr} {pos p2 : Pos} {cA : Nat → Addr} {W : WX}
end
section
variable {X : Cx} {e : Expr} {cA : Nat → Addr} {W : WX}
end
section
variable {α β γ δ σ κ : Type} {t : α → D} {u : β → D} {B : Bs} {sl : List Sl}
def intsD : List D → Option (List Int)
  | [] => some []
  | .int i :: r => (intsD r).map fun l => i :: l
  | _ :: _ => none
theorem intsD_eq : ∀ {ds : List D} {l : List Int}, intsD ds = some l → ds = l.map yI
  | [], l, h => by cases h; rfl
  | d :: r, l, h => by
    cases d with
    | int i =>
      unfold intsD at h
      obtain ⟨l', h1, rfl⟩ := Option.map_eq_some_iff.mp h
      rw [intsD_eq h1]; rfl
    | _ => cases h
theorem intsD_map : ∀ l : List Int, intsD (l.map yI) = some l
  | [] => rfl
  | i :: l => by
    show (intsD (l.map yI)).map _ = _
    rw [intsD_map l]; rfl
def intsA (x : PD) : R (List Int) := match x.1 with
  | .tup ds => (match intsD ds with
    | some l => .ok l
    | none => .bad)
  | _ => .bad
theorem intsA_to (l : List Int) : intsA (toA (yT yI) l) = .ok l := by
  unfold intsA toA yT
  dsimp only
  rw [intsD_map]
theorem XE.toTI {m : M D} {f : R PD} {f' : R (List Int)} (h : XE B sl m (vP yA) f) (e : (f.bind fun x => intsA x) = f' := by rfl) : XE B sl m (vP (yT yI)) f' := fun env S r => by
  rw [← e]
  have := h env S r
  cases f with
  | bad => trivial
  | err c => exact this
  | ok x =>
    obtain ⟨d, q1, q2⟩ := this
    cases q2
    dsimp only [R.ok_bind]
    obtain ⟨x, hx⟩ := x
    cases x with
    | tup ds =>
      unfold intsA
      dsimp only
      cases e : intsD ds with
      | none => trivial
      | some l => exact ⟨_, q1, by show D.tup ds = D.tup (l.map yI); rw [intsD_eq e]⟩
    | _ => trivial
end
end Rf

namespace Rf
open PySem PySem.Spec PyProof.Rows L2
section
variable {X : Cx} {o e a : Expr} {lo hi : Option Expr} {pos p2 apos : Pos} {cA : Nat → Addr} {W : WX}
end
section
variable {α β γ δ σ κ : Type} {t : α → D} {u : β → D} {B : Bs} {sl : List Sl}
end
end Rf

namespace Rf
open PySem PySem.Spec PyProof.Rows L2
section
variable {K : PySem.W.Frag} {G : Addr → Prop} {ρ : List Addr} {H : Hp} {S : Store}
end
section
variable {X : Cx} {cA : Nat → Addr} {W : WX} {e : Expr} {pos : Pos}
end
end Rf

namespace Rf
open PySem PySem.Spec PyProof.Rows L2
section
variable {X : Cx} {pins : List (Addr × Obj)} {σ : L2.St} {H : Hp} {s : Shared}
end
section
variable {X : Cx} {cA : Nat → Addr} {W : WX}
open PySem.W (EachIs AllAlike alike dataLe)
end
def frL (f : D → Store → Option (D × Store)) : List D → Store → Option (List D × Store)
  | [], S => some ([], S)
  | d :: r, S => match f d S with
    | some (e, S1) => (match frL f r S1 with
      | some (es, S2) => some (e :: es, S2)
      | none => none)
    | none => none
def isGone (S : Store) (j : Nat) : Bool := match S[j]? with
  | some .gone => true
  | _ => false
section
variable {X : Cx} {pins : List (Addr × Obj)} {σ : L2.St} {s : Shared} {G : Addr → Prop} {ρ : List Addr}
structure Frz (X : Cx) (pins : List (Addr × Obj)) (σ : L2.St) (s : Shared) (G : Addr → Prop) (ρ : List Addr) (H : Hp) (S' : Store) (H' : Hp) : Prop where
  inv : Inv X pins σ H' s
  rel : RelS X.K G ρ S' H'
  kp : Keep G ρ H ρ H'
  old : ∀ i a, ρ[i]? = some a → isGone S' i = true ∨ H' a = H a
theorem gone_set {S : Store} {j i : Nat} (h : isGone S i = true ∨ (i = j ∧ j < S.length)) : isGone (S.set j .gone) i = true := by
  unfold isGone
  by_cases e : i = j
  · subst e
    have hl : i < S.length := by
      rcases h with h | h
      · unfold isGone at h
        cases e2 : S[i]? with
        | none => rw [e2] at h; cases h
        | some o => exact (List.getElem?_eq_some_iff.mp e2).1
      · exact h.2
    rw [List.getElem?_set_self hl]
  · rw [List.getElem?_set_ne (Ne.symm e)]
    rcases h with h | h
    · exact h
    · exact absurd h.1 e
theorem Frz.one {H : Hp} {S1 : Store} {H1 : Hp} {j : Nat} {a : Addr} {u : HO} (z : Frz X pins σ s G ρ H S1 H1) (ha : ρ[j]? = some a) (ng : isGone S1 j = false) (hu : H a = some u) (mu : Mut (some u)) (hw : (∃ vs, u = .lst vs) ∨ (∃ φ, u = .ext φ) ∨ ∃ kvs, u = .dK kvs) :
    ∃ o H2, Frz X pins σ s G ρ H (S1.set j .gone) H2 ∧ H2 a = some (.frz o u) ∧ Keep G ρ H1 ρ H2 := by
  have h1 : H1 a = some u := by
    rcases z.old j a ha with h | h
    · rw [ng] at h; cases h
    · rw [h]; exact hu
  obtain ⟨o, I⟩ := z.inv.lock h1 mu
  have hw2 : (∃ vs, H1 a = some (.lst vs)) ∨ (∃ φ, H1 a = some (.ext φ)) ∨ (∃ kvs, H1 a = some (.dK kvs)) ∨ ∃ C dx fs, H1 a = some (.ins C dx fs) := by
    rcases hw with ⟨_, rfl⟩ | ⟨_, rfl⟩ | ⟨_, rfl⟩
    · exact .inl ⟨_, h1⟩
    · exact .inr (.inl ⟨_, h1⟩)
    · exact .inr (.inr (.inl ⟨_, h1⟩))
  have ok : okO (.frz o u) := by rcases hw with ⟨_, rfl⟩ | ⟨_, rfl⟩ | ⟨_, rfl⟩ <;> trivial
  obtain ⟨r', k'⟩ := z.rel.write (o := .gone) (u := .frz o u) ha hw2 ⟨_, upd_same⟩ ok
  refine ⟨o, _, ⟨I, r', z.kp.trans k', fun i b hb => ?_⟩, upd_same, k'⟩
  by_cases e : i = j
  · subst e
    exact .inl (gone_set (.inr ⟨rfl, by rw [← z.rel.len]; exact (List.getElem?_eq_some_iff.mp ha).1⟩))
  · rcases z.old i b hb with h | h
    · exact .inl (gone_set (.inl h))
    · refine .inr ?_
      have : b ≠ a := fun q => e (by
        subst q
        obtain ⟨l1, e1⟩ := List.getElem?_eq_some_iff.mp hb
        obtain ⟨l2, e2⟩ := List.getElem?_eq_some_iff.mp ha
        exact (List.getElem_inj z.rel.nd).mp (e1.trans e2.symm))
      rw [upd_ne this]
      exact h
theorem Frz.then {H H1 H2 : Hp} {S1 S2 : Store} (z1 : Frz X pins σ s G ρ H S1 H1) (z2 : Frz X pins σ s G ρ H1 S2 H2) (mono : ∀ i, isGone S1 i = true → isGone S2 i = true) : Frz X pins σ s G ρ H S2 H2 :=
  ⟨z2.inv, z2.rel, z1.kp.trans z2.kp, fun i a ha => by
    rcases z2.old i a ha with h | h
    · exact .inl h
    · rcases z1.old i a ha with q | q
      · exact .inl (mono i q)
      · exact .inr (h.trans q)⟩
end
section
variable {X : Cx} {cA : Nat → Addr} {W : WX}
end
end Rf

namespace Rf
open PySem PySem.Spec PyProof.Rows L2
section
variable {X : Cx} {cA : Nat → Addr} {W : WX}
end
end Rf

namespace Rf
open PySem PySem.Spec PyProof.Rows L2
def yV {α β : Type} (t : α → D) (u : β → D) : List (α × β) → D := fun l => .dct 2 (l.map fun p => t p.1) (l.map fun p => u p.2)
def yJ {β : Type} (u : β → D) : List (Int × β) → D := fun l => .dct 1 (l.map fun p => .int p.1) (l.map fun p => u p.2)
section
variable {α β γ σ ρ : Type} {t : α → D} {u : β → D} {B : Bs} {sl : List Sl}
instance [TPu t] [TPu u] : TPu (yV t u) := ⟨fun l => by
  show (pureL (l.map fun p => t p.1) && pureL (l.map fun p => u p.2)) = true
  rw [pureL_map (f := fun p : α × β => t p.1) (fun x => TPu.pu (t := t) x.1) l, pureL_map (f := fun p : α × β => u p.2) (fun x => TPu.pu (t := u) x.2) l]; rfl⟩
instance [TPu u] : TPu (yJ u) := ⟨fun l => by
  show (pureL (l.map fun p => D.int p.1) && pureL (l.map fun p => u p.2)) = true
  rw [pureL_map (f := fun p : Int × β => D.int p.1) (fun x => rfl) l, pureL_map (f := fun p : Int × β => u p.2) (fun x => TPu.pu (t := u) x.2) l]; rfl⟩
end
end Rf

namespace Rf
open PySem PySem.Spec PyProof.Rows L2
abbrev Cr := (Int × Int) × (Int × Int) × Int
structure Mo where
  n : Int
  rings : List (List Int)
  ways : List ((Int × Int) × List Int)
  cross : List (Int × Cr)
def yC : Cr → D := yP3 (yP2 yI yI) (yP2 yI yI) yI
instance : TPu yC := ⟨fun _ => rfl⟩
def fsM (m : Mo) : List (Str × D) := [("n", yI m.n), ("rings", yL (yF yI) m.rings), ("ways", yV (yP2 yI yI) (yF yI) m.ways), ("cross", yJ (yP3 (yP2 yI yI) (yP2 yI yI) yI) m.cross)]
def yM (m : Mo) : D := .dct 0 [.str "n", .str "rings", .str "ways", .str "cross"] [yI m.n, yL (yF yI) m.rings, yV (yP2 yI yI) (yF yI) m.ways, yJ (yP3 (yP2 yI yI) (yP2 yI yI) yI) m.cross]
instance : TPu yM := ⟨fun m => by
  show (true && (pureD (yI m.n) && (pureD (yL (yF yI) m.rings) && (pureD (yV (yP2 yI yI) (yF yI) m.ways) && (pureD (yJ (yP3 (yP2 yI yI) (yP2 yI yI) yI) m.cross) && true))))) = true
  rw [TPu.pu (t := yI), TPu.pu (t := yL (yF yI)), TPu.pu (t := yV (yP2 yI yI) (yF yI)), TPu.pu (t := yJ (yP3 (yP2 yI yI) (yP2 yI yI) yI))]
  rfl⟩
class FM (f : Str) {α : Type} (t : outParam (α → D)) (c : outParam (Mo → α)) : Prop where
  fm : ∀ m, (fsM m).lookup f = some (t (c m))
instance : FM "n" yI Mo.n := ⟨fun _ => rfl⟩
instance : FM "rings" (yL (yF yI)) Mo.rings := ⟨fun _ => rfl⟩
instance : FM "ways" (yV (yP2 yI yI) (yF yI)) Mo.ways := ⟨fun _ => rfl⟩
instance : FM "cross" (yJ (yP3 (yP2 yI yI) (yP2 yI yI) yI)) Mo.cross := ⟨fun _ => rfl⟩
section
variable {α β σ ρ : Type} {t : α → D} {B : Bs} {sl : List Sl}
theorem Fr.some {S S' : Store} {b k : Nat} (h : Fr B S) (hl : S'.length = S.length) (hb : ∀ x ∈ List.range' b k, B.S0.length ≤ x) (hs : ∀ x, ¬ (b ≤ x ∧ x < b + k) → S'[x]? = S[x]?) : Fr B S' :=
  ⟨by rw [hl]; exact h.len, fun i hi hq => by
    rw [hs i (fun z => by have := hb i (List.mem_range'.mpr ⟨i - b, by omega, by omega⟩); omega)]
    exact h.same i hi hq⟩
end
end Rf

namespace Rf
open PySem PySem.Spec PyProof.Rows L2
section
variable {X : Cx} {a b c d : Expr} {pos : Pos} {cA : Nat → Addr} {W : WX}
end
structure FnU (P : Program) (w : World) (K : PySem.W.Frag) (mg : Str → Option Value) (base : Heap) (CX : CXT) (k : Nat) (f : Addr) (fd : FuncData) (ps : List Str) (sp : Sp) : Prop where
  len : ∀ vs H Q E, sp vs H Q E → vs.length = ps.length
  run : ∀ (A : Around) (outer : List Env) (s : Shared) (H : Hp) (args : Args) (us : List Value) (vs : List V) (Q : VK) (E : XK), L2H.RoomH k A → Env0 P w K mg base A outer s H → BindsTo s fd args (ps.zip us) → Vals vs us → sp vs H Q E →
    codeAny (model P w) A (.call (.ref f) args) (CR CX outer P w H s Q E) s
section
variable {P : Program} {w : World} {K : PySem.W.Frag} {mg : Str → Option Value} {base : Heap}
end
section
variable {X : Cx} {CX : CXT} {k : Nat} {f : Addr} {fd : FuncData} {ps : List Str} {sp : Sp} {E : L2.St → XK} {x : Str} {p pos : Pos} {e : Expr} {es : List Expr} {t : TA}
end
end Rf

namespace Rf
open PySem PySem.Spec PyProof.Rows L2
section
variable {α : Type} {t : α → D}
end
end Rf

namespace Rf
open PySem PySem.Spec PyProof.Rows L2
section
variable {B : Bs} {sl : List Sl} {α β : Type} {t : α → D} {u : β → D}
end
end Rf

namespace Rf
open PySem PySem.Spec PyProof.Rows L2
section
variable {X : Cx} {cA : Nat → Addr} {W : WX}
end
section
variable {B : Bs} {sl : List Sl} {α β γ δ κ ρ : Type} {t : α → D} {u : β → D}
end
section
variable {X : Cx} {cA : Nat → Addr} {W : WX}
end
end Rf

set_option exponentiation.threshold 3000
namespace Rf
open PySem PySem.Spec PyProof.Rows L2
section
variable {B : Bs} {sl : List Sl}
end
section
variable {prog : Program} {w : World} {A : Around} {E : Value → Shared → Prop} {s : Shared}
end
section
variable {X : Cx} {cA : Nat → Addr} {W : WX}
end
end Rf

set_option synthInstance.maxSize 2000
namespace Rf
open PySem PySem.Spec PyProof.Rows L2
section
variable {M : Model} {A : Around} {E : Value → Shared → Prop} {s : Shared} {Z : Obj → Prop} {base : Heap} {env cenv : Env} {outer l : List Env} {L e : Addr} {fl : Value}
theorem looks_held {Q : Unit → Shared → Prop} {L' : Addr} (hne : L' ≠ L) (hZ : HandSPX.Steady Z) (hfr : A.frames = some (env :: outer)) (hf : env.frame = some L) (hfl : HandSPX.HeldZ base (env :: outer) e Z L' s.heap)
    (hQ : ∀ h', HandSPX.HeldZ base (env :: outer) e Z L h' → s.heap.UpToSlots h' → Q () { s with heap := h' }) : wpAny M A (noteFrame (.ref e) env) Q E s := by
  obtain ⟨hkb, hen, hl, oe, vs, T, oT, ts, he, hz, hd, h1, hnT, hTe, hT, hdT, h3⟩ := hfl
  unfold noteFrame
  simp only [hf]
  refine wpAny_bind (wpAny_field he hd h1 ?_)
  rw [if_pos (show (Value.ref T != Value.none) = true from by simp)]
  refine wpAny_bind (wpAny_field hT hdT h3 ?_)
  rw [if_neg (show ¬ ((rawInt L' == rawInt L) = true) from fun h => by
    have h := eq_of_beq h
    unfold rawInt at h
    injection h with h
    exact hne (Int.ofNat_inj.mp h))]
  refine wpAny_bind (wpAny_setField hT hdT (Array.getElem?_eq_some_iff.mp h3).1 ?_)
  have other : ∀ b, b ≠ T → (s.heap.update T (Obj.mapFields (·.setIfInBounds 3 Value.none))).get? b = s.heap.get? b := fun b hb => Heap.get?_update_other _ _ (Ne.symm hb)
  have noRecord : ∀ b o, s.heap.get? b = some o → (∀ vs, o.data ≠ .fields vs) → b ≠ T := fun b o hb hnf q => by
    rw [q, hT] at hb; injection hb with hb; subst hb; exact hnf ts hdT
  refine HandSPX.wpAny_entryZ hZ hfr (hl.of_keeps fun b o hb hnf => ⟨o, (other b (noRecord b o hb hnf)).trans hb, rfl⟩) hf ((other e (Ne.symm hTe)).trans he)
    (fun b o hbo => (other b fun q => by rw [q, hnT] at hbo; cases hbo).trans (hkb b o hbo)) hen hd (Array.getElem?_eq_some_iff.mp h1).1 hz fun h' hN => ?_
  obtain ⟨x1, x2, x3, x4⟩ := hN
  exact hQ h' ⟨x1, hen, x2, x3⟩ fun b o hb hnf => x4 b o ((other b (noRecord b o hb hnf)).trans hb) hnf
theorem traced_but {h h' : Heap} {C : Addr} {m : Str → Option Value} (t : HandSPX.TracedZ h base e Z fl) (hn : h.Ns C m) (hs : Heap.SameBut C h h') : HandSPX.TracedZ h' base e Z fl := by
  obtain ⟨oe, vs, T, oT, ts, he, hz, hd, h1, hnT, hTe, hT, hdT, h3⟩ := t
  obtain ⟨o', es, ep, ho', hd', _⟩ := hn
  have ne : ∀ b o v, h.get? b = some o → o.data = .fields v → b ≠ C := by
    rintro b o v e1 e2 rfl
    rw [ho'] at e1; cases e1
    rw [hd'] at e2; cases e2
  exact ⟨oe, vs, T, oT, ts, (hs.2 e (ne _ _ _ he hd)).trans he, hz, hd, h1, hnT, hTe, (hs.2 T (ne _ _ _ hT hdT)).trans hT, hdT, h3⟩
theorem comp_fails {m : Str → Option Value} (hf : cenv.frame = some L) (hbC : base.get? cenv.locals = none) (hn : s.heap.Ns cenv.locals m) (hh : HandSPX.HeldZ base l e Z L s.heap)
    (hQ : ∀ h', HandSPX.HeldZ base l e Z L h' → (∀ b o, s.heap.get? b = some o → b ≠ cenv.locals → (∀ vs, o.data ≠ .fields vs) → ∃ sl, h'.get? b = some { o with slots := sl }) → E (.ref e) { s with heap := h' }) :
    CompFails M A E cenv (.ref e) s := by
  refine ⟨m, hn, fun h₂ m₂ hn₂ hs₂ => ?_⟩
  obtain ⟨b1, b0, f1, t1⟩ := hh
  have b2 : base.StaysIn h₂ := fun b o hb => (hs₂.2 b fun q => by rw [q, hbC] at hb; cases hb).trans (b1 b o hb)
  have f2 : h₂.FunFrames base l := Heap.FunFrames.sameBut hs₂ hn₂ f1
  have t2 := traced_but t1 hn hs₂
  have H2 : HandSPX.HeldZ base l e Z L h₂ := ⟨b2, b0, f2, t2⟩
  obtain ⟨oe, vs, T, oT, ts, he, hc, hd, h1, r⟩ := t2
  unfold PySem.passOn
  refine wpAny_bind (wpAny_field he hd h1 ?_)
  rw [if_neg (show ¬ ((Value.ref T == Value.none) = true) from by simp)]
  rw [hf]
  refine wpAny_bind (HandSPX.setFlight_onZ (s := { s with heap := h₂ }) H2 fun h₃ x3 k3 => ?_)
  refine wpAny_throw ?_
  exact hQ h₃ x3 fun b o hb hbL hnf => k3 b o ((hs₂.2 b hbL).trans hb) hnf
theorem frames_sub {base' h : Heap} (k : ∀ b o, base'.get? b = some o → base.get? b = some o) : ∀ {l : List Env}, h.FunFrames base l → h.FunFrames base' l := fun {l} f =>
  L2.funFrames_none f fun b hb => by
    cases q : base'.get? b with
    | none => rfl
    | some o =>
      have z := (f.mem hb).1
      rw [k b o q] at z; cases z
theorem traced_sub {base' h : Heap} (k : ∀ b o, base'.get? b = some o → base.get? b = some o) (t : HandSPX.TracedZ h base e Z fl) : HandSPX.TracedZ h base' e Z fl := by
  obtain ⟨oe, vs, T, oT, ts, he, hz, hd, h1, hnT, r⟩ := t
  refine ⟨oe, vs, T, oT, ts, he, hz, hd, h1, ?_, r⟩
  cases q : base'.get? T with
  | none => rfl
  | some o => rw [k T o q] at hnT; cases hnT
theorem none_sub {base' : Heap} {a : Addr} (k : ∀ b o, base'.get? b = some o → base.get? b = some o) (h : base.get? a = none) : base'.get? a = none := by
  cases q : base'.get? a with
  | none => rfl
  | some o => rw [k a o q] at h; cases h
theorem sky_sub {base' h : Heap} (k : ∀ b o, base'.get? b = some o → base.get? b = some o) (x : Sky base l e Z L h) : Sky base' l e Z L h := by
  rcases x with ⟨hB, hn, hl, r⟩ | ⟨hB, hn, hl, r⟩ | ⟨hB, hn, hl, r⟩
  · exact .inl ⟨fun b o q => hB b o (k b o q), none_sub k hn, frames_sub k hl, r⟩
  · exact .inr (.inl ⟨fun b o q => hB b o (k b o q), none_sub k hn, frames_sub k hl, traced_sub k r⟩)
  · exact .inr (.inr ⟨fun b o q => hB b o (k b o q), none_sub k hn, frames_sub k hl, traced_sub k r⟩)
end
section
variable {X : Cx} {W : WX} {pins : List (Addr × Obj)} {σ : L2.St} {H3 : Hp} {s3 : Shared} {scope : Scope} {ce : Env} {fp : List Addr}
theorem takes_blk (tk : Takes X W) (hs : X.stack = X.env :: X.outer) (hf : X.env.frame = some X.env.locals) (hcf : ce.frame = X.env.frame) (I3 : Inv X pins σ H3 s3) (hC : s3.heap.objs.size ≤ ce.locals)
    (f3 : ∀ b ∈ fp, FpOk X pins H3 b) : Takes ((X.blk s3 H3 scope ce fp).wish (notedBy (model X.prog X.w) X.A ce (CompFails (model X.prog X.w) X.A X.xe ce))) (fun cls d _ H' => W cls d σ H') := by
  rintro u s' ⟨a, B, sI, pins', σ', H', cls, d, rfl, J0, nb, up, sky, na, os, ag, w⟩
  have J : Inv (X.blk s3 H3 scope ce fp) pins' σ' H' sI := J0.unwish
  obtain ⟨m, hn, _⟩ := J.loc
  have hn : sI.heap.Ns ce.locals m := hn
  have nC : H' ce.locals = none := J.free
  have I7 : Inv X pins σ H' sI := I3.call' (ch := fp) J.os J.base J.hok J.bare fun b hb => ⟨(f3 b hb).2.2.2.1, (f3 b hb).2.1, (f3 b hb).2.2.2.2.1, (f3 b hb).2.2.2.2.2⟩
  have fC : FpOk X pins H' ce.locals := I3.fpOk hC nC
  obtain ⟨B', g1, g2⟩ := restrict B fun b => decide (b ≠ ce.locals)
  obtain ⟨G, q1, q2⟩ := restrict sI.heap fun b => decide (b ≠ ce.locals)
  have sub : ∀ b o, B'.get? b = some o → B.get? b = some o := fun b o e => by
    by_cases hb : b = ce.locals
    · rw [g2 b (by simp [hb])] at e; cases e
    · rw [← g1 b (by simp [hb])]; exact e
  have nG : ∀ b o, G.get? b = some o → b ≠ ce.locals ∧ sI.heap.get? b = some o := fun b o e => by
    by_cases hb : b = ce.locals
    · rw [q2 b (by simp [hb])] at e; cases e
    · exact ⟨hb, by rw [← q1 b (by simp [hb])]; exact e⟩
  have I8 : Inv X pins σ H' { sI with heap := G } := I7.turned (t' := sI.toks) (fun b o hb e => by rw [q1 b (by simp [hb])]; exact e) fC.1 fC.2.1 fC.2.2.2.1 fC.2.2.2.2.1 fC.2.2.2.2.2
  have hfr : X.A.frames = some (X.env :: X.outer) := by rw [← hs]; exact I3.ok.frames
  have sky0 : Sky B X.stack a (Zc cls d) ce.locals s'.heap := sky
  rw [hs] at sky0
  have sky' := sky_sub sub sky0
  have nms : s'.heap.Ns ce.locals m := Heap.Ns.upToSlots hn up
  have bC : B'.get? ce.locals = none := g2 _ (by simp)
  show wpAny _ X.A (noteFrame (.ref a) ce) _ _ s'
  rw [noteFrame_env _ hcf]
  have fin : ∀ h1, HandSPX.HeldZ B' (X.env :: X.outer) a (Zc cls d) X.env.locals h1 → s'.heap.UpToSlots h1 → CompFails (model X.prog X.w) X.A X.xe ce (.ref a) { s' with heap := h1 } := fun h1 hh up1 => by
    refine comp_fails (s := { s' with heap := h1 }) (hcf.trans hf) bC (Heap.Ns.upToSlots nms up1) hh fun h2 hh2 k2 => ?_
    refine tk _ _ ⟨a, B', { sI with heap := G }, pins, σ, H', cls, d, rfl, I8, fun b o e hb => ?_, fun b o e nf => ?_, ?_, na, os, ag, w⟩
    · obtain ⟨hbC, e'⟩ := nG b o e
      rw [g1 b (by simp [hbC])]
      exact nb b o e' hb
    · obtain ⟨hbC, e'⟩ := nG b o e
      obtain ⟨sl, e1⟩ := up b o e' nf
      obtain ⟨sl2, e2⟩ := up1 b _ e1 nf
      obtain ⟨sl3, e3⟩ := k2 b _ e2 hbC nf
      exact ⟨sl3, e3⟩
    · rw [hs]; exact .inr (.inr hh2)
  rcases sky' with ⟨hB, hn', hl, oe, vs, he, hz, hd, h1⟩ | fl | hh
  · exact HandSPX.look_newZ Zc.steady hfr hl hf he hB hn' hd h1 hz fin
  · exact HandSPX.looks_onZ Zc.steady hfr hf fl fin
  · exact looks_held fC.2.1 Zc.steady hfr hf hh fin
end
section
variable {X : Cx} {W : WX}
def tLcX (wi : TI) (g : TG) (tt : TT) (te : WX → TE) (W : WX) (vs : List Nat) : TE := fun σ H Q => tLc wi g tt (te fun c d _ H' => W c d σ H') vs σ H Q
theorem lcX_core {pins : List (Addr × Obj)} {s : Shared} {σ : L2.St} {H : Hp} {Q : VK} {elt tg iter : Expr} {ifs : List Expr} {scope : Scope} {own : List (Str × Nat)} {pos pos' : Pos} {wi : TI} {g : TG} {tt : TT} {te : WX → TE} {use : Option (Value → Sem Unit)} {Qf : Value → Shared → Prop}
    (hc : X.calm = true) (hN : X.N.Nodup) (tk : Takes X W) (hstk : X.stack = X.env :: X.outer) (hfrm : X.env.frame = some X.env.locals) (I : Inv X pins σ H s) (hi : PI X tg iter wi) (ok : BlkOk X.N X.env.scope scope own)
    (hg : ∀ (s : Shared) (H : Hp) (C : Addr) (cl : List (Str × Addr)) (fp : List Addr), PG (X.blk s H scope (compEnvC scope cl C X.env) fp) tg g) (ht : ∀ (s : Shared) (H : Hp) (C : Addr) (cl : List (Str × Addr)) (fp : List Addr), PTs (X.blk s H scope (compEnvC scope cl C X.env) fp) ifs tt)
    (he : ∀ (s : Shared) (H : Hp) (C : Addr) (cl : List (Str × Addr)) (fp : List Addr) (E : Value → Shared → Prop) (W' : WX), Takes ((X.blk s H scope (compEnvC scope cl C X.env) fp).wish E) W' → PE ((X.blk s H scope (compEnvC scope cl C X.env) fp).wish E) elt (te W')) (hs : ∀ x, foldedSetIterable iter X.env x = pure x)
    (h : tLcX wi g tt te W (own.map (·.2)) σ H Q)
    (hRR : ∀ D (ce : Env) s' m H', Inv X pins σ H' s' → Q (.ref D) H' → s'.heap.Ns ce.locals m → FpOk X pins H' ce.locals → compEnds (model X.prog X.w) X.A X.xe use Qf (.ref D) ce (.ok .next) s') :
    wpAny (model X.prog X.w) X.A (comprehension (.ListComp elt [⟨tg, iter, ifs, 0⟩] scope pos) scope X.env pos' (newList []) false (eval iter X.env) use) Qf X.xe s := by
  have hfree : ∀ y ∈ scope.names, y.2 = .free → ∃ c, X.env.cells.lookup y.1 = some c := fun y hy e => by
    rcases ok.free y hy e with k | k
    · exact I.ok.has _ (.inl k)
    · exact I.ok.has _ (.inr k)
  refine comprehension_at (use := use) rfl hs (closure_ok hfree) ok.kind (fun y hy e => by rw [ok.uniq y hy, e])
    (thn (hi.run pins s σ H _ I h) fun xv s1 hx => thn hx fun itv s2 h2 => ?_)
  obtain ⟨it, fp, tn, J, H2, e, I2, T, st2, f2, q⟩ := h2
  subst e
  refine wpAny_newObj_type (newEnv_comp ?_) (by show 0 ≤ sizeLine; decide)
  generalize hD : s2.heap.objs.size = D
  have hDn : H2 D = none := I2.hok.fresh (Nat.le_of_eq hD)
  obtain ⟨Wn, ⟨m0, w0⟩, turn⟩ := q D hDn
  generalize hs3 : ({ s2 with heap := s2.heap.push { cls := .type "list", data := .seq ([] : List Value).toArray } } : Shared) = s3
  have I3 : Inv X pins σ (upd H2 D (.lst [])) s3 := by
    rw [← hs3]
    refine I2.laid (t' := s2.toks) (fun b o e => Heap.get?_push_of_some _ e) (Nat.le_of_eq hD) ⟨Nat.zero_le _, [], 0, .nil, ?_⟩
    rw [← hD]
    exact Heap.get?_push_size _ rfl
  have h3 : s3.heap = s2.heap.push { cls := .type "list", data := .seq ([] : List Value).toArray } := by rw [← hs3]
  have sz : ∀ b ∈ fp, b < s2.heap.objs.size := fun b hb => by
    obtain ⟨o, e, _⟩ := T.obj _ _ st2 b hb
    exact Heap.lt_size e
  have f3 : ∀ b ∈ fp, FpOk X pins (upd H2 D (.lst [])) b ∧ b < s3.heap.objs.size := fun b hb => by
    have hlt := sz b hb
    refine ⟨⟨?_, (f2 b hb).2⟩, by rw [h3, Heap.size_push]; exact Nat.lt_succ_of_lt hlt⟩
    rw [upd_ne (by rw [← hD]; exact Nat.ne_of_lt hlt)]
    exact (f2 b hb).1
  have st3 : tn 0 s3.heap := T.keep _ _ _ st2 fun b _ o e => by rw [h3]; exact Heap.get?_push_of_some _ e
  have I4 := block_start I3 ok hN f3
  have pg := hg s3 (upd H2 D (.lst [])) s3.heap.objs.size (cellsFrom (s3.heap.objs.size + 1) scope.names (cloFrom X.env.cells scope.names [])) fp
  have pt := ht s3 (upd H2 D (.lst [])) s3.heap.objs.size (cellsFrom (s3.heap.objs.size + 1) scope.names (cloFrom X.env.cells scope.names [])) fp
  have pe := he s3 (upd H2 D (.lst [])) s3.heap.objs.size (cellsFrom (s3.heap.objs.size + 1) scope.names (cloFrom X.env.cells scope.names [])) fp _ _
    (takes_blk (scope := scope) (ce := compEnvC scope (cellsFrom (s3.heap.objs.size + 1) scope.names (cloFrom X.env.cells scope.names [])) s3.heap.objs.size X.env) tk hstk hfrm rfl I3 (Nat.le_refl _) fun b hb => (f3 b hb).1)
  show codeAny _ _ (.compStart (.ListComp elt [⟨tg, iter, ifs, 0⟩] scope pos) 0 (.ref it) (.ref D) (compEnvC scope (cellsFrom (s3.heap.objs.size + 1) scope.names (cloFrom X.env.cells scope.names [])) s3.heap.objs.size X.env)) (compEnds (model X.prog X.w) X.A X.xe use Qf (.ref D) (compEnvC scope (cellsFrom (s3.heap.objs.size + 1) scope.names (cloFrom X.env.cells scope.names [])) s3.heap.objs.size X.env)) { s3 with heap := pushCells (s3.heap.push { cls := .type "dict", data := .dict #[] }) scope.names }
  have nfp : ∀ b ∈ fp, (upd H2 D (.lst [])) b = none := fun b hb => (f3 b hb).1.1
  generalize hce : compEnvC scope (cellsFrom (s3.heap.objs.size + 1) scope.names (cloFrom X.env.cells scope.names [])) s3.heap.objs.size X.env = ce at I4 pg pt pe ⊢
  have cL : ce.locals = s3.heap.objs.size := by subst hce; rfl
  generalize hH3 : upd H2 D (.lst []) = H3 at I3 I4 pg pt pe w0 nfp f3
  generalize hs4 : ({ s3 with heap := pushCells (s3.heap.push { cls := .type "dict", data := .dict #[] }) scope.names } : Shared) = s4 at I4 ⊢
  have st4 : tn 0 s4.heap := T.keep _ _ _ st3 fun b _ o e => by rw [← hs4]; exact pushCells_keeps _ _ _ _ (Heap.get?_push_of_some _ e)
  have stat : ∀ {σ' : L2.St} {H' : Hp} {s' : Shared}, Inv (X.blk s3 H3 scope ce fp) [] σ' H' s' → (∀ b ∈ fp, H' b = none) → ∀ b ∈ fp, FpOk (X.blk s3 H3 scope ce fp) [] H' b := fun {σ' H' s'} I' hn b hb =>
    ⟨hn b hb, (I'.ok.exf b hb).1, I'.ok.exfs b hb, .inl hb, fun x c e => (I'.ok.exf b hb).2 x c e, fun p hp => absurd (show p ∈ ([] : List (Addr × Obj)) ++ [] from hp) (by simp)⟩
  have erR : ∀ x s', CompFails (model X.prog X.w) X.A X.xe ce x s' → compEnds (model X.prog X.w) X.A X.xe use Qf (.ref D) ce (.error x) s' := fun x s' q => by cases use <;> exact q
  have loop : codeAny (model X.prog X.w) X.A (.compLoop (.ListComp elt [⟨tg, iter, ifs, 0⟩] scope pos) 0 (.ref it) (.ref D) ce) (compEnds (model X.prog X.w) X.A X.xe use Qf (.ref D) ce) s4 := by
    refine compLoop_any (fun n s' => ∃ i H', Inv (X.blk s3 H3 scope ce fp) [] (wipe σ (own.map (·.2))) H' s' ∧ tn i s'.heap ∧ (∀ b ∈ fp, H' b = none) ∧ Wn i n H') ?_ m0 ⟨0, H3, I4, st4, nfp, w0⟩
    rintro n s5 ⟨i, H5, I5, st5, n5, w5⟩
    rcases turn i n H5 w5 with ⟨stop, qq⟩ | ⟨go, Nx, hNx, step⟩
    · have td := T.done (X.blk s3 H3 scope ce fp) rfl rfl rfl hc i [] s5 _ H5 (fun _ _ => False) I5 (stat I5 n5) st5 stop
      refine thnF td fun r s6 ⟨hr, I6⟩ => ?_
      subst hr
      have I7 : Inv X pins σ H5 s6 := I3.call' (ch := fp) I6.os I6.base I6.hok I6.bare fun b hb => ⟨(f3 b hb).1.2.2.2.1, (f3 b hb).1.2.1, (f3 b hb).1.2.2.2.2.1, (f3 b hb).1.2.2.2.2.2⟩
      have nC : H5 ce.locals = none := I6.free
      obtain ⟨m, hn, _⟩ := I6.loc
      have hn : s6.heap.Ns ce.locals m := hn
      exact hRR D ce s6 m H5 I7 qq hn (I3.fpOk (Nat.le_of_eq cL.symm) nC)
    · have ti := T.item (X.blk s3 H3 scope ce fp) rfl rfl rfl hc i [] s5 _ H5 (fun _ _ => False) I5 (stat I5 n5) st5 go
      refine thnF ti fun r s6 ⟨u, hr, h6⟩ => ?_
      subst hr
      refine thnF h6 fun _ s7 ⟨x, H7, I7, r7, y7, st7, n7⟩ => ?_
      have I7' := I7.pinned (stat I7 n7) (T.obj _ _ st7)
      refine thnF (pg.run _ s7 _ H7 x u _ I7' r7 (step x H7 y7)) fun _ s8 ⟨σ8, H8, I8, hw8, q8⟩ => ?_
      refine thnF (pt.run _ s8 σ8 H8 _ I8 q8) fun b s9 ⟨H9, I9, q9⟩ => ?_
      have fin : ∀ {s' : Shared} {H' : Hp}, Inv (X.blk s3 H3 scope ce fp) ([] ++ pinsAt fp s7.heap) σ8 H' s' → Nx H' → ∃ m, m < n ∧ ∃ i H', Inv (X.blk s3 H3 scope ce fp) [] (wipe σ (own.map (·.2))) H' s' ∧ tn i s'.heap ∧ (∀ b ∈ fp, H' b = none) ∧ Wn i m H' := fun {s' H'} I' nx => by
        obtain ⟨m', hm, w'⟩ := hNx H' nx
        have pin' : ∀ b ∈ fp, ∀ o, s7.heap.get? b = some o → s'.heap.get? b = some o ∧ H' b = none := fun b hb o e =>
          let z := I'.pin (b, o) (List.mem_append_right _ (List.mem_append_right _ (mem_pinsAt hb e)))
          ⟨z.1, z.2.1⟩
        have hl : (wipe σ (own.map (·.2))).length = σ8.length := by rw [← hw8, wipe_length]
        refine ⟨m', hm, i + 1, H', (I'.unpinned (pins := [])).weak hl (fun j v e => ?_), T.keep _ _ _ st7 fun b hb o e => (pin' b hb o e).1, fun b hb => ?_, w'⟩
        · rw [← hw8] at e
          exact (wipe_some e).1
        · obtain ⟨o, e, _⟩ := T.obj _ _ st7 b hb
          exact (pin' b hb o e).2
      cases b with
      | false =>
        simp only [Bool.false_eq_true, if_false] at q9 ⊢
        exact fin I9 q9
      | true =>
        simp only [if_true] at q9 ⊢
        refine wpAny_mono (pe.run _ s9 σ8 H9 _ (I9.wish _) q9) (fun z s10 ⟨yv, H10, I10, r10, acc, hD10, hz10, nx⟩ => ?_) fun x s' q => wpAny_mono q (fun _ _ q => erR _ _ q) fun _ _ q => erR _ _ q
        exact app_ok (X := X.blk s3 H3 scope ce fp) I10.unwish hD10 hz10 r10 fun s11 I11 => fin I11 nx
  exact codeAny_compStart_list loop (T.self X.A 0 _ _ _ st4 loop)
theorem pe_lcX {elt tg iter : Expr} {ifs : List Expr} {scope : Scope} {own : List (Str × Nat)} {pos : Pos} {wi : TI} {g : TG} {tt : TT} {te : WX → TE} (hc : X.calm = true) (hN : X.N.Nodup) (tk : Takes X W) (hstk : X.stack = X.env :: X.outer) (hfrm : X.env.frame = some X.env.locals) (hi : PI X tg iter wi) (ok : BlkOk X.N X.env.scope scope own)
    (hg : ∀ (s : Shared) (H : Hp) (C : Addr) (cl : List (Str × Addr)) (fp : List Addr), PG (X.blk s H scope (compEnvC scope cl C X.env) fp) tg g) (ht : ∀ (s : Shared) (H : Hp) (C : Addr) (cl : List (Str × Addr)) (fp : List Addr), PTs (X.blk s H scope (compEnvC scope cl C X.env) fp) ifs tt)
    (he : ∀ (s : Shared) (H : Hp) (C : Addr) (cl : List (Str × Addr)) (fp : List Addr) (E : Value → Shared → Prop) (W' : WX), Takes ((X.blk s H scope (compEnvC scope cl C X.env) fp).wish E) W' → PE ((X.blk s H scope (compEnvC scope cl C X.env) fp).wish E) elt (te W')) (hs : ∀ x, foldedSetIterable iter X.env x = pure x := by intro _; rfl) :
    PE X (.ListComp elt [⟨tg, iter, ifs, 0⟩] scope pos) (tLcX wi g tt te W (own.map (·.2))) := by
  refine ⟨fun pins s σ H Q I h => ?_⟩
  rw [eval_ListComp]
  refine lcX_core hc hN tk hstk hfrm I hi ok hg ht he hs h fun D ce s' m H' I' q hn f => ⟨m, hn, fun h'' sb => ?_⟩
  obtain ⟨f0, f1, f2, f3, f4, f5⟩ := f
  exact ⟨.ref D, H', I'.turned (t' := s'.toks) (fun b o hb e => (sb.2 b hb).trans e) f0 f1 f3 f4 f5, rfl, q⟩
end
open Classical in
noncomputable def compDX (p : Pat) (mt : M Bool) (me : M D) (chk : Store → Prop) (env : En) : List D → Store → Res (List D)
  | [], S => if chk S then .ok [] S else .bad
  | d :: ds, S => if chk S then (match p d env with
    | none => .bad
    | some e1 => match mt e1 S with
      | .ok true S1 => (match me e1 S1 with
        | .ok x S2 => (compDX p mt me chk env ds S2).bind fun xs S3 => .ok (x :: xs) S3
        | .err c S2 => .err c S2
        | .bad => .bad)
      | .ok false S1 => compDX p mt me chk env ds S1
      | _ => .bad) else .bad
noncomputable def fCompX (mi : M IT) (p : Pat) (mt : M Bool) (me : M D) (own : List Nat) : M (List D) := fun env S => (mi env S).bind fun t S1 => if t.ds.length ≤ big then compDX p mt me t.chk (clr env own) t.ds S1 else .bad
section
variable {K : PySem.W.Frag} {G : Addr → Prop} {ρ ρ' : List Addr} {H H' : Hp} {d : Addr} {S S' : Store}
theorem RelS.unguard {vs : List V} (r : RelS K (gAnd G d) ρ S H) (h : H d = some (.lst vs)) (hd : ¬ G d) : RelS K G ρ S H := by
  have r1 := r.down h hd
  have r2 : RelS K G ρ S (upd (era H d) d (.lst vs)) := r1.new era_same
  rwa [upd_era h] at r2
theorem Keep.back {vs : List V} (k : Keep G ρ H ρ' (era H' d)) (h : H' d = some (.lst vs)) (hg : ∀ a, G a → ∃ u, era H' d a = some u) : Keep G ρ H ρ' H' := by
  have k2 : Keep G ρ' (era H' d) ρ' (upd (era H' d) d (.lst vs)) := Keep.new era_same hg
  rw [upd_era h] at k2
  exact k.trans k2
end
section
variable {X : Cx} {elt tg iter : Expr} {pos : Pos} {cA : Nat → Addr} {W : WX}
theorem comp_readX {K : PySem.W.Frag} {mi : M IT} {p : Pat} {mt : M Bool} {me : M D} {own : List Nat} : ∀ σ H Q, tFr K cA W (fCompX mi p mt me own) σ H Q → tLcX (tI K cA W mi) (tGo K p own) (tT K cA W0 mt) (fun W' => tE K cA W' me) W own σ H Q := by
  rintro σ H Q ⟨G, ρ, env, S, hE, hS, h⟩
  refine ⟨G, ρ, env, S, hE, hS, OkF.bind h fun t S1 J ρ1 H1 r1 wd k1 h1 => ?_⟩
  intro dA hdA
  have ng : ¬ G dA := r1.ngn hdA
  by_cases hbig : t.ds.length ≤ big
  · rw [if_pos hbig] at h1
    have hE1 : RelE K G ρ1 H1 (clr env own) (wipe σ own) := clr_wipe_rel (hE.keep k1) own
    let P : Nat → Hp → Prop := fun i H' => ∃ ρ' S' acc vs, RelS K G ρ' S' (era H' dA) ∧ Keep G ρ1 H1 ρ' (era H' dA) ∧ H' dA = some (.lst vs) ∧ RepL K G ρ' (era H' dA) acc vs ∧ acc.length ≤ i ∧
      OkF K G ρ' (era H' dA) ((compDX p mt me t.chk (clr env own) (t.ds.drop i) S').bind fun xs S3 => .ok (acc ++ xs) S3) (WE' cA W σ) Q
    refine ⟨fun i m H' => m = t.ds.length - i ∧ i ≤ t.ds.length ∧ P i H', ⟨t.ds.length, rfl, Nat.zero_le _, ρ1, S1, [], [], ?_, ?_, upd_same, rfl, Nat.le_refl _, ?_⟩, ?_⟩
    · rw [era_upd, era_none hdA]; exact r1
    · rw [era_upd, era_none hdA]; exact Keep.refl
    · rw [era_upd, era_none hdA]
      have e : (compDX p mt me t.chk (clr env own) t.ds S1).bind (fun xs S3 => Res.ok ([] ++ xs) S3) = compDX p mt me t.chk (clr env own) t.ds S1 := by
        cases compDX p mt me t.chk (clr env own) t.ds S1 <;> rfl
      show OkF K G ρ1 H1 ((compDX p mt me t.chk (clr env own) t.ds S1).bind fun xs S3 => .ok ([] ++ xs) S3) (WE' cA W σ) Q
      rw [e]
      exact h1
    · rintro i m H' ⟨rfl, hi, ρ2, S2, acc, vs, r2, k2, hD, ra, hacc, h2⟩
      have ru : RelS K (gAnd G dA) ρ2 S2 H' := r2.up hD
      have ku : Keep2 G ρ1 H1 (gAnd G dA) ρ2 H' := by
        refine ⟨k2.pre, fun a xs q => (up2 (G := G) (ρ := ρ2) hD).tup a xs (k2.tup a xs q), fun a xs q1 q2 q3 => ?_, fun a o u q => (up2 (G := G) (ρ := ρ2) hD).frz a o u (k2.frz a o u q)⟩
        obtain ⟨z1, z2⟩ := k2.lst a xs q1 q2 q3
        exact (up2 (G := G) (ρ := ρ2) hD).lst a xs z1 q2 z2
      by_cases hlt : i < t.ds.length
      · have hd : t.ds.drop i = t.ds[i] :: t.ds.drop (i + 1) := (List.getElem_cons_drop hlt).symm
        rw [hd] at h2
        unfold compDX at h2
        by_cases hch : t.chk S2
        · rw [if_pos hch] at h2
          refine .inr ⟨wd.go (gAnd G dA) ρ2 S2 H' i ku ru hch hlt, P (i + 1), fun H3 q => ⟨t.ds.length - (i + 1), by omega, rfl, hlt, q⟩, fun x H3 hy => ?_⟩
          obtain ⟨x3, k3, r3⟩ := wd.yld (gAnd G dA) ρ2 S2 H' i t.ds[i] x H3 ku ru hch (by rw [List.getElem?_eq_getElem hlt]) hy
          have eu : RelE K (gAnd G dA) ρ2 H3 (clr env own) (wipe σ own) := ((hE1.keep k2).keep2 (up2 hD)).keep k3
          refine ⟨gAnd G dA, ρ2, clr env own, t.ds[i], eu, x3, ?_⟩
          have hD3 : H3 dA = some (.lst vs) := by rw [k3.grd dA (.inr rfl)]; exact hD
          revert h2
          cases p t.ds[i] (clr env own) with
          | none => exact fun h => h
          | some en1 =>
            intro h2 σ3 e3 w3
            refine ⟨by rw [w3, wipe_wipe], gAnd G dA, ρ2, en1, S2, e3, r3, ?_⟩
            revert h2
            dsimp only
            cases mt en1 S2 with
            | bad => exact fun h => h
            | err c S4 => exact fun h => h.elim
            | ok b S4 =>
              intro h2 b' ρ4 H4 r4 eb k4
              cases (show b' = b from eb)
              have hD4 : H4 dA = some (.lst vs) := by rw [k4.grd dA (.inr rfl)]; exact hD3
              have kk4 : Keep (gAnd G dA) ρ2 H' ρ4 H4 := k3.trans k4
              have kd4 := kk4.down hD ng
              cases b with
              | false =>
                refine iteF ⟨ρ4, S4, acc, vs, r4.down hD4 ng, k2.trans kd4, hD4, RepL.keep kd4 _ _ ra, by omega, h2.keep kd4⟩
              | true =>
                refine iteT ⟨gAnd G dA, ρ4, en1, S4, e3.keep k4, r4, ?_⟩
                revert h2
                dsimp only
                cases me en1 S4 with
                | bad => exact fun h => h
                | err c S5 =>
                  intro h2 ρ5 H5 r5 k5
                  have hD5 : H5 dA = some (.lst vs) := by rw [k5.grd dA (.inr rfl)]; exact hD4
                  have kd5 := (kk4.trans k5).down hD ng
                  exact h2 ρ5 H5 (r5.unguard hD5 ng) (kd5.back hD5 (r5.down hD5 ng).gt)
                | ok y S5 =>
                  intro h2 v ρ5 H5 r5 x5 k5
                  have hD5 : H5 dA = some (.lst vs) := by rw [k5.grd dA (.inr rfl)]; exact hD4
                  have kd5 := (kk4.trans k5).down hD ng
                  refine ⟨vs, hD5, ?_, ρ5, S5, acc ++ [y], vs ++ [v], ?_, ?_, upd_same, ?_, by simp; omega, ?_⟩
                  · have := ra.length
                    exact big_lt (by omega)
                  · rw [era_upd]; exact r5.down hD5 ng
                  · rw [era_upd]; exact k2.trans kd5
                  · rw [era_upd]
                    exact (RepL.keep kd5 _ _ ra).snoc (Rep.keep2 (down2 hD5) y v x5)
                  · rw [era_upd]
                    refine OkF.keep kd5 ?_
                    have e : ((compDX p mt me t.chk (clr env own) (t.ds.drop (i + 1)) S5).bind fun xs S3 => Res.ok (y :: xs) S3).bind (fun xs S3 => Res.ok (acc ++ xs) S3) = (compDX p mt me t.chk (clr env own) (t.ds.drop (i + 1)) S5).bind fun xs S3 => .ok (acc ++ [y] ++ xs) S3 := by
                      cases compDX p mt me t.chk (clr env own) (t.ds.drop (i + 1)) S5 <;> simp [Res.bind]
                    rw [← e]
                    exact h2
        · rw [if_neg hch] at h2
          exact h2.elim
      · have e : i = t.ds.length := by omega
        subst e
        rw [List.drop_length] at h2
        unfold compDX at h2
        by_cases hch : t.chk S2
        · rw [if_pos hch] at h2
          refine .inl ⟨wd.stop (gAnd G dA) ρ2 S2 H' ku ru hch, ?_⟩
          have q := h2 dA vs ρ2 (era H' dA) r2 (by rw [List.append_nil]; exact ra) Keep.refl era_same
          rw [upd_era hD] at q
          exact q
        · rw [if_neg hch] at h2
          exact h2.elim
  · rw [if_neg hbig] at h1
    exact h1.elim
theorem jf_lcX {ifs : List Expr} {scope : Scope} (own : List (Str × Nat)) {mi : M IT} {p : Pat} {mt : M Bool} {me : M D} (hc : X.calm = true) (hN : X.N.Nodup) (tk : Takes X W) (hstk : X.stack = X.env :: X.outer) (hfrm : X.env.frame = some X.env.locals) (hi : PI X tg iter (tI X.K cA W mi)) (ok : BlkOk X.N X.env.scope scope own)
    (hg : ∀ (s : Shared) (H : Hp) (C : Addr) (cl : List (Str × Addr)) (fp : List Addr), PG (X.blk s H scope (compEnvC scope cl C X.env) fp) tg (tGo X.K p (own.map (·.2)))) (ht : ∀ (s : Shared) (H : Hp) (C : Addr) (cl : List (Str × Addr)) (fp : List Addr), PTs (X.blk s H scope (compEnvC scope cl C X.env) fp) ifs (tT X.K cA W0 mt))
    (he : ∀ (s : Shared) (H : Hp) (C : Addr) (cl : List (Str × Addr)) (fp : List Addr) (E : Value → Shared → Prop) (W' : WX), Takes ((X.blk s H scope (compEnvC scope cl C X.env) fp).wish E) W' → PE ((X.blk s H scope (compEnvC scope cl C X.env) fp).wish E) elt (tE X.K cA W' me)) (hs : ∀ x, foldedSetIterable iter X.env x = pure x := by intro _; rfl) :
    PE X (.ListComp elt [⟨tg, iter, ifs, 0⟩] scope pos) (tFr X.K cA W (fCompX mi p mt me (own.map (·.2)))) :=
  pe_imp (pe_lcX (te := fun W' => tE X.K cA W' me) hc hN tk hstk hfrm hi ok hg ht he hs) comp_readX
end
section
variable {α β : Type} {B : Bs} {sl : List Sl} {t : α → D}
def compRX (fe : α → R β) : List α → R (List β)
  | [] => .ok []
  | x :: l => (fe x).bind fun y => (compRX fe l).bind fun ys => .ok (y :: ys)
@[irreducible] def compBX (fe : α → R β) (l : List α) : R (List β) := if l.length ≤ big then compRX fe l else .bad
theorem comp_runX {u : β → D} {p : Pat} {me : M D} {Es : α → List Sl} {fe : α → R β} {chk : Store → Prop} {env : En} {S : Store} (r : SRel B sl env S) (hk : chk S) (hp : XPt B p t sl Es) (he : ∀ x, XE B (Es x) me (vP u) (fe x)) : ∀ l : List α, Out S (vP (lM u)) (compRX fe l) (compDX p tYes' me chk env (l.map t) S)
  | [] => by rw [List.map_nil]; unfold compDX; rw [if_pos hk]; exact ⟨_, rfl, rfl⟩
  | x :: l => by
    obtain ⟨e1, q1, r1⟩ := hp x env S r
    rw [List.map_cons]
    unfold compDX compRX
    rw [if_pos hk, q1]
    show Out S (vP (lM u)) ((fe x).bind fun y => (compRX fe l).bind fun ys => .ok (y :: ys)) (match me e1 S with
      | .ok x S2 => (compDX p tYes' me chk env (l.map t) S2).bind fun xs S3 => .ok (x :: xs) S3
      | .err c S2 => .err c S2
      | .bad => .bad)
    have h2 := he x e1 S r1
    cases ee : fe x with
    | bad => trivial
    | err c => rw [ee] at h2; rw [show me e1 S = _ from h2]; rfl
    | ok y =>
      rw [ee] at h2
      obtain ⟨d, q4, q5⟩ := h2
      cases q5
      rw [q4]
      show Out S (vP (lM u)) ((compRX fe l).bind fun ys => .ok (y :: ys)) ((compDX p tYes' me chk env (l.map t) S).bind fun xs S3 => .ok (u y :: xs) S3)
      exact Out.bind (comp_runX r hk hp he l) fun a d q => by cases q; exact ⟨_, rfl, rfl⟩
theorem xe_compX {u : β → D} {mi : M IT} {p : Pat} {me : M D} {own : List Nat} {Es : α → List Sl} {fi : R (List α)} {fe : α → R β} {f' : R (List β)} (hi : XE B sl mi (iP t) fi) (hp : XPt B p t (clrS sl own) Es) (he : ∀ x, XE B (Es x) me (vP u) (fe x)) (e : (fi.bind fun l => compBX fe l) = f' := by rfl) : XE B sl (fCompX mi p tYes' me own) (vP (lM u)) f' := fun env S r => by
  rw [← e]
  refine Out.bind (hi env S r) fun l it q => ?_
  obtain ⟨q1, q2⟩ := q
  unfold compBX
  rw [q1, List.length_map]
  by_cases hl : l.length ≤ big
  · rw [if_pos hl, if_pos hl]
    exact comp_runX (r.clr own) q2 hp he l
  · rw [if_neg hl]; trivial
end
end Rf

set_option synthInstance.maxSize 2000
namespace Rf
open PySem PySem.Spec PyProof.Rows L2
section
variable {α β γ δ σ κ : Type} {t : α → D} {u : β → D} {B : Bs} {sl : List Sl}
def OutLoF (fo : κ → Ob) (S : Store) (q : Nat) (t : α → D) (f : R (List α × κ)) (r : Res D) : Prop := match f with
  | .ok (x, g) => ∃ i S', r = .ok (.cell i) S' ∧ Fr ⟨S, [q]⟩ S' ∧ S.length ≤ i ∧ S'[i]? = some (.lst (x.map t)) ∧ S'[q]? = some (fo g)
  | .err _ => False
  | .bad => True
theorem xb_retLoF {fo : κ → Ob} {g : κ} {q iF : Nat} {l : List α} (i : Nat) (hi : sl[i]? = some (.c (l.map t))) (hF : sl[iF]? = some (.f (some q) (fo g))) (hq : q < B.S0.length) : XB B sl (sRet (eVar i)) (rF fo q (rLo B t)) (.ok (l, g)) := fun env S r => by
  obtain ⟨n, e, p⟩ := r.c hi
  obtain ⟨n2, e1, e2, e3⟩ := r.f hF
  rw [e3 q rfl] at e2
  unfold sRet
  rw [show (eVar i : M D) env S = .ok (.cell n) S from by unfold eVar; rw [e]]
  exact ⟨.cell n, S, .inl rfl, ⟨⟨n, rfl, (r.own i _ _ hi e n (List.mem_singleton.mpr rfl)).elim id fun z => (nomatch z.2), p⟩, e2⟩, r.frm⟩
theorem fn_LoF {fo : κ → Ob} {g : κ} (hpf : ∀ g, (fo g).pure = true) {N q : Nat} {body : MS} {ds : List D} {ss : List Sl} {S : Store} {f : R (List α × κ)} (hq : S[q]? = some (fo g)) (hp : PRels S [q] ds ss) (hf : nfe ss ≤ 1) (h : XB ⟨S, [q]⟩ (ss ++ List.replicate (N - ds.length) .u) body (rF fo q (rLo ⟨S, [q]⟩ t)) f) : OutLoF fo S q t f.ne (runFn .raw N body ds S) := by
  have h1 := h _ S (init_rel (N - ds.length) hp hf)
  unfold runFn
  cases f with
  | bad => trivial
  | err c => trivial
  | ok x =>
    obtain ⟨x, g'⟩ := x
    obtain ⟨d, S1, q1, ⟨⟨i, rfl, hi, si⟩, q4⟩, q3⟩ := h1
    have key : fin .raw S (.cell i) S1 = .ok (.cell i) S1 := by
      unfold fin
      rw [if_pos (FrQ.stOk q3 q4 (hpf g'))]
    rcases q1 with q1 | ⟨q0, _⟩
    · rw [q1]; exact ⟨i, S1, key, q3, hi, si, q4⟩
    · cases q0
theorem xn_asgLoF {P0 : γ → D → Store → Prop} {fo : κ → Ob} {F : κ → γ → R (List α × κ)} {m : List D → Store → Res D} {g : κ} {qo : Option Nat} {iF : Nat} {m0 : M D} {f0 : R γ} {f' : R (List α × κ)} (j : Nat) (hF : ∀ g a d q S, S[q]? = some (fo g) → P0 a d S → OutLoF fo S q t (F g a) (m [.cell q, d] S)) (hi : sl[iF]? = some (.f qo (fo g))) (h0 : XE B sl m0 P0 f0) (e : (f0.bind fun a => F g a) = f' := by rfl) :
    XN B sl (sAsg (eCall 2 m (aCons (eVar iF) (aCons m0 aNil))) (pName j)) (fun p => (sl.set iF (.f qo (fo p.2))).set j (.c (p.1.map t))) f' := fun env S r => by
  rw [← e]
  obtain ⟨q, e1, q1, q2⟩ := r.f hi
  have ev : (eVar iF : M D) env S = .ok (.cell q) S := by unfold eVar; rw [e1]
  unfold sAsg eCall
  simp only [aCons, aNil, res_assoc, bind_ok, ev]
  have w := h0 env S r
  cases f0 with
  | bad => trivial
  | err c => rw [show m0 env S = .err c S from w]; exact ⟨env, S, rfl, r.frm⟩
  | ok a =>
  obtain ⟨d, w1, p0⟩ := w
  rw [w1]
  simp only [bind_ok]
  rw [if_pos (show [D.cell q, d].length = 2 from rfl)]
  have key := hF g a d q S q1 p0
  show OutN B _ (F g a) _
  cases hx : F g a with
  | bad => trivial
  | err c => rw [hx] at key; exact key.elim
  | ok v =>
    obtain ⟨x, g'⟩ := v
    rw [hx] at key
    obtain ⟨c, S', y1, y2, y3, y4, y5⟩ := key
    rw [y1]
    have hq : q < S.length := (List.getElem?_eq_some_iff.mp q1).1
    have r1 := r.wrf (fo g') hi e1 q1 q2
    have fr : Fr ⟨S.set q (fo g'), []⟩ S' := ⟨by show (S.set q (fo g')).length ≤ _; rw [List.length_set]; exact y2.len, fun k hk _ => by
      have hk' : k < S.length := by rw [show (Bs.mk (S.set q (fo g')) []).S0.length = S.length from List.length_set ..] at hk; exact hk
      show S'[k]? = (S.set q (fo g'))[k]?
      by_cases hkq : k = q
      · rw [hkq, y5, List.getElem?_set_self hq]
      · rw [List.getElem?_set_ne (Ne.symm hkq)]
        exact y2.same k hk' (fun z => hkq (List.mem_singleton.mp z))⟩
    have r2 := r1.more fr
    refine ⟨_, S', rfl, ?_⟩
    refine r2.put (s := .c (x.map t)) (o := some (.cell c)) ⟨c, rfl, y4⟩ (fun z hz => by rw [List.mem_singleton.mp hz]; exact .inl (Nat.le_trans r.frm.len y3))
      (fun k s' o' hk p1 p2 => ⟨fun z hz => rfl, fun z hz hz2 => ?_, fun z hz hz2 => ?_⟩) r2.frm
    · have := rc_lt (r1.at_ k s' o' p1 p2) hz2
      rw [List.length_set, List.mem_singleton.mp hz] at this
      omega
    · have := rc_lt (r1.at_ k s' o' p1 p2) (mc_rc hz)
      rw [List.length_set, List.mem_singleton.mp (show z ∈ [c] from hz2)] at this
      omega
theorem xn_insFF {τ : Type} {E : σ → List Sl} {E' : τ → List Sl} {mp m : M D} {fp : R (Int × σ)} {fa : σ → R (α × τ)} {f' : R (List α × τ)} {l : List α} (i : Nat) (h0 : sl[i]? = some (.c (l.map t))) (hi : ∀ s, (E' s)[i]? = some (.c (l.map t))) (hp : XI B sl E mp (vP yI) fp) (h : ∀ s, XI B (E s) E' m (vP t) (fa s))
    (e : (fp.bind fun p => (fa p.2).bind fun a => (insR l p.1 a.1).bind fun l' => .ok (l', a.2)) = f' := by rfl) : XN B sl (sExpr (eMt dInsert isLst (eVar i) (aCons mp (aCons m aNil)))) (fun q => (E' q.2).set i (.c (q.1.map t))) f' := fun env S r => by
  rw [← e]
  obtain ⟨n, e1, q⟩ := r.c h0
  obtain ⟨c1, c2, c3⟩ := cell_of q
  have then_assoc : ∀ {X Y : Type} (r : Res X) (p : X → Store → Res Y) (k : Y → Store → RS), (r.bind p).then env k = r.then env fun x S => (p x S).then env k := fun r p k => by cases r <;> rfl
  unfold sExpr eMt eVar aCons
  rw [e1]
  dsimp only [bind_ok]
  rw [if_pos c3]
  simp only [then_assoc, bind_ok]
  refine OutI.thenN (hp env S r) fun k s d S1 pa r1 => ?_
  cases pa
  refine OutI.thenN (h s env S1 r1) fun a s2 d2 S2 pa2 r2 => ?_
  cases pa2
  unfold aNil
  obtain ⟨n', e2, q'⟩ := r2.c (hi s2)
  rw [e1] at e2
  cases e2
  obtain ⟨c1, c2, c3⟩ := cell_of q'
  dsimp only [then_ok, bind_ok]
  unfold dInsert insR
  rw [c1]
  show OutN B _ ((if l.length < big ∧ 0 ≤ k ∧ k < 1000000000 then R.ok (l.take k.toNat ++ [a] ++ l.drop k.toNat) else R.bad).bind _) (Res.then (if (l.map t).length < big ∧ 0 ≤ k ∧ k < 1000000000 then _ else _) env _)
  rw [List.length_map]
  by_cases hl : l.length < big ∧ 0 ≤ k ∧ k < 1000000000
  · rw [if_pos hl, if_pos hl]
    refine ⟨env, _, rfl, ?_⟩
    have := r2.wr ((l.map t).take k.toNat ++ [t a] ++ (l.map t).drop k.toNat) (hi s2) e1 q'
    rw [show (l.map t).take k.toNat ++ [t a] ++ (l.map t).drop k.toNat = (l.take k.toNat ++ [a] ++ l.drop k.toNat).map t by simp [List.map_take, List.map_drop]] at this ⊢
    exact this
  · rw [if_neg hl]; trivial
def pairA (x : PD) : R (Int × Int) := match x.1 with
  | .tup [.int a, .int b] => .ok (a, b)
  | _ => .bad
def pairsA : List PD → R (List (Int × Int))
  | [] => .ok []
  | x :: l => (pairA x).bind fun p => (pairsA l).bind fun ps => .ok (p :: ps)
theorem pairA_ok {x : PD} {p : Int × Int} (h : pairA x = .ok p) : x.1 = yP2 yI yI p := by
  unfold pairA at h
  split at h
  · rename_i a b e; cases h; exact e
  · cases h
theorem pairA_ne {x : PD} {c : Nat} (h : pairA x = .err c) : False := by
  unfold pairA at h
  split at h <;> cases h
theorem pairsA_ok : ∀ {l : List PD} {ps : List (Int × Int)}, pairsA l = .ok ps → l.map yA = ps.map (yP2 yI yI)
  | [], ps, h => by cases h; rfl
  | x :: l, ps, h => by
    unfold pairsA at h
    cases h1 : pairA x with
    | bad => rw [h1] at h; cases h
    | err c => rw [h1] at h; cases h
    | ok p =>
      rw [h1] at h
      have h : ((pairsA l).bind fun ps => R.ok (p :: ps)) = .ok ps := h
      cases h2 : pairsA l with
      | bad => rw [h2] at h; cases h
      | err c => rw [h2] at h; cases h
      | ok qs =>
        rw [h2] at h
        cases h
        rw [List.map_cons, List.map_cons, pairsA_ok h2]
        exact congrArg (· :: _) (pairA_ok h1)
theorem pairsA_ne : ∀ {l : List PD} {c : Nat}, pairsA l = .err c → False
  | [], c, h => by cases h
  | x :: l, c, h => by
    unfold pairsA at h
    cases h1 : pairA x with
    | bad => rw [h1] at h; cases h
    | err c => exact pairA_ne h1
    | ok p =>
      rw [h1] at h
      have h : ((pairsA l).bind fun ps => R.ok (p :: ps)) = .err c := h
      cases h2 : pairsA l with
      | bad => rw [h2] at h; cases h
      | err c => exact pairsA_ne h2
      | ok qs => rw [h2] at h; cases h
theorem pairsA_to (l : List (Int × Int)) : pairsA (l.map (toA (yP2 yI yI))) = .ok l := by
  induction l with
  | nil => rfl
  | cons x l ih => rw [List.map_cons]; unfold pairsA; rw [ih]; rfl
theorem XE.prsL {b : Bool} {m : M D} {f : R (List PD)} {f' : R (List (Int × Int))} (h : XE B sl m (lP b yA) f) (e : (f.bind fun x => pairsA x) = f' := by rfl) : XE B sl m (lP b (yP2 yI yI)) f' := fun env S r => by
  rw [← e]
  have w := h env S r
  cases f with
  | bad => trivial
  | err c => exact w
  | ok l =>
    obtain ⟨d, w1, w2, w3⟩ := w
    show Out S _ (pairsA l) _
    cases hp : pairsA l with
    | bad => trivial
    | err c => exact (pairsA_ne hp).elim
    | ok ps => exact ⟨d, w1, by rw [w2, pairsA_ok hp], w3⟩
end
end Rf

namespace Law
open PySem PySem.Spec PyProof.Rows L2 Rf
def topS (i : Nat) : Stmt := PySem.Challenge.pw_leastcross_k01_webs.main.body.getD i (.Pass ⟨0, 0, 0, 0⟩)
abbrev s_law_feed : Stmt := topS 18
theorem sc_law_feed : FnScope ["_law_cell"] ["_law_cell"] (defScope s_law_feed) := ⟨rfl, rfl, rfl, by decide +kernel, rfl, by decide +kernel, by decide +kernel⟩
abbrev s_law_draw : Stmt := topS 19
theorem sc_law_draw : FnScope ["_law_feed_here", "_law_many", "_law_turn", "_law_digit", "_law_number"] ["_law_feed_here", "_law_many"] (defScope s_law_draw) := ⟨rfl, rfl, rfl, by decide +kernel, rfl, by decide +kernel, by decide +kernel⟩
abbrev s_law_ties : Stmt := topS 20
theorem sc_law_ties : FnScope ["_law_feed_here", "_law_n", "_law_ties_here", "_law_k", "_law_one"] ["_law_feed_here", "_law_n"] (defScope s_law_ties) := ⟨rfl, rfl, rfl, by decide +kernel, rfl, by decide +kernel, by decide +kernel⟩
abbrev s_law_due : Stmt := topS 22
theorem sc_law_due : FnScope ["_law_n", "_law_ties_here", "_law_due_here", "_law_one", "_law_other", "_law_tie"] ["_law_n", "_law_ties_here"] (defScope s_law_due) := ⟨rfl, rfl, rfl, by decide +kernel, rfl, by decide +kernel, by decide +kernel⟩
abbrev s_is_whole : Stmt := topS 14
theorem sc_is_whole : FnScope ["thing"] ["thing"] (defScope s_is_whole) := ⟨rfl, rfl, rfl, by decide +kernel, rfl, by decide +kernel, by decide +kernel⟩
abbrev s_tie_of : Stmt := topS 15
theorem sc_tie_of : FnScope ["thing", "n", "place"] ["thing", "n"] (defScope s_tie_of) := ⟨rfl, rfl, rfl, by decide +kernel, rfl, by decide +kernel, by decide +kernel⟩
abbrev s_web : Stmt := topS 16
theorem sc_web : FnScope ["n", "some", "ties", "one"] ["n", "some"] (defScope s_web) := ⟨rfl, rfl, rfl, by decide +kernel, rfl, by decide +kernel, by decide +kernel⟩
abbrev s_law_told : Stmt := topS 23
theorem sc_law_told : FnScope ["_law_n", "_law_some", "_law_told_here", "e", "_law_others"] ["_law_n", "_law_some"] (defScope s_law_told) := ⟨rfl, rfl, rfl, by decide +kernel, rfl, by decide +kernel, by decide +kernel⟩
abbrev s_law_odd_tie : Stmt := topS 21
theorem sc_law_odd_tie : FnScope ["_law_feed_here", "_law_n", "_law_a", "_law_some"] ["_law_feed_here", "_law_n"] (defScope s_law_odd_tie) := ⟨rfl, rfl, rfl, by decide +kernel, rfl, by decide +kernel, by decide +kernel⟩
abbrev s_law_whole : Stmt := topS 24
theorem sc_law_whole : FnScope ["_law_told_here", "_law_tie", "_law_place"] ["_law_told_here"] (defScope s_law_whole) := ⟨rfl, rfl, rfl, by decide +kernel, rfl, by decide +kernel, by decide +kernel⟩
abbrev s_law : Stmt := topS 25
theorem sc_law : FnScope ["_law_script", "_law_cell", "_law_feed_here", "_law_n", "_law_ties_here", "_law_due_here", "_law_way", "_law_number", "_law_some", "_law_again", "_law_told_here"] ["_law_script"] (defScope s_law) := ⟨rfl, rfl, rfl, by decide +kernel, rfl, by decide +kernel, by decide +kernel⟩
def cn : Nat → Str
  | 0 => "NoWeb"
  | 1 => "CrossError"
  | 2 => "NoDrawing"
  | 3 => "NoLens"
  | 4 => "NoOrder"
  | 5 => "NoPoints"
  | 6 => "NoRoute"
  | 7 => "NoText"
  | 8 => "NoTie"
  | 9 => "TooMany"
  | _ => ""
def ct_CrossError : Nat → Option Bool
  | 0 => some true
  | _ => none
def tabX (x y : Str) : Option Bool := if x = ("NoWeb" : Str) then (if y = ("NoDrawing" : Str) then some false else if y = ("NoLens" : Str) then some false else if y = ("NoOrder" : Str) then some false else if y = ("NoPoints" : Str) then some false else if y = ("NoRoute" : Str) then some false else if y = ("NoText" : Str) then some false else if y = ("NoTie" : Str) then some false else if y = ("NoWeb" : Str) then some true else if y = ("TooMany" : Str) then some false else none) else none
def tbX (x : Str) (T : String) : Option Bool := if x = ("NoWeb" : Str) then (if T = "ValueError" then some true else none) else none
def noX (y : Str) : Bool := if y = ("NoDrawing" : Str) then true else if y = ("NoLens" : Str) then true else if y = ("NoOrder" : Str) then true else if y = ("NoPoints" : Str) then true else if y = ("NoRoute" : Str) then true else if y = ("NoText" : Str) then true else if y = ("NoTie" : Str) then true else if y = ("NoWeb" : Str) then true else if y = ("TooMany" : Str) then true else false
abbrev isx : D → D → Option Bool := isX tabX tbX noX
structure Top (P : Program) (w : World) (K : PySem.W.Frag) (mg : Str → Option Value) (base : Heap) where
  cA : Nat → Addr
  n_ValueError : mg "ValueError" = none
  n_bool : mg "bool" = none
  n_int : mg "int" = none
  n_isinstance : mg "isinstance" = none
  n_len : mg "len" = none
  n_max : mg "max" = none
  n_min : mg "min" = none
  n_range : mg "range" = none
  n_set : mg "set" = none
  n_sorted : mg "sorted" = none
  n_tuple : mg "tuple" = none
  q_NoWeb : Cls K mg "NoWeb" (cA 0)
  q_CrossError : Cls K mg "CrossError" (cA 1)
  q_NoDrawing : Cls K mg "NoDrawing" (cA 2)
  q_NoLens : Cls K mg "NoLens" (cA 3)
  q_NoOrder : Cls K mg "NoOrder" (cA 4)
  q_NoPoints : Cls K mg "NoPoints" (cA 5)
  q_NoRoute : Cls K mg "NoRoute" (cA 6)
  q_NoText : Cls K mg "NoText" (cA 7)
  q_NoTie : Cls K mg "NoTie" (cA 8)
  q_TooMany : Cls K mg "TooMany" (cA 9)
  hx_CrossError : ∀ c b, ct_CrossError c = some b → PySem.W.exmOne K (.ref (cA c)) (.ref (cA 1)) = some b
  hn_CrossError : ∀ c, ct_CrossError c = some true → PySem.W.nsIn K mainGlobals (cn c) = some (some (.ref (cA c)))
  isx : IsX K tabX tbX noX
  t_MOST_PLACES : Tok
  c_MOST_PLACES : mg "MOST_PLACES" = some (.int 10 t_MOST_PLACES)
  t_MOST_TIES : Tok
  c_MOST_TIES : mg "MOST_TIES" = some (.int 18 t_MOST_TIES)
  a_law_feed : Addr
  fd_law_feed : FuncData
  F_law_feed : Fun K "_law_feed" "_law_feed" s_law_feed a_law_feed fd_law_feed
  g_law_feed : mg "_law_feed" = some (.ref a_law_feed)
  b_law_feed : Binds K fd_law_feed ["_law_cell"] []
  a_law_draw : Addr
  fd_law_draw : FuncData
  F_law_draw : Fun K "_law_draw" "_law_draw" s_law_draw a_law_draw fd_law_draw
  g_law_draw : mg "_law_draw" = some (.ref a_law_draw)
  b_law_draw : Binds K fd_law_draw ["_law_feed_here", "_law_many"] []
  a_law_ties : Addr
  fd_law_ties : FuncData
  F_law_ties : Fun K "_law_ties" "_law_ties" s_law_ties a_law_ties fd_law_ties
  g_law_ties : mg "_law_ties" = some (.ref a_law_ties)
  b_law_ties : Binds K fd_law_ties ["_law_feed_here", "_law_n"] []
  a_law_due : Addr
  fd_law_due : FuncData
  F_law_due : Fun K "_law_due" "_law_due" s_law_due a_law_due fd_law_due
  g_law_due : mg "_law_due" = some (.ref a_law_due)
  b_law_due : Binds K fd_law_due ["_law_n", "_law_ties_here"] []
  a_is_whole : Addr
  fd_is_whole : FuncData
  F_is_whole : Fun K "is_whole" "is_whole" s_is_whole a_is_whole fd_is_whole
  g_is_whole : mg "is_whole" = some (.ref a_is_whole)
  b_is_whole : Binds K fd_is_whole ["thing"] []
  a_tie_of : Addr
  fd_tie_of : FuncData
  F_tie_of : Fun K "tie_of" "tie_of" s_tie_of a_tie_of fd_tie_of
  g_tie_of : mg "tie_of" = some (.ref a_tie_of)
  b_tie_of : Binds K fd_tie_of ["thing", "n"] []
  a_web : Addr
  fd_web : FuncData
  F_web : Fun K "web" "web" s_web a_web fd_web
  g_web : mg "web" = some (.ref a_web)
  b_web : Binds K fd_web ["n", "some"] []
  a_law_told : Addr
  fd_law_told : FuncData
  F_law_told : Fun K "_law_told" "_law_told" s_law_told a_law_told fd_law_told
  g_law_told : mg "_law_told" = some (.ref a_law_told)
  b_law_told : Binds K fd_law_told ["_law_n", "_law_some"] []
  a_law_odd_tie : Addr
  fd_law_odd_tie : FuncData
  F_law_odd_tie : Fun K "_law_odd_tie" "_law_odd_tie" s_law_odd_tie a_law_odd_tie fd_law_odd_tie
  g_law_odd_tie : mg "_law_odd_tie" = some (.ref a_law_odd_tie)
  b_law_odd_tie : Binds K fd_law_odd_tie ["_law_feed_here", "_law_n"] []
  a_law_whole : Addr
  fd_law_whole : FuncData
  F_law_whole : Fun K "_law_whole" "_law_whole" s_law_whole a_law_whole fd_law_whole
  g_law_whole : mg "_law_whole" = some (.ref a_law_whole)
  b_law_whole : Binds K fd_law_whole ["_law_told_here"] []
  a_law : Addr
  fd_law : FuncData
  F_law : Fun K "law" "law" s_law a_law fd_law
  g_law : mg "law" = some (.ref a_law)
  b_law : Binds K fd_law ["_law_script"] []
noncomputable def c_law_feed : MS := (sRet (cel (fLst (aCons (eVar 0) (aCons (eC (.int 0)) (aCons (eB dInt (aCons (e2 dGe (eVar 0) (e2 dPow (eC (.int 10)) (eC (.int 18)))) aNil)) aNil))))))
noncomputable def m_law_feed : List D → Store → Res D := runFn .own 1 c_law_feed
noncomputable def c_law_draw : MS := (sSeq (sAsg (e2 dAdd (e2 dIx (eVar 0) (eC (.int 1))) (eC (.int 1))) (pName 2)) (sSeq (sSet (eVar 2) (eVar 0) (eC (.int 1)) dSetL) (sSeq (sCl [3] (sIf (tAnd' (tst (e2 dEq (e2 dIx (eVar 0) (eC (.int 2))) (eC (.int 1)))) (tst (e2 dGt (e2 dIx (eVar 0) (eC (.int 0))) (eC (.int 0))))) (sSeq (sAsg (e2 dMod (e2 dIx (eVar 0) (eC (.int 0))) (eVar 1)) (pName 3)) (sSeq (sSet (e2 dFdiv (e2 dIx (eVar 0) (eC (.int 0))) (eVar 1)) (eVar 0) (eC (.int 0)) dSetL) (sRet (eVar 3)))) sNil)) (sSeq (sAsg (e2 dAdd (e2 dAdd (e2 dMod (e2 dIx (eVar 0) (eC (.int 0))) (e2 dPow (eC (.int 10)) (eC (.int 18)))) (e2 dMulI (e2 dMulI (eC (.int 7919)) (eVar 2)) (eVar 2))) (eVar 2)) (pName 4)) (sSeq (sAsg (e2 dAdd (e2 dMulI (e2 dMod (e2 dMulI (eVar 4) (eC (.int 48271))) (eC (.int 2305843009213693951))) (eC (.int 1442695040888963407))) (eC (.int 4321))) (pName 4)) (sRet (e2 dMod (e2 dFdiv (e2 dMod (eVar 4) (eC (.int 2305843009213693921))) (eC (.int 16))) (eVar 1))))))))
noncomputable def m_law_draw : List D → Store → Res D := runFn .val 5 c_law_draw
noncomputable def c_law_ties_b1 : MS := (sSeq (sAsg (eCall 2 m_law_draw (aCons (eVar 0) (aCons (eVar 1) aNil))) (pName 4)) (sExpr (eMt dAppend isLst (eVar 2) (aCons (eTup (aCons (eVar 4) (aCons (e2 dMod (e2 dAdd (e2 dAdd (eVar 4) (eC (.int 1))) (eCall 2 m_law_draw (aCons (eVar 0) (aCons (e2 dSub (eVar 1) (eC (.int 1))) aNil)))) (eVar 1)) aNil))) aNil))))
noncomputable def c_law_ties : MS := (sSeq (sAsg (cel (fLst aNil)) (pName 2)) (sSeq (sFor (iR1 (aCons (e2 dMulI (eCall 2 m_law_draw (aCons (eVar 0) (aCons (eC (.int 31)) aNil))) (eB dInt (aCons (e2 dGt (eVar 1) (eC (.int 1))) aNil))) aNil)) (pName 3) c_law_ties_b1 [3, 4]) (sRet (eVar 2))))
noncomputable def m_law_ties : List D → Store → Res D := runFn .raw 5 c_law_ties
noncomputable def c_law_due_b1 : MS := (sSeq (sAsg (eTup (aCons (eB (dMin2 false) (aCons (eVar 3) (aCons (eVar 4) aNil))) (aCons (eB (dMin2 true) (aCons (eVar 3) (aCons (eVar 4) aNil))) aNil))) (pName 5)) (sIf (tst (e2 (dInG true) (eVar 5) (eVar 2))) (sExpr (eMt dAppend isLst (eVar 2) (aCons (eVar 5) aNil))) sNil))
noncomputable def c_law_due : MS := (sSeq (sAsg (cel (fLst aNil)) (pName 2)) (sSeq (sFor (iSeq (eVar 1)) (pTup 2 (pCons (pName 3) (pCons (pName 4) pNil))) c_law_due_b1 [3, 4, 5]) (sSeq (sIf (tst (e2 dGt (eB dLen (aCons (eVar 2) aNil)) (eC (.int 18)))) (sRet (eC .non)) sNil) (sRet (eTup (aCons (eVar 0) (aCons (eB dTuple (aCons (fz (eB fSorted (aCons (eVar 2) aNil))) aNil)) aNil)))))))
noncomputable def m_law_due : List D → Store → Res D := runFn .val 6 c_law_due
noncomputable def c_is_whole : MS := (sRet (eAnd (eB dIsi (aCons (eVar 0) (aCons (eC (.ty "int")) aNil))) (eNot (eB dIsi (aCons (eVar 0) (aCons (eC (.ty "bool")) aNil))))))
noncomputable def m_is_whole : List D → Store → Res D := runFn .val 1 c_is_whole
noncomputable def c_tie_of_b1 : MS := (sIf (tOr' (tNot' (tst (eCall 1 m_is_whole (aCons (eVar 2) aNil)))) (tOr' (tst (e2 dLt (eVar 2) (eC (.int 0)))) (tst (e2 dGe (eVar 2) (eVar 1))))) (sRaise 0) sNil)
noncomputable def c_tie_of : MS := (sSeq (sIf (tOr' (tNot' (tst (eB dIsi (aCons (eVar 0) (aCons (eC (.ty "tuple")) aNil))))) (tst (e2 dNe (eB dLen (aCons (eVar 0) aNil)) (eC (.int 2))))) (sRaise 0) sNil) (sSeq (sFor (iSeq (eVar 0)) (pName 2) c_tie_of_b1 [2]) (sSeq (sIf (tst (e2 dEq (e2 dIx (eVar 0) (eC (.int 0))) (e2 dIx (eVar 0) (eC (.int 1))))) (sRaise 0) sNil) (sRet (eTup (aCons (eB (dMin2 false) (aCons (eVar 0) aNil)) (aCons (eB (dMin2 true) (aCons (eVar 0) aNil)) aNil)))))))
noncomputable def m_tie_of : List D → Store → Res D := runFn .val 3 c_tie_of
noncomputable def c_web : MS := (sSeq (sIf (tOr' (tNot' (tst (eCall 1 m_is_whole (aCons (eVar 0) aNil)))) (tOr' (tst (e2 dLt (eVar 0) (eC (.int 1)))) (tst (e2 dGt (eVar 0) (eC (.int 10)))))) (sRaise 0) sNil) (sSeq (sIf (tNot' (tst (eB dIsi (aCons (eVar 1) (aCons (eC (.ty "tuple")) aNil))))) (sRaise 0) sNil) (sSeq (sAsg (fz (fun env S => ((fz (fCompX (iSeq (eVar 1)) (pName 3) tYes' (eCall 2 m_tie_of (aCons (eVar 3) (aCons (eVar 0) aNil))) [3])) env S).bind fun d S1 => fSortSet d S1)) (pName 2)) (sSeq (sIf (tst (e2 dGt (eB dLen (aCons (eVar 2) aNil)) (eC (.int 18)))) (sRaise 0) sNil) (sRet (eTup (aCons (eVar 0) (aCons (eB dTuple (aCons (eVar 2) aNil)) aNil))))))))
noncomputable def m_web : List D → Store → Res D := runFn .val 4 c_web
noncomputable def c_law_told : MS := (sSeq (sAsg (eC .non) (pName 2)) (sSeq (sCl [3, 4] (sTry (sAsg (eCall 2 m_web (aCons (eVar 0) (aCons (eVar 1) aNil))) (pName 2)) ct_CrossError cn 3 (sSeq (sAsg (eB (dIsX isx) (aCons (eVar 3) (aCons (eTup (aCons (eC (.cl "NoDrawing")) (aCons (eC (.cl "NoLens")) (aCons (eC (.cl "NoOrder")) (aCons (eC (.cl "NoPoints")) (aCons (eC (.cl "NoRoute")) (aCons (eC (.cl "NoText")) (aCons (eC (.cl "NoTie")) (aCons (eC (.cl "TooMany")) aNil))))))))) aNil))) (pName 4)) (sAsg (eTup (aCons (eC (.str "refused")) (aCons (eAnd (eB (dIsX isx) (aCons (eVar 3) (aCons (eC (.cl "NoWeb")) aNil))) (eAnd (eB (dIsX isx) (aCons (eVar 3) (aCons (eC (.ty "ValueError")) aNil))) (eNot (eVar 4)))) aNil))) (pName 2))))) (sRet (eVar 2))))
noncomputable def m_law_told : List D → Store → Res D := runFn .val 5 c_law_told
noncomputable def c_law_odd_tie : MS := (sSeq (sAsg (eCall 2 m_law_draw (aCons (eVar 0) (aCons (eVar 1) aNil))) (pName 2)) (sSeq (sAsg (fz (fLst (aCons (eTup (aCons (eVar 2) (aCons (eVar 2) aNil))) (aCons (eTup (aCons (eVar 2) (aCons (eVar 1) aNil))) (aCons (eTup (aCons (eVar 1) (aCons (eVar 2) aNil))) (aCons (eTup (aCons (e1 dNeg (eC (.int 1))) (aCons (eVar 2) aNil))) (aCons (eTup (aCons (eVar 2) (aCons (e1 dNeg (eC (.int 1))) aNil))) (aCons (eTup (aCons (eVar 2) (aCons (e2 dPow (eC (.int 10)) (eC (.int 59))) aNil))) (aCons (eTup (aCons (e1 dNeg (e2 dPow (eC (.int 10)) (eC (.int 59)))) (aCons (eVar 2) aNil))) (aCons (eTup (aCons (eVar 2) (aCons (eC (.bl true)) aNil))) (aCons (eTup (aCons (eC (.bl false)) (aCons (eVar 2) aNil))) (aCons (eTup (aCons (eVar 2) (aCons (eC (.str "1")) aNil))) aNil)))))))))))) (pName 3)) (sSeq (sAsg (e2 dAdd (eVar 3) (fz (fLst (aCons (eTup (aCons (eVar 2) aNil)) (aCons (eTup (aCons (eVar 2) (aCons (e2 dSub (e2 dSub (eVar 1) (eC (.int 1))) (eVar 2)) (aCons (eVar 2) aNil)))) (aCons (eTup aNil) (aCons (eC .non) (aCons (eVar 2) (aCons (eC (.str "01")) (aCons (eC (.bl true)) (aCons (eTup (aCons (eTup (aCons (eVar 2) (aCons (eVar 2) aNil))) (aCons (eVar 2) aNil))) (aCons (eTup (aCons (eC .non) (aCons (eVar 2) aNil))) (aCons (eTup (aCons (eVar 2) (aCons (eTup (aCons (eVar 2) aNil)) aNil))) aNil))))))))))))) (pName 3)) (sRet (e2 dIx (eVar 3) (eCall 2 m_law_draw (aCons (eVar 0) (aCons (eC (.int 20)) aNil))))))))
noncomputable def m_law_odd_tie : List D → Store → Res D := runFn .val 4 c_law_odd_tie
noncomputable def c_law_whole_b1 : MS := (sIf (tOr' (tNot' (tst (eB dIsi (aCons (eVar 1) (aCons (eC (.ty "tuple")) aNil))))) (tst (e2 (dInG false) (eC (.bl true)) (fz (fComp (iSeq (eVar 1)) (pName 2) tYes' (eB dIsi (aCons (eVar 2) (aCons (eC (.ty "bool")) aNil))) [2]))))) (sRet (eC (.bl false))) sNil)
noncomputable def c_law_whole : MS := (sSeq (sIf (tOr' (tNot' (tst (eB dIsi (aCons (eVar 0) (aCons (eC (.ty "tuple")) aNil))))) (tNot' (tst (eB dIsi (aCons (e2 dIx (eVar 0) (eC (.int 1))) (aCons (eC (.ty "tuple")) aNil)))))) (sRet (eC (.bl false))) sNil) (sSeq (sFor (iSeq (e2 dIx (eVar 0) (eC (.int 1)))) (pName 1) c_law_whole_b1 [1]) (sRet (eNot (eB dIsi (aCons (e2 dIx (eVar 0) (eC (.int 0))) (aCons (eC (.ty "bool")) aNil)))))))
noncomputable def m_law_whole : List D → Store → Res D := runFn .val 3 c_law_whole
noncomputable def c_law_b1 : MS := (sSeq (sAsg (eCall 2 m_law_told (aCons (eVar 7) (aCons (eVar 8) aNil))) (pName 10)) (sSeq (sIf (tAnd' (tst (e2 (dIsN false) (eVar 5) (eC .non))) (tst (e2 dNe (eVar 10) (eTup (aCons (eC (.str "refused")) (aCons (eC (.bl true)) aNil)))))) (sRet (eC (.bl false))) sNil) (sIf (tAnd' (tst (e2 (dIsN true) (eVar 5) (eC .non))) (tOr' (tst (e2 dNe (eVar 10) (eVar 5))) (tNot' (tst (eCall 1 m_law_whole (aCons (eVar 10) aNil)))))) (sRet (eC (.bl false))) sNil)))
noncomputable def c_law_b2 : MS := (sSeq (sAsg (eCall 1 m_law_feed (aCons (eVar 1) aNil)) (pName 2)) (sSeq (sAsg (e2 dAdd (eC (.int 1)) (eCall 2 m_law_draw (aCons (eVar 2) (aCons (eC (.int 10)) aNil)))) (pName 3)) (sSeq (sAsg (eCall 2 m_law_ties (aCons (eVar 2) (aCons (eVar 3) aNil))) (pName 4)) (sSeq (sAsg (eCall 2 m_law_due (aCons (eVar 3) (aCons (eVar 4) aNil))) (pName 5)) (sSeq (sAsg (eCall 2 m_law_draw (aCons (eVar 2) (aCons (eC (.int 6)) aNil))) (pName 6)) (sSeq (sIf (tst (e2 dEq (eVar 6) (eC (.int 0)))) (sSeq (sExpr (eMt dInsert isLst (eVar 4) (aCons (eCall 2 m_law_draw (aCons (eVar 2) (aCons (e2 dAdd (eB dLen (aCons (eVar 4) aNil)) (eC (.int 1))) aNil))) (aCons (eCall 2 m_law_odd_tie (aCons (eVar 2) (aCons (eVar 3) aNil))) aNil)))) (sAsg (eC .non) (pName 5))) sNil) (sSeq (sAsg (eVar 3) (pName 7)) (sSeq (sIf (tst (e2 dEq (eVar 6) (eC (.int 1)))) (sSeq (sAsg (e2 dIx (fz (fLst (aCons (eC (.int 0)) (aCons (eC (.int 11)) (aCons (e1 dNeg (eC (.int 1))) (aCons (e2 dPow (eC (.int 10)) (eC (.int 59))) (aCons (eC (.bl true)) (aCons (eC .non) (aCons (eC (.str "3")) (aCons (eTup (aCons (eVar 3) aNil)) (aCons (e1 dNeg (e2 dPow (eC (.int 10)) (eC (.int 59)))) aNil))))))))))) (eCall 2 m_law_draw (aCons (eVar 2) (aCons (eC (.int 9)) aNil)))) (pName 7)) (sAsg (eC .non) (pName 5))) sNil) (sSeq (sAsg (eB dTuple (aCons (eVar 4) aNil)) (pName 8)) (sSeq (sIf (tst (e2 dEq (eVar 6) (eC (.int 2)))) (sSeq (sAsg (e2 dIx (fz (fLst (aCons (eC .non) (aCons (eC (.int 5)) (aCons (eC (.str "")) (aCons (eC (.bl true)) (aCons (eC (.str "01")) aNil))))))) (eCall 2 m_law_draw (aCons (eVar 2) (aCons (eC (.int 5)) aNil)))) (pName 8)) (sAsg (eC .non) (pName 5))) sNil) (sFor (iR1 (aCons (eC (.int 2)) aNil)) (pName 9) c_law_b1 [9, 10])))))))))))
noncomputable def c_law : MS := (sSeq (sFor (iSeq (eSl dSl (eVar 0) oNone (oSome (eC (.int 30))))) (pName 1) c_law_b2 [1, 2, 3, 4, 5, 6, 7, 8, 9, 10]) (sRet (eC (.bl true))))
noncomputable def m_law : List D → Store → Res D := runFn .val 11 c_law
section
variable {P : Program} {w : World} {K : PySem.W.Frag} {mg : Str → Option Value} {base : Heap}
theorem ok_law_feed (T : Top P w K mg base) : FnOkG P w K mg base (L2.CX P w) 1 T.a_law_feed T.fd_law_feed ["_law_cell"] (spF K T.cA 1 m_law_feed) :=
  fn_ok T.F_law_feed sc_law_feed fun cdv A outer s H E hr => by
    have nd := sc_law_feed.nd
    have tk : Takes (cxOf (L2.CX P w) P w K mg base ["_law_cell"] "_law_feed" (defScope s_law_feed) T.a_law_feed cdv A outer s H E) (WF E) := takes_of rfl rfl rfl rfl
    have hp : PassesOwn (model P w) (cxOf (L2.CX P w) P w K mg base ["_law_cell"] "_law_feed" (defScope s_law_feed) T.a_law_feed cdv A outer s H E).A (cxOf (L2.CX P w) P w K mg base ["_law_cell"] "_law_feed" (defScope s_law_feed) T.a_law_feed cdv A outer s H E).env (cxOf (L2.CX P w) P w K mg base ["_law_cell"] "_law_feed" (defScope s_law_feed) T.a_law_feed cdv A outer s H E).xe := passes_of rfl
    exact (js_one (js_ret (je_cel (jf_lst (ja_cons (je_var 0) (ja_cons je_int (ja_cons (je_Ty call_int1 cd_int rfl T.n_int (by decide +kernel) (ja_cons (je_cmp op_ge od_ge (je_var 0) (je_op op_pow od_pow je_int je_int) (nomark _)) ja_nil)) ja_nil)))))))
theorem ok_law_draw (T : Top P w K mg base) : FnOkG P w K mg base (L2.CX P w) 1 T.a_law_draw T.fd_law_draw ["_law_feed_here", "_law_many"] (spF K T.cA 2 m_law_draw) :=
  fn_ok T.F_law_draw sc_law_draw fun cdv A outer s H E hr => by
    have nd := sc_law_draw.nd
    have tk : Takes (cxOf (L2.CX P w) P w K mg base ["_law_feed_here", "_law_many", "_law_turn", "_law_digit", "_law_number"] "_law_draw" (defScope s_law_draw) T.a_law_draw cdv A outer s H E) (WF E) := takes_of rfl rfl rfl rfl
    have hp : PassesOwn (model P w) (cxOf (L2.CX P w) P w K mg base ["_law_feed_here", "_law_many", "_law_turn", "_law_digit", "_law_number"] "_law_draw" (defScope s_law_draw) T.a_law_draw cdv A outer s H E).A (cxOf (L2.CX P w) P w K mg base ["_law_feed_here", "_law_many", "_law_turn", "_law_digit", "_law_number"] "_law_draw" (defScope s_law_draw) T.a_law_draw cdv A outer s H E).env (cxOf (L2.CX P w) P w K mg base ["_law_feed_here", "_law_many", "_law_turn", "_law_digit", "_law_number"] "_law_draw" (defScope s_law_draw) T.a_law_draw cdv A outer s H E).xe := passes_of rfl
    exact (js_cons (js_set 2 nd (je_op op_add3 od_add (je_ix (je_var 0) je_int) je_int))
      (js_cons (js_sub (je_var 2) (je_var 0) je_int set_list sd_setL)
      (js_cons (js_cl [3] (js_if (PW.pt (jw_and (jt_cmp (op_eqD hr.units) od_eq (je_ix (je_var 0) je_int) je_int (nomark _)) (jw_and1 (jt_cmp op_gt od_gt (je_ix (je_var 0) je_int) je_int (nomark _))))) (js_cons (js_set 3 nd (je_op op_mod od_mod (je_ix (je_var 0) je_int) (je_var 1)))
      (js_cons (js_sub (je_op op_fdivY od_fdiv (je_ix (je_var 0) je_int) (je_var 1)) (je_var 0) je_int set_list sd_setL)
      (js_one (js_ret (je_var 3))))) js_nil))
      (js_cons (js_set 4 nd (je_op op_add3 od_add (je_op op_add3 od_add (je_op op_mod od_mod (je_ix (je_var 0) je_int) (je_op op_pow od_pow je_int je_int)) (je_op op_mulY od_mulI (je_op op_mulY od_mulI je_int (je_var 2)) (je_var 2))) (je_var 2)))
      (js_cons (js_set 4 nd (je_op op_add3 od_add (je_op op_mulY od_mulI (je_op op_mod od_mod (je_op op_mulY od_mulI (je_var 4) je_int) je_int) je_int) je_int))
      (js_one (js_ret (je_op op_mod od_mod (je_op op_fdivY od_fdiv (je_op op_mod od_mod (je_var 4) je_int) je_int) (je_var 1)))))))))
theorem ok_law_ties (T : Top P w K mg base) : FnOkG P w K mg base (L2.CX P w) 2 T.a_law_ties T.fd_law_ties ["_law_feed_here", "_law_n"] (spF K T.cA 2 m_law_ties) :=
  fn_ok T.F_law_ties sc_law_ties fun cdv A outer s H E hr => by
    have nd := sc_law_ties.nd
    have tk : Takes (cxOf (L2.CX P w) P w K mg base ["_law_feed_here", "_law_n", "_law_ties_here", "_law_k", "_law_one"] "_law_ties" (defScope s_law_ties) T.a_law_ties cdv A outer s H E) (WF E) := takes_of rfl rfl rfl rfl
    have hp : PassesOwn (model P w) (cxOf (L2.CX P w) P w K mg base ["_law_feed_here", "_law_n", "_law_ties_here", "_law_k", "_law_one"] "_law_ties" (defScope s_law_ties) T.a_law_ties cdv A outer s H E).A (cxOf (L2.CX P w) P w K mg base ["_law_feed_here", "_law_n", "_law_ties_here", "_law_k", "_law_one"] "_law_ties" (defScope s_law_ties) T.a_law_ties cdv A outer s H E).env (cxOf (L2.CX P w) P w K mg base ["_law_feed_here", "_law_n", "_law_ties_here", "_law_k", "_law_one"] "_law_ties" (defScope s_law_ties) T.a_law_ties cdv A outer s H E).xe := passes_of rfl
    exact (js_cons (js_set 2 nd (je_cel (jf_lst ja_nil)))
      (js_cons (js_for [3, 4] hp rfl (ji_range1 rfl T.n_range (ja_cons (je_op op_mulY od_mulI (je_call (ok_law_draw T) (hr.mono (by decide)) rfl T.g_law_draw T.F_law_draw.kp T.b_law_draw tk (ja_cons (je_var 0) (ja_cons je_int ja_nil))) (je_Ty call_int1 cd_int rfl T.n_int (by decide +kernel) (ja_cons (je_cmp op_gt od_gt (je_var 1) je_int (nomark _)) ja_nil))) ja_nil)) (jg_name 3 nd)
      (js_cons (js_set 4 nd (je_call (ok_law_draw T) (hr.mono (by decide)) rfl T.g_law_draw T.F_law_draw.kp T.b_law_draw tk (ja_cons (je_var 0) (ja_cons (je_var 1) ja_nil))))
      (js_one (js_expr (je_mt tyd_list md_append (pe_bm PySem.F.plainAttrs_list PySem.F.slot_list_append PySem.F.type_list_append mt_append (je_var 2) (ja_cons (je_tup (ja_cons (je_var 4) (ja_cons (je_op op_mod od_mod (je_op op_add3 od_add (je_op op_add3 od_add (je_var 4) je_int) (je_call (ok_law_draw T) (hr.mono (by decide)) rfl T.g_law_draw T.F_law_draw.kp T.b_law_draw tk (ja_cons (je_var 0) (ja_cons (je_op op_sub od_sub (je_var 1) je_int) ja_nil)))) (je_var 1)) ja_nil))) ja_nil)))))))
      (js_one (js_ret (je_var 2)))))
theorem ok_law_due (T : Top P w K mg base) : FnOkG P w K mg base (L2.CX P w) 1 T.a_law_due T.fd_law_due ["_law_n", "_law_ties_here"] (spF K T.cA 2 m_law_due) :=
  fn_ok T.F_law_due sc_law_due fun cdv A outer s H E hr => by
    have nd := sc_law_due.nd
    have tk : Takes (cxOf (L2.CX P w) P w K mg base ["_law_n", "_law_ties_here", "_law_due_here", "_law_one", "_law_other", "_law_tie"] "_law_due" (defScope s_law_due) T.a_law_due cdv A outer s H E) (WF E) := takes_of rfl rfl rfl rfl
    have hp : PassesOwn (model P w) (cxOf (L2.CX P w) P w K mg base ["_law_n", "_law_ties_here", "_law_due_here", "_law_one", "_law_other", "_law_tie"] "_law_due" (defScope s_law_due) T.a_law_due cdv A outer s H E).A (cxOf (L2.CX P w) P w K mg base ["_law_n", "_law_ties_here", "_law_due_here", "_law_one", "_law_other", "_law_tie"] "_law_due" (defScope s_law_due) T.a_law_due cdv A outer s H E).env (cxOf (L2.CX P w) P w K mg base ["_law_n", "_law_ties_here", "_law_due_here", "_law_one", "_law_other", "_law_tie"] "_law_due" (defScope s_law_due) T.a_law_due cdv A outer s H E).xe := passes_of rfl
    exact (js_cons (js_set 2 nd (je_cel (jf_lst ja_nil)))
      (js_cons (js_for [3, 4, 5] hp rfl (ji_seq (je_var 1)) (jg_tup rfl (jgs_cons (jg_name 3 nd) (jgs_cons (jg_name 4 nd) jgs_nil)))
      (js_cons (js_set 5 nd (je_tup (ja_cons (je_B (cr_mm (mx := false) rfl hr.units) cd_mm rfl T.n_min (by decide +kernel) (ja_cons (je_var 3) (ja_cons (je_var 4) ja_nil))) (ja_cons (je_B (cr_mm (mx := true) rfl hr.units) cd_mm rfl T.n_max (by decide +kernel) (ja_cons (je_var 3) (ja_cons (je_var 4) ja_nil))) ja_nil))))
      (js_one (js_if (jt_cmp (op_notInU (hu65 hr)) od_in (je_var 5) (je_var 2) (by rfl)) (js_one (js_expr (je_mt tyd_list md_append (pe_bm PySem.F.plainAttrs_list PySem.F.slot_list_append PySem.F.type_list_append mt_append (je_var 2) (ja_cons (je_var 5) ja_nil))))) js_nil))))
      (js_cons (js_if (jt_cmp op_gt od_gt (je_B call_len_seq cd_len rfl T.n_len (by decide +kernel) (ja_cons (je_var 2) ja_nil)) je_int (nomark _)) (js_one (js_ret je_non)) js_nil)
      (js_one (js_ret (je_tup (ja_cons (je_var 0) (ja_cons (je_Ty call_tupleZ cd_tuple rfl T.n_tuple (by decide +kernel) (ja_cons (je_fz (jf_B (cr_sortD hr.units) cf_sorted rfl T.n_sorted (by decide +kernel) (ja_cons (je_var 2) ja_nil))) ja_nil)) ja_nil))))))))
theorem ok_is_whole (T : Top P w K mg base) : FnOkG P w K mg base (L2.CX P w) 1 T.a_is_whole T.fd_is_whole ["thing"] (spF K T.cA 1 m_is_whole) :=
  fn_ok T.F_is_whole sc_is_whole fun cdv A outer s H E hr => by
    have nd := sc_is_whole.nd
    have tk : Takes (cxOf (L2.CX P w) P w K mg base ["thing"] "is_whole" (defScope s_is_whole) T.a_is_whole cdv A outer s H E) (WF E) := takes_of rfl rfl rfl rfl
    have hp : PassesOwn (model P w) (cxOf (L2.CX P w) P w K mg base ["thing"] "is_whole" (defScope s_is_whole) T.a_is_whole cdv A outer s H E).A (cxOf (L2.CX P w) P w K mg base ["thing"] "is_whole" (defScope s_is_whole) T.a_is_whole cdv A outer s H E).env (cxOf (L2.CX P w) P w K mg base ["thing"] "is_whole" (defScope s_is_whole) T.a_is_whole cdv A outer s H E).xe := passes_of rfl
    exact (js_one (js_ret (je_and (je_B call_isi cd_isi rfl T.n_isinstance (by decide +kernel) (ja_cons (je_var 0) (ja_cons (je_ty rfl T.n_int (by decide +kernel)) ja_nil))) (je_one (je_not (je_B call_isi cd_isi rfl T.n_isinstance (by decide +kernel) (ja_cons (je_var 0) (ja_cons (je_ty rfl T.n_bool (by decide +kernel)) ja_nil))))))))
theorem ok_tie_of (T : Top P w K mg base) : FnOkG P w K mg base (L2.CX P w) 2 T.a_tie_of T.fd_tie_of ["thing", "n"] (spF K T.cA 2 m_tie_of) :=
  fn_ok T.F_tie_of sc_tie_of fun cdv A outer s H E hr => by
    have nd := sc_tie_of.nd
    have tk : Takes (cxOf (L2.CX P w) P w K mg base ["thing", "n", "place"] "tie_of" (defScope s_tie_of) T.a_tie_of cdv A outer s H E) (WF E) := takes_of rfl rfl rfl rfl
    have hp : PassesOwn (model P w) (cxOf (L2.CX P w) P w K mg base ["thing", "n", "place"] "tie_of" (defScope s_tie_of) T.a_tie_of cdv A outer s H E).A (cxOf (L2.CX P w) P w K mg base ["thing", "n", "place"] "tie_of" (defScope s_tie_of) T.a_tie_of cdv A outer s H E).env (cxOf (L2.CX P w) P w K mg base ["thing", "n", "place"] "tie_of" (defScope s_tie_of) T.a_tie_of cdv A outer s H E).xe := passes_of rfl
    exact (js_cons (js_if (PW.pt (jw_or (jt_not (jt_val (je_B call_isi cd_isi rfl T.n_isinstance (by decide +kernel) (ja_cons (je_var 0) (ja_cons (je_ty rfl T.n_tuple (by decide +kernel)) ja_nil))))) (jw_or1 (jt_cmp (op_neD hr.units) od_ne (je_B call_len_seq cd_len rfl T.n_len (by decide +kernel) (ja_cons (je_var 0) ja_nil)) je_int (nomark _))))) (js_one (js_raise 0 rfl tk T.q_NoWeb rfl)) js_nil)
      (js_cons (js_for [2] hp rfl (ji_seq (je_var 0)) (jg_name 2 nd)
      (js_one (js_if (PW.pt (jw_or (jt_not (jt_val (je_call (ok_is_whole T) (hr.mono (by decide)) rfl T.g_is_whole T.F_is_whole.kp T.b_is_whole tk (ja_cons (je_var 2) ja_nil)))) (jw_or (jt_cmp (op_lt2 hr.units0) od_lt (je_var 2) je_int (nomark _)) (jw_or1 (jt_cmp op_ge od_ge (je_var 2) (je_var 1) (nomark _)))))) (js_one (js_raise 0 rfl tk T.q_NoWeb rfl)) js_nil)))
      (js_cons (js_if (jt_cmp (op_eqD hr.units) od_eq (je_ix (je_var 0) je_int) (je_ix (je_var 0) je_int) (nomark _)) (js_one (js_raise 0 rfl tk T.q_NoWeb rfl)) js_nil)
      (js_one (js_ret (je_tup (ja_cons (je_B (cr_mm (mx := false) rfl hr.units) cd_mm rfl T.n_min (by decide +kernel) (ja_cons (je_var 0) ja_nil)) (ja_cons (je_B (cr_mm (mx := true) rfl hr.units) cd_mm rfl T.n_max (by decide +kernel) (ja_cons (je_var 0) ja_nil)) ja_nil))))))))
theorem ok_web (T : Top P w K mg base) : FnOkG P w K mg base (L2.CX P w) 3 T.a_web T.fd_web ["n", "some"] (spF K T.cA 2 m_web) :=
  fn_ok T.F_web sc_web fun cdv A outer s H E hr => by
    have nd := sc_web.nd
    have tk : Takes (cxOf (L2.CX P w) P w K mg base ["n", "some", "ties", "one"] "web" (defScope s_web) T.a_web cdv A outer s H E) (WF E) := takes_of rfl rfl rfl rfl
    have hp : PassesOwn (model P w) (cxOf (L2.CX P w) P w K mg base ["n", "some", "ties", "one"] "web" (defScope s_web) T.a_web cdv A outer s H E).A (cxOf (L2.CX P w) P w K mg base ["n", "some", "ties", "one"] "web" (defScope s_web) T.a_web cdv A outer s H E).env (cxOf (L2.CX P w) P w K mg base ["n", "some", "ties", "one"] "web" (defScope s_web) T.a_web cdv A outer s H E).xe := passes_of rfl
    exact (js_cons (js_if (PW.pt (jw_or (jt_not (jt_val (je_call (ok_is_whole T) (hr.mono (by decide)) rfl T.g_is_whole T.F_is_whole.kp T.b_is_whole tk (ja_cons (je_var 0) ja_nil)))) (jw_or (jt_cmp (op_lt2 hr.units0) od_lt (je_var 0) je_int (nomark _)) (jw_or1 (jt_cmp op_gt od_gt (je_var 0) (je_gint rfl T.c_MOST_PLACES) (nomark _)))))) (js_one (js_raise 0 rfl tk T.q_NoWeb rfl)) js_nil)
      (js_cons (js_if (jt_not (jt_val (je_B call_isi cd_isi rfl T.n_isinstance (by decide +kernel) (ja_cons (je_var 1) (ja_cons (je_ty rfl T.n_tuple (by decide +kernel)) ja_nil))))) (js_one (js_raise 0 rfl tk T.q_NoWeb rfl)) js_nil)
      (js_cons (js_set 2 nd (je_fz (jf_sortSet rfl hr.units rfl T.n_sorted rfl T.n_set (je_fz (jf_lcX [("one", 3)] rfl nd tk rfl rfl (ji_seq (je_var 1)) (blkOk_by (N := ["n", "some", "ties", "one"]) (sc := defScope s_web) (own := [("one", 3)]) (by decide +kernel)) (fun _ _ _ _ _ => (jgo_name 3 nd)) (fun _ _ _ _ _ => jts_nil) (fun _ _ _ _ _ _ _ tk2 => (je_call (ok_tie_of T) (hr.mono (by decide)) rfl T.g_tie_of T.F_tie_of.kp T.b_tie_of tk2 (ja_cons (je_var 3) (ja_cons (je_var 0) ja_nil)))))))))
      (js_cons (js_if (jt_cmp op_gt od_gt (je_B call_len_seq cd_len rfl T.n_len (by decide +kernel) (ja_cons (je_var 2) ja_nil)) (je_gint rfl T.c_MOST_TIES) (nomark _)) (js_one (js_raise 0 rfl tk T.q_NoWeb rfl)) js_nil)
      (js_one (js_ret (je_tup (ja_cons (je_var 0) (ja_cons (je_Ty call_tupleZ cd_tuple rfl T.n_tuple (by decide +kernel) (ja_cons (je_var 2) ja_nil)) ja_nil)))))))))
theorem ok_law_told (T : Top P w K mg base) : FnOkG P w K mg base (L2.CX P w) 4 T.a_law_told T.fd_law_told ["_law_n", "_law_some"] (spF K T.cA 2 m_law_told) :=
  fn_ok T.F_law_told sc_law_told fun cdv A outer s H E hr => by
    have nd := sc_law_told.nd
    have tk : Takes (cxOf (L2.CX P w) P w K mg base ["_law_n", "_law_some", "_law_told_here", "e", "_law_others"] "_law_told" (defScope s_law_told) T.a_law_told cdv A outer s H E) (WF E) := takes_of rfl rfl rfl rfl
    have hp : PassesOwn (model P w) (cxOf (L2.CX P w) P w K mg base ["_law_n", "_law_some", "_law_told_here", "e", "_law_others"] "_law_told" (defScope s_law_told) T.a_law_told cdv A outer s H E).A (cxOf (L2.CX P w) P w K mg base ["_law_n", "_law_some", "_law_told_here", "e", "_law_others"] "_law_told" (defScope s_law_told) T.a_law_told cdv A outer s H E).env (cxOf (L2.CX P w) P w K mg base ["_law_n", "_law_some", "_law_told_here", "e", "_law_others"] "_law_told" (defScope s_law_told) T.a_law_told cdv A outer s H E).xe := passes_of rfl
    exact (js_cons (js_set 2 nd je_non)
      (js_cons (js_cl [3, 4] (js_try rfl rfl nd rfl rfl (names_own rfl T.q_CrossError) tk T.hx_CrossError T.hn_CrossError (fun W pn xe tk hp => (js_one (js_set 2 nd (je_call (ok_web T) (hr.mono (by decide)) rfl T.g_web T.F_web.kp T.b_web tk (ja_cons (je_var 0) (ja_cons (je_var 1) ja_nil)))))) (fun a pn => (js_cons (js_set 4 nd (je_B call_isX (cd_isX T.isx) rfl T.n_isinstance (by decide +kernel) (ja_cons (je_var 3) (ja_cons (je_tup (ja_cons (je_cls rfl T.q_NoDrawing) (ja_cons (je_cls rfl T.q_NoLens) (ja_cons (je_cls rfl T.q_NoOrder) (ja_cons (je_cls rfl T.q_NoPoints) (ja_cons (je_cls rfl T.q_NoRoute) (ja_cons (je_cls rfl T.q_NoText) (ja_cons (je_cls rfl T.q_NoTie) (ja_cons (je_cls rfl T.q_TooMany) ja_nil))))))))) ja_nil))))
      (js_one (js_set 2 nd (je_tup (ja_cons je_str (ja_cons (je_and (je_B call_isX (cd_isX T.isx) rfl T.n_isinstance (by decide +kernel) (ja_cons (je_var 3) (ja_cons (je_cls rfl T.q_NoWeb) ja_nil))) (je_and (je_B call_isX (cd_isX T.isx) rfl T.n_isinstance (by decide +kernel) (ja_cons (je_var 3) (ja_cons (je_ty rfl T.n_ValueError (by decide +kernel)) ja_nil))) (je_one (je_not (je_var 4))))) ja_nil)))))))))
      (js_one (js_ret (je_var 2)))))
theorem ok_law_odd_tie (T : Top P w K mg base) : FnOkG P w K mg base (L2.CX P w) 2 T.a_law_odd_tie T.fd_law_odd_tie ["_law_feed_here", "_law_n"] (spF K T.cA 2 m_law_odd_tie) :=
  fn_ok T.F_law_odd_tie sc_law_odd_tie fun cdv A outer s H E hr => by
    have nd := sc_law_odd_tie.nd
    have tk : Takes (cxOf (L2.CX P w) P w K mg base ["_law_feed_here", "_law_n", "_law_a", "_law_some"] "_law_odd_tie" (defScope s_law_odd_tie) T.a_law_odd_tie cdv A outer s H E) (WF E) := takes_of rfl rfl rfl rfl
    have hp : PassesOwn (model P w) (cxOf (L2.CX P w) P w K mg base ["_law_feed_here", "_law_n", "_law_a", "_law_some"] "_law_odd_tie" (defScope s_law_odd_tie) T.a_law_odd_tie cdv A outer s H E).A (cxOf (L2.CX P w) P w K mg base ["_law_feed_here", "_law_n", "_law_a", "_law_some"] "_law_odd_tie" (defScope s_law_odd_tie) T.a_law_odd_tie cdv A outer s H E).env (cxOf (L2.CX P w) P w K mg base ["_law_feed_here", "_law_n", "_law_a", "_law_some"] "_law_odd_tie" (defScope s_law_odd_tie) T.a_law_odd_tie cdv A outer s H E).xe := passes_of rfl
    exact (js_cons (js_set 2 nd (je_call (ok_law_draw T) (hr.mono (by decide)) rfl T.g_law_draw T.F_law_draw.kp T.b_law_draw tk (ja_cons (je_var 0) (ja_cons (je_var 1) ja_nil))))
      (js_cons (js_set 3 nd (je_fz (jf_lst (ja_cons (je_tup (ja_cons (je_var 2) (ja_cons (je_var 2) ja_nil))) (ja_cons (je_tup (ja_cons (je_var 2) (ja_cons (je_var 1) ja_nil))) (ja_cons (je_tup (ja_cons (je_var 1) (ja_cons (je_var 2) ja_nil))) (ja_cons (je_tup (ja_cons (je_un un_neg ud_neg je_int) (ja_cons (je_var 2) ja_nil))) (ja_cons (je_tup (ja_cons (je_var 2) (ja_cons (je_un un_neg ud_neg je_int) ja_nil))) (ja_cons (je_tup (ja_cons (je_var 2) (ja_cons (je_op op_pow od_pow je_int je_int) ja_nil))) (ja_cons (je_tup (ja_cons (je_un un_neg ud_neg (je_op op_pow od_pow je_int je_int)) (ja_cons (je_var 2) ja_nil))) (ja_cons (je_tup (ja_cons (je_var 2) (ja_cons je_bl ja_nil))) (ja_cons (je_tup (ja_cons je_bl (ja_cons (je_var 2) ja_nil))) (ja_cons (je_tup (ja_cons (je_var 2) (ja_cons je_str ja_nil))) ja_nil)))))))))))))
      (js_cons (js_set 3 nd (je_op op_add3 od_add (je_var 3) (je_fz (jf_lst (ja_cons (je_tup (ja_cons (je_var 2) ja_nil)) (ja_cons (je_tup (ja_cons (je_var 2) (ja_cons (je_op op_sub od_sub (je_op op_sub od_sub (je_var 1) je_int) (je_var 2)) (ja_cons (je_var 2) ja_nil)))) (ja_cons (je_tup ja_nil) (ja_cons je_non (ja_cons (je_var 2) (ja_cons je_str (ja_cons je_bl (ja_cons (je_tup (ja_cons (je_tup (ja_cons (je_var 2) (ja_cons (je_var 2) ja_nil))) (ja_cons (je_var 2) ja_nil))) (ja_cons (je_tup (ja_cons je_non (ja_cons (je_var 2) ja_nil))) (ja_cons (je_tup (ja_cons (je_var 2) (ja_cons (je_tup (ja_cons (je_var 2) ja_nil)) ja_nil))) ja_nil))))))))))))))
      (js_one (js_ret (je_ix (je_var 3) (je_call (ok_law_draw T) (hr.mono (by decide)) rfl T.g_law_draw T.F_law_draw.kp T.b_law_draw tk (ja_cons (je_var 0) (ja_cons je_int ja_nil)))))))))
theorem ok_law_whole (T : Top P w K mg base) : FnOkG P w K mg base (L2.CX P w) 1 T.a_law_whole T.fd_law_whole ["_law_told_here"] (spF K T.cA 1 m_law_whole) :=
  fn_ok T.F_law_whole sc_law_whole fun cdv A outer s H E hr => by
    have nd := sc_law_whole.nd
    have tk : Takes (cxOf (L2.CX P w) P w K mg base ["_law_told_here", "_law_tie", "_law_place"] "_law_whole" (defScope s_law_whole) T.a_law_whole cdv A outer s H E) (WF E) := takes_of rfl rfl rfl rfl
    have hp : PassesOwn (model P w) (cxOf (L2.CX P w) P w K mg base ["_law_told_here", "_law_tie", "_law_place"] "_law_whole" (defScope s_law_whole) T.a_law_whole cdv A outer s H E).A (cxOf (L2.CX P w) P w K mg base ["_law_told_here", "_law_tie", "_law_place"] "_law_whole" (defScope s_law_whole) T.a_law_whole cdv A outer s H E).env (cxOf (L2.CX P w) P w K mg base ["_law_told_here", "_law_tie", "_law_place"] "_law_whole" (defScope s_law_whole) T.a_law_whole cdv A outer s H E).xe := passes_of rfl
    exact (js_cons (js_if (PW.pt (jw_or (jt_not (jt_val (je_B call_isi cd_isi rfl T.n_isinstance (by decide +kernel) (ja_cons (je_var 0) (ja_cons (je_ty rfl T.n_tuple (by decide +kernel)) ja_nil))))) (jw_or1 (jt_not (jt_val (je_B call_isi cd_isi rfl T.n_isinstance (by decide +kernel) (ja_cons (je_ix (je_var 0) je_int) (ja_cons (je_ty rfl T.n_tuple (by decide +kernel)) ja_nil)))))))) (js_one (js_ret je_bl)) js_nil)
      (js_cons (js_for [1] hp rfl (ji_seq (je_ix (je_var 0) je_int)) (jg_name 1 nd)
      (js_one (js_if (PW.pt (jw_or (jt_not (jt_val (je_B call_isi cd_isi rfl T.n_isinstance (by decide +kernel) (ja_cons (je_var 1) (ja_cons (je_ty rfl T.n_tuple (by decide +kernel)) ja_nil))))) (jw_or1 (jt_cmp (op_inU (hu65 hr)) od_in je_bl (je_fz (jf_lc [("_law_place", 2)] rfl nd (ji_seq (je_var 1)) (blkOk_by (N := ["_law_told_here", "_law_tie", "_law_place"]) (sc := defScope s_law_whole) (own := [("_law_place", 2)]) (by decide +kernel)) (fun _ _ _ _ _ => (jgo_name 2 nd)) (fun _ _ _ _ _ => jts_nil) (fun _ _ _ _ _ => (je_B call_isi cd_isi rfl T.n_isinstance (by decide +kernel) (ja_cons (je_var 2) (ja_cons (je_ty rfl T.n_bool (by decide +kernel)) ja_nil)))))) (by rfl))))) (js_one (js_ret je_bl)) js_nil)))
      (js_one (js_ret (je_not (je_B call_isi cd_isi rfl T.n_isinstance (by decide +kernel) (ja_cons (je_ix (je_var 0) je_int) (ja_cons (je_ty rfl T.n_bool (by decide +kernel)) ja_nil))))))))
theorem ok_law (T : Top P w K mg base) : FnOkG P w K mg base (L2.CX P w) 5 T.a_law T.fd_law ["_law_script"] (spF K T.cA 1 m_law) :=
  fn_ok T.F_law sc_law fun cdv A outer s H E hr => by
    have nd := sc_law.nd
    have tk : Takes (cxOf (L2.CX P w) P w K mg base ["_law_script", "_law_cell", "_law_feed_here", "_law_n", "_law_ties_here", "_law_due_here", "_law_way", "_law_number", "_law_some", "_law_again", "_law_told_here"] "law" (defScope s_law) T.a_law cdv A outer s H E) (WF E) := takes_of rfl rfl rfl rfl
    have hp : PassesOwn (model P w) (cxOf (L2.CX P w) P w K mg base ["_law_script", "_law_cell", "_law_feed_here", "_law_n", "_law_ties_here", "_law_due_here", "_law_way", "_law_number", "_law_some", "_law_again", "_law_told_here"] "law" (defScope s_law) T.a_law cdv A outer s H E).A (cxOf (L2.CX P w) P w K mg base ["_law_script", "_law_cell", "_law_feed_here", "_law_n", "_law_ties_here", "_law_due_here", "_law_way", "_law_number", "_law_some", "_law_again", "_law_told_here"] "law" (defScope s_law) T.a_law cdv A outer s H E).env (cxOf (L2.CX P w) P w K mg base ["_law_script", "_law_cell", "_law_feed_here", "_law_n", "_law_ties_here", "_law_due_here", "_law_way", "_law_number", "_law_some", "_law_again", "_law_told_here"] "law" (defScope s_law) T.a_law cdv A outer s H E).xe := passes_of rfl
    exact (js_cons (js_for [1, 2, 3, 4, 5, 6, 7, 8, 9, 10] hp rfl (ji_seq (je_sl (je_var 0) jo_none (jo_some je_int))) (jg_name 1 nd)
      (js_cons (js_set 2 nd (je_call (ok_law_feed T) (hr.mono (by decide)) rfl T.g_law_feed T.F_law_feed.kp T.b_law_feed tk (ja_cons (je_var 1) ja_nil)))
      (js_cons (js_set 3 nd (je_op op_add3 od_add je_int (je_call (ok_law_draw T) (hr.mono (by decide)) rfl T.g_law_draw T.F_law_draw.kp T.b_law_draw tk (ja_cons (je_var 2) (ja_cons je_int ja_nil)))))
      (js_cons (js_set 4 nd (je_call (ok_law_ties T) (hr.mono (by decide)) rfl T.g_law_ties T.F_law_ties.kp T.b_law_ties tk (ja_cons (je_var 2) (ja_cons (je_var 3) ja_nil))))
      (js_cons (js_set 5 nd (je_call (ok_law_due T) (hr.mono (by decide)) rfl T.g_law_due T.F_law_due.kp T.b_law_due tk (ja_cons (je_var 3) (ja_cons (je_var 4) ja_nil))))
      (js_cons (js_set 6 nd (je_call (ok_law_draw T) (hr.mono (by decide)) rfl T.g_law_draw T.F_law_draw.kp T.b_law_draw tk (ja_cons (je_var 2) (ja_cons je_int ja_nil))))
      (js_cons (js_if (jt_cmp (op_eqD hr.units) od_eq (je_var 6) je_int (nomark _)) (js_cons (js_expr (je_mt tyd_list md_insert (pe_bm PySem.F.plainAttrs_list PySem.F.slot_list_insert PySem.F.type_list_insert mt_ins (je_var 4) (ja_cons (je_call (ok_law_draw T) (hr.mono (by decide)) rfl T.g_law_draw T.F_law_draw.kp T.b_law_draw tk (ja_cons (je_var 2) (ja_cons (je_op op_add3 od_add (je_B call_len_seq cd_len rfl T.n_len (by decide +kernel) (ja_cons (je_var 4) ja_nil)) je_int) ja_nil))) (ja_cons (je_call (ok_law_odd_tie T) (hr.mono (by decide)) rfl T.g_law_odd_tie T.F_law_odd_tie.kp T.b_law_odd_tie tk (ja_cons (je_var 2) (ja_cons (je_var 3) ja_nil))) ja_nil)))))
      (js_one (js_set 5 nd je_non))) js_nil)
      (js_cons (js_set 7 nd (je_var 3))
      (js_cons (js_if (jt_cmp (op_eqD hr.units) od_eq (je_var 6) je_int (nomark _)) (js_cons (js_set 7 nd (je_ix (je_fz (jf_lst (ja_cons je_int (ja_cons je_int (ja_cons (je_un un_neg ud_neg je_int) (ja_cons (je_op op_pow od_pow je_int je_int) (ja_cons je_bl (ja_cons je_non (ja_cons je_str (ja_cons (je_tup (ja_cons (je_var 3) ja_nil)) (ja_cons (je_un un_neg ud_neg (je_op op_pow od_pow je_int je_int)) ja_nil))))))))))) (je_call (ok_law_draw T) (hr.mono (by decide)) rfl T.g_law_draw T.F_law_draw.kp T.b_law_draw tk (ja_cons (je_var 2) (ja_cons je_int ja_nil)))))
      (js_one (js_set 5 nd je_non))) js_nil)
      (js_cons (js_set 8 nd (je_Ty call_tupleZ cd_tuple rfl T.n_tuple (by decide +kernel) (ja_cons (je_var 4) ja_nil)))
      (js_cons (js_if (jt_cmp (op_eqD hr.units) od_eq (je_var 6) je_int (nomark _)) (js_cons (js_set 8 nd (je_ix (je_fz (jf_lst (ja_cons je_non (ja_cons je_int (ja_cons je_str (ja_cons je_bl (ja_cons je_str ja_nil))))))) (je_call (ok_law_draw T) (hr.mono (by decide)) rfl T.g_law_draw T.F_law_draw.kp T.b_law_draw tk (ja_cons (je_var 2) (ja_cons je_int ja_nil)))))
      (js_one (js_set 5 nd je_non))) js_nil)
      (js_one (js_for [9, 10] hp rfl (ji_range1 rfl T.n_range (ja_cons je_int ja_nil)) (jg_name 9 nd)
      (js_cons (js_set 10 nd (je_call (ok_law_told T) (hr.mono (by decide)) rfl T.g_law_told T.F_law_told.kp T.b_law_told tk (ja_cons (je_var 7) (ja_cons (je_var 8) ja_nil))))
      (js_cons (js_if (PW.pt (jw_and (jt_cmp op_isN od_isN (je_var 5) je_non (nomark _)) (jw_and1 (jt_cmp (op_neD hr.units) od_ne (je_var 10) (je_tup (ja_cons je_str (ja_cons je_bl ja_nil))) (nomark _))))) (js_one (js_ret je_bl)) js_nil)
      (js_one (js_if (PW.pt (jw_and (jt_cmp op_notN od_notN (je_var 5) je_non (nomark _)) (jw_and1 (PW.pt (jw_or (jt_cmp (op_neD hr.units) od_ne (je_var 10) (je_var 5) (nomark _)) (jw_or1 (jt_not (jt_val (je_call (ok_law_whole T) (hr.mono (by decide)) rfl T.g_law_whole T.F_law_whole.kp T.b_law_whole tk (ja_cons (je_var 10) ja_nil)))))))))) (js_one (js_ret je_bl)) js_nil)))))))))))))))))
      (js_one (js_ret je_bl)))
end
structure Fd where
  c : Int
  t : Int
  b : Int
def fo (g : Fd) : Ob := .lst [.int g.c, .int g.t, .int g.b]
theorem fo_pure (g : Fd) : (fo g).pure = true := rfl
def fd0 (c : Int) : Fd := ⟨c, 0, if c ≥ 10 ^ 18 then 1 else 0⟩
theorem feed_ok (c : Int) (S : Store) : m_law_feed [.int c] S = .ok (.cell S.length) (S ++ [fo (fd0 c)]) := by
  refine run_own (xs := [.int c, .int 0, .int (if c ≥ 10 ^ 18 then 1 else 0)]) ?_ (fo_pure (fd0 c))
  simp [c_law_feed, sRet, cel, fLst, aCons, aNil, eVar, eC, eB, dInt, Rf.e2, dGe, i2, cT, dPow, CPow, big]
theorem feed_xe {B : Bs} {sl : List Sl} {m : M D} {c : Int} (h : XE B sl m (vP yI) (.ok c)) : ∀ env S, SRel B sl env S → (eCall 1 m_law_feed (aCons m aNil) : M D) env S = .ok (.cell S.length) (S ++ [fo (fd0 c)]) := fun env S r => by
  obtain ⟨d, q1, q2⟩ := h env S r
  cases q2
  unfold eCall aCons aNil
  rw [q1]
  exact feed_ok c S
def drawN (c t many : Int) : Int := (((c % 10 ^ 18 + 7919 * t * t + t) * 48271 % 2305843009213693951 * 1442695040888963407 + 4321) % 2305843009213693921 / 16) % many
noncomputable def F_law_draw (g : Fd) (many : Int) : R (Int × Fd) :=
  if 0 < many ∧ many < 1000 ∧ 0 ≤ g.t ∧ g.t < 1000000 then
    if g.b = 1 ∧ 0 < g.c then .ok (g.c % many, ⟨g.c / many, g.t + 1, g.b⟩)
    else .ok (drawN g.c (g.t + 1) many, ⟨g.c, g.t + 1, g.b⟩)
  else .bad
theorem ff_law_draw : ∀ (g : Fd) (many : Int) d n S, S[n]? = some (fo g) → vP yI many d S → OutG fo S n (vP yI) (F_law_draw g many) (m_law_draw [.cell n, d] S) := fun g many d n S hS hd => by
  cases hd
  obtain ⟨c, t, f⟩ := g
  unfold F_law_draw
  dsimp only
  by_cases hh : 0 < many ∧ many < 1000 ∧ 0 ≤ t ∧ t < 1000000
  case neg => rw [if_neg hh]; trivial
  rw [if_pos hh]
  obtain ⟨h1, h2, ht, ht2⟩ := hh
  have hn : n < S.length := (List.getElem?_eq_some_iff.mp hS).1
  unfold fo at hS
  dsimp only at hS
  have hset : ∀ x, (List.set S n x)[n]? = some x := fun x => List.getElem?_set_self hn
  have hd1 : WDiv c many := ⟨h1, .inl (by omega)⟩
  have hm1 : WMul (7919 : Int) (t + 1) := .inl (.inl (by decide))
  have hm2 : WMul (7919 * (t + 1)) (t + 1) := .inl (.inr (by omega))
  have hm3 : ∀ x : Int, WMul x (48271 : Int) := fun x => .inl (.inr (by decide))
  have hm4 : ∀ x : Int, WMul x (1442695040888963407 : Int) := fun x => .inl (.inr (by decide))
  have hd2 : ∀ x : Int, WDiv x 16 := fun x => ⟨by decide, .inl (by decide)⟩
  have hp1 : CPow (10 : Int) (18 : Int) := by unfold CPow; decide
  show OutG fo S n (vP yI) _ (m_law_draw [.cell n, .int many] S)
  by_cases hf : f = 1 ∧ 0 < c
  · rw [if_pos hf]
    refine ⟨.int (c % many), ?_, rfl⟩
    refine run_set (L := []) ?_ rfl rfl
    simp [c_law_draw, sSeq, sAsg, Rf.e2, dAdd, dIx, eVar, eC, pName, seqOf, hS, hset, atI, ixN, sSet, dSetL, Rf.cellOf, sCl, sIf, tAnd', tst, dEq, dGt, i2, cT, hf.1, hf.2, dMod, dFdiv, h1, hd1, sRet]
  · rw [if_neg hf]
    refine ⟨.int (drawN c (t + 1) many), run_set (L := []) ?_ rfl rfl, rfl⟩
    by_cases hf1 : f = 1
    · have hc : ¬ 0 < c := fun z => hf ⟨hf1, z⟩
      simp [c_law_draw, sSeq, sAsg, Rf.e2, dAdd, dIx, eVar, eC, pName, seqOf, hS, hset, atI, ixN, sSet, dSetL, Rf.cellOf, sCl, sIf, tAnd', tst, dEq, dGt, i2, cT, hf1, hc, dMod, dFdiv, h1, hd1, sRet, sNil, clr, dMulI, hm1, hm2, hm3, hm4, hd2, dPow, hp1, drawN]
    · simp [c_law_draw, sSeq, sAsg, Rf.e2, dAdd, dIx, eVar, eC, pName, seqOf, hS, hset, atI, ixN, sSet, dSetL, Rf.cellOf, sCl, sIf, tAnd', tst, dEq, dGt, i2, cT, hf1, dMod, dFdiv, h1, hd1, sRet, sNil, clr, dMulI, hm1, hm2, hm3, hm4, hd2, dPow, hp1, drawN]

noncomputable def F_law_ties (x_law_feed_here : Fd) (x_law_n : Int) : R ((List PD) × Fd) := R.ne
  (R.bind (R.ok ([] : List PD)) fun x_law_ties_here_1 =>
  (R.bind (R.bind (R.bind (R.bind (R.bind (R.ok (31 : Int)) fun y_5 => F_law_draw x_law_feed_here y_5) fun p_6 => R.bind (R.ok ((if (decide ((1 : Int) < x_law_n)) = true then (1 : Int) else 0), p_6.2)) fun p_8 => R.bind (mulR p_6.1 p_8.1) fun c_9 => .ok (c_9, p_8.2)) fun p_10 => R.bind (rng1R p_10.1) fun l_11 => .ok (l_11, p_10.2)) fun p_43 => forR (fun (s_2 : (Fd × (List PD))) (x_4 : Int) =>
  (R.bind (R.bind (R.ok x_law_n) fun y_13 => F_law_draw s_2.1 y_13) fun x_law_one_12 =>
  (R.bind (R.bind (R.bind (R.bind (R.ok (x_law_one_12.1, x_law_one_12.2)) fun p_15 => R.bind (R.bind (R.bind (R.bind (R.ok ((x_law_one_12.1 + (1 : Int)), p_15.2)) fun p_16 => R.bind (R.bind (R.ok (x_law_n - (1 : Int))) fun y_17 => F_law_draw p_16.2 y_17) fun p_20 => R.bind (R.ok (p_16.1 + p_20.1)) fun c_21 => .ok (c_21, p_20.2)) fun p_22 => R.bind (R.ok (x_law_n, p_22.2)) fun p_24 => R.bind (modR p_22.1 p_24.1) fun c_25 => .ok (c_25, p_24.2)) fun p_26 => .ok (toA yI p_26.1, p_26.2)) fun p_39 => .ok ((p_15.1, p_39.1), p_39.2)) fun p_40 => .ok (toA (yP2 yI yA) p_40.1, p_40.2)) fun p_41 => R.bind (appR s_2.2 p_41.1) fun l_42 => .ok (l_42, p_41.2)) fun x_law_ties_here_14 => .ok (x_law_ties_here_14.2, x_law_ties_here_14.1)))) p_43.1 (p_43.2, x_law_ties_here_1)) fun s_3 =>
  (.ok (s_3.2, s_3.1))))
theorem ff_law_ties : ∀ (x_law_feed_here : Fd) (x_law_n : Int) d1 q S, S[q]? = some (fo x_law_feed_here) → vP yI x_law_n d1 S → OutLoF fo S q yA (F_law_ties x_law_feed_here x_law_n) (m_law_ties [.cell q, d1] S) := fun x_law_feed_here x_law_n d1 q S hq h1 => by
  unfold m_law_ties F_law_ties
  refine fn_LoF (g := x_law_feed_here) fo_pure (N := 5) (body := c_law_ties) (ss := [.f (some q) (fo x_law_feed_here), .v (yI x_law_n)]) hq (.cons ⟨rfl, List.mem_singleton.mpr rfl, hq⟩ (.cons h1 .nil)) (by first | exact Nat.le_refl _ | exact Nat.zero_le _) ?_
  unfold c_law_ties
  exact (xb_seq (xn_new 2 (xe_l0 (t := yA))) fun x_law_ties_here_1 =>
  (xb_seq (xn_forF (E0 := (fun g : Fd => ([.f (some q) (fo g), .v (yI x_law_n), .c (x_law_ties_here_1.map yA), .u, .u] : List Sl))) (E := (fun s : (Fd × (List PD)) => ([.f (some q) (fo s.1), .v (yI x_law_n), .c (s.2.map yA), .u, .u] : List Sl))) (E2 := (fun s : (Fd × (List PD)) => ([.f (some q) (fo s.1), .v (yI x_law_n), .c (s.2.map yA), .u, .u] : List Sl))) (fun g_44 => (g_44, x_law_ties_here_1)) (xf_r1 (xf_e2 op_mul' (xf_f1 (E := (fun g : Fd => ([.f (some q) (fo g), .v (yI x_law_n), .c (x_law_ties_here_1.map yA), .u, .u] : List Sl))) (fun _ _ _ _ h => h) ff_law_draw rfl (fun _ => rfl) (xq_v (xe_c (t := yI) (31) rfl))) (fun s_7 => (xf_puret (E := (fun g : Fd => ([.f (some q) (fo g), .v (yI x_law_n), .c (x_law_ties_here_1.map yA), .u, .u] : List Sl))) s_7 (xe_B1t bf_int (xe_e2t op_gtI (xe_var (t := yI) (a := x_law_n) 1 rfl) (xe_c (t := yI) (1) rfl))))))) (fun _ => rfl) (fun s_2 => (xp_name 3)) (fun s_2 x_4 =>
  (xn_seq (xn_asgF 4 (xf_f1 (E := (fun g : Fd => ([.f (some q) (fo g), .v (yI x_law_n), .c (s_2.2.map yA), .v (yI x_4), .u] : List Sl))) (fun _ _ _ _ h => h) ff_law_draw rfl (fun _ => rfl) (xq_v (xe_var (t := yI) (a := x_law_n) 1 rfl)))) fun x_law_one_12 =>
  (xn_end (fun x_law_ties_here_14 => (x_law_ties_here_14.2, x_law_ties_here_14.1)) [3, 4] (xn_appF (t := yA) (l := s_2.2) (E := (fun g : Fd => ([.f (some q) (fo g), .v (yI x_law_n), .c (s_2.2.map yA), .v (yI x_4), .v (yI x_law_one_12.1)] : List Sl))) 2 rfl (fun _ => rfl) (XI.conv (xf_P2 (xf_puret (E := (fun g : Fd => ([.f (some q) (fo g), .v (yI x_law_n), .c (s_2.2.map yA), .v (yI x_4), .v (yI x_law_one_12.1)] : List Sl))) x_law_one_12.2 (xe_var (t := yI) (a := x_law_one_12.1) 4 rfl)) (fun s_27 => (XI.conv (xf_e2 op_mod' (xf_e2 op_add (xf_puret (E := (fun g : Fd => ([.f (some q) (fo g), .v (yI x_law_n), .c (s_2.2.map yA), .v (yI x_4), .v (yI x_law_one_12.1)] : List Sl))) s_27 (xe_e2t op_add (xe_var (t := yI) (a := x_law_one_12.1) 4 rfl) (xe_c (t := yI) (1) rfl))) (fun s_30 => (xf_f1 (E := (fun g : Fd => ([.f (some q) (fo g), .v (yI x_law_n), .c (s_2.2.map yA), .v (yI x_4), .v (yI x_law_one_12.1)] : List Sl))) (fun _ _ _ _ h => h) ff_law_draw rfl (fun _ => rfl) (xq_v (xe_e2t op_sub' (xe_var (t := yI) (a := x_law_n) 1 rfl) (xe_c (t := yI) (1) rfl)))))) (fun s_35 => (xf_puret (E := (fun g : Fd => ([.f (some q) (fo g), .v (yI x_law_n), .c (s_2.2.map yA), .v (yI x_4), .v (yI x_law_one_12.1)] : List Sl))) s_35 (xe_var (t := yI) (a := x_law_n) 1 rfl)))) (toA yI) asA))) (toA (yP2 yI yA)) asA)) (fun _ => rfl)))) (fun _ => rfl)) fun s_3 =>
  (xb_retLoF (t := yA) (l := s_3.2) (g := s_3.1) (iF := 0) 2 rfl rfl (List.getElem?_eq_some_iff.mp hq).1)))
noncomputable def F_law_due (x_law_n : Int) (x_law_ties_here : (List (Int × Int))) : R (Option (Int × (List (Int × Int)))) :=
  (R.bind (R.ok ([] : List (Int × Int))) fun x_law_due_here_45 =>
  (R.bind (forR (fun (s_46 : ((List (Int × Int)))) (x_48 : (Int × Int)) =>
  (R.bind (R.ok ((minI x_48.1 x_48.2), (maxI x_48.1 x_48.2))) fun x_law_tie_49 =>
  (R.bind (R.bind (R.ok (!memB x_law_tie_49 s_46)) fun b_52 => if b_52 = true then (R.bind (appR s_46 x_law_tie_49) fun x_law_due_here_51 => .ok x_law_due_here_51) else (.ok s_46)) fun s_53 => .ok s_53))) x_law_ties_here x_law_due_here_45) fun s_47 =>
  (R.bind (R.ok (decide ((18 : Int) < (s_47.length : Int)))) fun b_56 => if b_56 = true then (R.ok (none : Option (Int × (List (Int × Int))))) else
  (R.bind (R.bind (R.ok x_law_n) fun y0_55 => R.bind (R.bind (sortR (leK (kP2 kI kI)) s_47) fun y0_54 => .ok y0_54) fun y1_55 => .ok (y0_55, y1_55)) fun p => .ok (some p)))))
theorem ff_law_due : ∀ (x_law_n : Int) (x_law_ties_here : (List (Int × Int))) d0 d1 S, vP yI x_law_n d0 S → lP false (yP2 yI yI) x_law_ties_here d1 S → Out S (vP (yO (yP2 yI (yT (yP2 yI yI))))) (F_law_due x_law_n x_law_ties_here) (m_law_due [d0, d1] S) := fun x_law_n x_law_ties_here d0 d1 S h0 h1 => by
  unfold m_law_due
  refine fn_v (N := 6) (body := c_law_due) (ss := [.v (yI x_law_n), .r (x_law_ties_here.map (yP2 yI yI))]) (.cons h0 (.cons (prel_r h1) .nil)) (by first | exact Nat.le_refl _ | exact Nat.zero_le _) ?_
  unfold c_law_due F_law_due
  exact (xb_seq (xn_new 2 (xe_l0 (t := (yP2 yI yI)))) fun x_law_due_here_45 =>
  (xb_seq (xn_forv (E := (fun s : ((List (Int × Int))) => ([.v (yI x_law_n), .r (x_law_ties_here.map (yP2 yI yI)), .c (s.map (yP2 yI yI)), .u, .u, .u] : List Sl))) (E2 := (fun s : ((List (Int × Int))) => ([.v (yI x_law_n), .r (x_law_ties_here.map (yP2 yI yI)), .c (s.map (yP2 yI yI)), .u, .u, .u] : List Sl))) x_law_due_here_45 (xj_seq (t := (yP2 yI yI)) (l := x_law_ties_here) 1 (.inr rfl)) rfl (fun _ => (.inr rfl)) (by first | exact kpp_name | exact kpp_tup (kpps_cons kpp_name (kpps_cons kpp_name kpps_nil)) | (repeat' (first | apply kp_nil | apply kp_ret | apply kp_expr | apply kp_set | apply kp_cont | apply kp_brk | apply kp_seq | apply kp_if | (refine kp_cl ?_ (by decide)) | (refine kp_aug (by decide)) | (refine kp_par (by decide) (by decide)) | (refine kp_for ?_ ?_ (by decide)) | (refine kp_while ?_ (by decide)) | apply kp_asg | (refine kpp_name (by decide)) | apply kpp_tup | apply kpps_cons | apply kpps_nil | apply kp_bad | apply kp_retN))) (by (repeat' (first | apply kp_nil | apply kp_ret | apply kp_expr | apply kp_set | apply kp_cont | apply kp_brk | apply kp_seq | apply kp_if | (refine kp_cl ?_ (by decide)) | (refine kp_aug (by decide)) | (refine kp_par (by decide) (by decide)) | (refine kp_for ?_ ?_ (by decide)) | (refine kp_while ?_ (by decide)) | apply kp_asg | (refine kpp_name (by decide)) | apply kpp_tup | apply kpps_cons | apply kpps_nil | apply kp_bad | apply kp_retN))) (by decide) (fun s_46 => (xp_t2 (xp_name 3) (fun _ => (xp_name 4)))) (fun s_46 x_48 =>
  (xn_seq (xn_asg 5 (xe_P2t (xe_B2t bf_min2 (xe_var (t := yI) (a := x_48.1) 3 rfl) (xe_var (t := yI) (a := x_48.2) 4 rfl)) (xe_B2t bf_max2 (xe_var (t := yI) (a := x_48.1) 3 rfl) (xe_var (t := yI) (a := x_48.2) 4 rfl)))) fun x_law_tie_49 =>
  (xn_end (fun s_53 => s_53) [3, 4, 5] (xn_if (E := (fun s : ((List (Int × Int))) => ([.v (yI x_law_n), .r (x_law_ties_here.map (yP2 yI yI)), .c (s.map (yP2 yI yI)), .v (yI x_48.1), .v (yI x_48.2), .v ((yP2 yI yI) x_law_tie_49)] : List Sl))) (xt_tst (xe_e2t op_nin' (xe_var (t := (yP2 yI yI)) (a := x_law_tie_49) 5 rfl) (xe_vc (t := (yP2 yI yI)) (l := s_46) 2 rfl))) (xn_end (fun x_law_due_here_51 => x_law_due_here_51) [] (xn_app (t := (yP2 yI yI)) (l := s_46) 2 rfl (xe_var (t := (yP2 yI yI)) (a := x_law_tie_49) 5 rfl)) (fun _ => rfl)) (xn_nild s_46 [] rfl)) (fun _ => rfl)))) (fun _ => rfl)) fun s_47 =>
  (xb_push (xb_if (xt_tst (xe_e2t op_gtI (xe_B1t bf_len (xe_vc (t := (yP2 yI yI)) (l := s_47) 2 rfl)) (xe_c (t := yI) (18) rfl))) (xb_skip (ends_ret _) (xb_ret (xe_c (t := (yO (yP2 yI (yT (yP2 yI yI))))) none rfl)))
  (xb_nil (xb_ret (XE.conv (xe_P2 (xe_var (t := yI) (a := x_law_n) 0 rfl) (xe_B1 bf_tuple (XE.asL (xe_fz (xe_B1t bf_sorted (xe_vc (t := (yP2 yI yI)) (l := s_47) 2 rfl)))))) (fun p => some p) (fun p d S h => h))))))))
noncomputable def F_is_whole (x_thing : PD) : R Bool :=
  (R.bind (isiA "int" x_thing) fun b => if b = true then (R.bind (isiA "bool" x_thing) fun b => .ok (!b)) else .ok false)
theorem ff_is_whole : ∀ (x_thing : PD) d0 S, vP yA x_thing d0 S → Out S (vP yB) (F_is_whole x_thing) (m_is_whole [d0] S) := fun x_thing d0 S h0 => by
  unfold m_is_whole
  refine fn_v (N := 1) (body := c_is_whole) (ss := [.v (yA x_thing)]) (.cons h0 .nil) (by first | exact Nat.le_refl _ | exact Nat.zero_le _) ?_
  unfold c_is_whole F_is_whole
  exact (xb_ret (xe_and (xe_isiAt (xe_var (t := yA) (a := x_thing) 0 rfl)) (xe_not (xe_isiAt (xe_var (t := yA) (a := x_thing) 0 rfl)))))
noncomputable def F_tie_of (x_thing : PD) (x_n : Int) : R (Int × Int) :=
  (R.bind (R.bind (R.bind (isiA "tuple" x_thing) fun b => .ok (!b)) fun b => if b = true then .ok true else (R.bind (lenA x_thing) fun ya_57 => R.bind (R.ok (2 : Int)) fun yb_57 => .ok (!decide (ya_57 = yb_57)))) fun b_71 => if b_71 = true then (.err 0) else
  (R.bind (R.bind (itemsA x_thing) fun l_64 => forL (fun (s_58 : Unit) (x_60 : PD) =>
  (R.bind (R.bind (R.bind (F_is_whole x_60) fun b => .ok (!b)) fun b => if b = true then .ok true else (R.bind (R.bind (intA x_60) fun u_61 => .ok (decide (u_61 < (0 : Int)))) fun b => if b = true then .ok true else (R.bind (intA x_60) fun u_62 => .ok (decide (x_n ≤ u_62))))) fun b_63 => if b_63 = true then (.err 0) else
  (.ok (.go ())))) l_64 ()) fun r_65 => Lp.fin r_65 fun s_59 =>
  (R.bind (R.bind (ixA x_thing (0 : Int)) fun ya_66 => R.bind (ixA x_thing (1 : Int)) fun yb_66 => eqA ya_66 yb_66) fun b_70 => if b_70 = true then (.err 0) else
  (R.bind (R.bind (intsA x_thing) fun y0_67 => minR y0_67) fun y0_69 => R.bind (R.bind (intsA x_thing) fun y0_68 => maxR y0_68) fun y1_69 => .ok (y0_69, y1_69)))))
theorem ff_tie_of : ∀ (x_thing : PD) (x_n : Int) d0 d1 S, vP yA x_thing d0 S → vP yI x_n d1 S → Out S (vP (yP2 yI yI)) (F_tie_of x_thing x_n) (m_tie_of [d0, d1] S) := fun x_thing x_n d0 d1 S h0 h1 => by
  unfold m_tie_of
  refine fn_v (N := 3) (body := c_tie_of) (ss := [.v (yA x_thing), .v (yI x_n)]) (.cons h0 (.cons h1 .nil)) (by first | exact Nat.le_refl _ | exact Nat.zero_le _) ?_
  unfold c_tie_of F_tie_of
  exact (xb_push (xb_if (xt_or (xt_not (xt_tst (xe_isiAt (xe_var (t := yA) (a := x_thing) 0 rfl)))) (xt_tst (xe_e2 op_neI (xe_B1t bf_lenA (xe_var (t := yA) (a := x_thing) 0 rfl)) (xe_c (t := yI) (2) rfl)))) (xb_skip (ends_rs 0) (xb_raise 0))
  (xb_nil (xb_seqL (xl_for (E := (fun s : Unit => ([.v (yA x_thing), .v (yI x_n), .u] : List Sl))) (E2 := (fun s : Unit => ([.v (yA x_thing), .v (yI x_n), .u] : List Sl))) () (xi_A (xe_var (t := yA) (a := x_thing) 0 rfl)) rfl (fun s_58 => (xp_name 2)) (fun s_58 x_60 =>
  (xl_if (xt_or (xt_not (xt_tst (xe_call1t ff_is_whole (xe_var (t := yA) (a := x_60) 2 rfl)))) (xt_or (xt_tst (xe_e2t (op_i2A op_ltI trivial) (xe_var (t := yA) (a := x_60) 2 rfl) (xe_c (t := yI) (0) rfl))) (xt_tst (xe_e2t (op_i2A op_geI trivial) (xe_var (t := yA) (a := x_60) 2 rfl) (xe_var (t := yI) (a := x_n) 1 rfl))))) (xl_raise 0)
  (xl_god () [2] rfl))) (fun _ => rfl)) fun s_59 =>
  (xb_push (xb_if (xt_tst (xe_e2 op_eqA (xe_e2t op_ixA (xe_var (t := yA) (a := x_thing) 0 rfl) (xe_c (t := yI) (0) rfl)) (xe_e2t op_ixA (xe_var (t := yA) (a := x_thing) 0 rfl) (xe_c (t := yI) (1) rfl)))) (xb_skip (ends_rs 0) (xb_raise 0))
  (xb_nil (xb_ret (xe_P2 (xe_B1 bf_min (XE.asT (XE.toTI (xe_var (t := yA) (a := x_thing) 0 rfl)))) (xe_B1 bf_max (XE.asT (XE.toTI (xe_var (t := yA) (a := x_thing) 0 rfl)))))))))))))
noncomputable def F_web (x_n : PD) (x_some : PD) : R (Int × (List (Int × Int))) :=
  (R.bind (R.bind (R.bind (F_is_whole x_n) fun b => .ok (!b)) fun b => if b = true then .ok true else (R.bind (R.bind (intA x_n) fun u_72 => .ok (decide (u_72 < (1 : Int)))) fun b => if b = true then .ok true else (R.bind (intA x_n) fun u_73 => .ok (decide ((10 : Int) < u_73))))) fun b_81 => if b_81 = true then (.err 0) else
  (R.bind (R.bind (isiA "tuple" x_some) fun b => .ok (!b)) fun b_80 => if b_80 = true then (.err 0) else
  (R.bind (R.bind (R.bind (itemsA x_some) fun l => compBX (fun x_i_75 => (R.bind (R.ok x_i_75) fun y0_76 => R.bind (intA x_n) fun y1_76 => F_tie_of y0_76 y1_76)) l) fun y0_77 => (sSR ((yL (yP2 yI yI)) y0_77))) fun x_ties_74 =>
  (R.bind (R.ok (decide ((18 : Int) < (x_ties_74.length : Int)))) fun b_79 => if b_79 = true then (.err 0) else
  (R.bind (intA x_n) fun y0_78 => R.bind (R.ok x_ties_74) fun y1_78 => .ok (y0_78, y1_78))))))
theorem ff_web : ∀ (x_n : PD) (x_some : PD) d0 d1 S, vP yA x_n d0 S → vP yA x_some d1 S → Out S (vP (yP2 yI (yT (yP2 yI yI)))) (F_web x_n x_some) (m_web [d0, d1] S) := fun x_n x_some d0 d1 S h0 h1 => by
  unfold m_web
  refine fn_v (N := 4) (body := c_web) (ss := [.v (yA x_n), .v (yA x_some)]) (.cons h0 (.cons h1 .nil)) (by first | exact Nat.le_refl _ | exact Nat.zero_le _) ?_
  unfold c_web F_web
  exact (xb_push (xb_if (xt_or (xt_not (xt_tst (xe_call1t ff_is_whole (xe_var (t := yA) (a := x_n) 0 rfl)))) (xt_or (xt_tst (xe_e2t (op_i2A op_ltI trivial) (xe_var (t := yA) (a := x_n) 0 rfl) (xe_c (t := yI) (1) rfl))) (xt_tst (xe_e2t (op_i2A op_gtI trivial) (xe_var (t := yA) (a := x_n) 0 rfl) (xe_c (t := yI) (10) rfl))))) (xb_skip (ends_rs 0) (xb_raise 0))
  (xb_nil (xb_push (xb_if (xt_not (xt_tst (xe_isiAt (xe_var (t := yA) (a := x_some) 1 rfl)))) (xb_skip (ends_rs 0) (xb_raise 0))
  (xb_nil (xb_seq (xn_asg 2 (xe_fz (xe_sS1 (xe_fz (xe_compX (XE.toP (xi_A (xe_var (t := yA) (a := x_some) 1 rfl))) (xp_name 3) fun x_i_75 => (xe_call2 ff_tie_of (xe_var (t := yA) (a := x_i_75) 3 rfl) (XE.toI (xe_var (t := yA) (a := x_n) 0 rfl)))))))) fun x_ties_74 =>
  (xb_push (xb_if (xt_tst (xe_e2t op_gtI (xe_B1t bf_len (XE.asL (xe_var (t := (yL (yP2 yI yI))) (a := x_ties_74) 2 rfl))) (xe_c (t := yI) (18) rfl))) (xb_skip (ends_rs 0) (xb_raise 0))
  (xb_nil (xb_ret (xe_P2 (XE.toI (xe_var (t := yA) (a := x_n) 0 rfl)) (xe_B1t bf_tuple (XE.asL (xe_var (t := (yL (yP2 yI yI))) (a := x_ties_74) 2 rfl)))))))))))))))
noncomputable def F_law_told (x_law_n : PD) (x_law_some : PD) : R PD :=
  (R.bind (R.ok (toA yN ())) fun x_law_told_here_82 =>
  (R.bind (tryR ct_CrossError (R.bind (F_web x_law_n x_law_some) fun p => .ok (toA (yP2 yI (yT (yP2 yI yI))) p)) (fun x_law_told_here_90 => .ok x_law_told_here_90) (fun c_83 => (R.bind (oR (isQ isx ((yX cn) c_83) (.tup [.cl "NoDrawing", .cl "NoLens", .cl "NoOrder", .cl "NoPoints", .cl "NoRoute", .cl "NoText", .cl "NoTie", .cl "TooMany"]))) fun x_law_others_87 =>
  (R.bind (R.bind (R.bind (R.ok ("refused" : Str)) fun y0_89 => R.bind (R.bind (oR (isQ isx ((yX cn) c_83) (.cl "NoWeb"))) fun b => if b = true then (R.bind (oR (isQ isx ((yX cn) c_83) (.ty "ValueError"))) fun b => if b = true then (R.ok (!x_law_others_87)) else .ok false) else .ok false) fun y1_89 => .ok (y0_89, y1_89)) fun p => .ok (toA (yP2 yS yB) p)) fun x_law_told_here_88 => .ok x_law_told_here_88)))) fun s_91 =>
  (R.ok s_91)))
theorem ff_law_told : ∀ (x_law_n : PD) (x_law_some : PD) d0 d1 S, vP yA x_law_n d0 S → vP yA x_law_some d1 S → Out S (vP yA) (F_law_told x_law_n x_law_some) (m_law_told [d0, d1] S) := fun x_law_n x_law_some d0 d1 S h0 h1 => by
  unfold m_law_told
  refine fn_v (N := 5) (body := c_law_told) (ss := [.v (yA x_law_n), .v (yA x_law_some)]) (.cons h0 (.cons h1 .nil)) (by first | exact Nat.le_refl _ | exact Nat.zero_le _) ?_
  unfold c_law_told F_law_told
  exact (xb_seq (xn_asg 2 (XE.conv (xe_c (t := yN) () rfl) (toA yN) asA)) fun x_law_told_here_82 =>
  (xb_seq (xn_cl [3, 4] (xn_tryA (E := (fun s : (PD) => ([.v (yA x_law_n), .v (yA x_law_some), .v (yA s), .u, .u] : List Sl))) (cn := cn) 2 3 (XE.conv (xe_call2t ff_web (xe_var (t := yA) (a := x_law_n) 0 rfl) (xe_var (t := yA) (a := x_law_some) 1 rfl)) (toA (yP2 yI (yT (yP2 yI yI)))) asA) (fun x_law_told_here_90 => (xn_nild x_law_told_here_90 [] rfl)) (fun c_83 => (xn_seq (xn_asg 4 (xe_B2t (bf_isX (t := (yX cn)) isx (.tup [.cl "NoDrawing", .cl "NoLens", .cl "NoOrder", .cl "NoPoints", .cl "NoRoute", .cl "NoText", .cl "NoTie", .cl "TooMany"])) (xe_var (t := (yX cn)) (a := c_83) 3 rfl) (xe_clT [.cl "NoDrawing", .cl "NoLens", .cl "NoOrder", .cl "NoPoints", .cl "NoRoute", .cl "NoText", .cl "NoTie", .cl "TooMany"] (fun _ _ => rfl) (by decide)))) fun x_law_others_87 =>
  (xn_end (fun x_law_told_here_88 => x_law_told_here_88) [3, 4] (xn_asg 2 (XE.conv (xe_P2 (xe_c (t := yS) "refused" rfl) (xe_and (xe_B2t (bf_isX (t := (yX cn)) isx (.cl "NoWeb")) (xe_var (t := (yX cn)) (a := c_83) 3 rfl) (xe_cl (.cl "NoWeb"))) (xe_and (xe_B2t (bf_isX (t := (yX cn)) isx (.ty "ValueError")) (xe_var (t := (yX cn)) (a := c_83) 3 rfl) (xe_cl (.ty "ValueError"))) (xe_not (xe_var (t := yB) (a := x_law_others_87) 4 rfl))))) (toA (yP2 yS yB)) asA)) (fun _ => rfl)))) (fun _ => rfl))) fun s_91 =>
  (xb_ret (xe_var (t := yA) (a := s_91) 2 rfl))))
noncomputable def F_law_odd_tie (x_law_feed_here : Fd) (x_law_n : Int) : R (PD × Fd) := R.ne
  (R.bind (R.bind (R.ok x_law_n) fun y_93 => F_law_draw x_law_feed_here y_93) fun x_law_a_92 =>
  (R.bind (R.bind (R.ok (toA (yP2 yI yI) (x_law_a_92.1, x_law_a_92.1))) fun y0_98 => R.bind (R.ok (toA (yP2 yI yI) (x_law_a_92.1, x_law_n))) fun y1_98 => R.bind (R.ok (toA (yP2 yI yI) (x_law_n, x_law_a_92.1))) fun y2_98 => R.bind (R.ok (toA (yP2 yI yI) ((-(1 : Int)), x_law_a_92.1))) fun y3_98 => R.bind (R.ok (toA (yP2 yI yI) (x_law_a_92.1, (-(1 : Int))))) fun y4_98 => R.bind (R.bind (R.bind (R.ok x_law_a_92.1) fun y0_95 => R.bind (powR (10 : Int) (59 : Int)) fun y1_95 => .ok (y0_95, y1_95)) fun p => .ok (toA (yP2 yI yI) p)) fun y5_98 => R.bind (R.bind (R.bind (R.bind (powR (10 : Int) (59 : Int)) fun ya_96 => .ok (-ya_96)) fun y0_97 => R.bind (R.ok x_law_a_92.1) fun y1_97 => .ok (y0_97, y1_97)) fun p => .ok (toA (yP2 yI yI) p)) fun y6_98 => R.bind (R.ok (toA (yP2 yI yB) (x_law_a_92.1, true))) fun y7_98 => R.bind (R.ok (toA (yP2 yB yI) (false, x_law_a_92.1))) fun y8_98 => R.bind (R.ok (toA (yP2 yI yS) (x_law_a_92.1, ("1" : Str)))) fun y9_98 => .ok [y0_98, y1_98, y2_98, y3_98, y4_98, y5_98, y6_98, y7_98, y8_98, y9_98]) fun x_law_some_94 =>
  (R.bind (catR x_law_some_94 [(toA (yP1 yI) (x_law_a_92.1)), (toA (yP3 yI yI yI) (x_law_a_92.1, ((x_law_n - (1 : Int)) - x_law_a_92.1), x_law_a_92.1)), (toA yP0 ()), (toA yN ()), (toA yI x_law_a_92.1), (toA yS ("01" : Str)), (toA yB true), (toA (yP2 (yP2 yI yI) yI) ((x_law_a_92.1, x_law_a_92.1), x_law_a_92.1)), (toA (yP2 yN yI) ((), x_law_a_92.1)), (toA (yP2 yI (yP1 yI)) (x_law_a_92.1, (x_law_a_92.1)))]) fun x_law_some_99 =>
  (R.bind (R.ok (x_law_some_99, x_law_a_92.2)) fun p_100 => R.bind (R.bind (R.ok (20 : Int)) fun y_101 => F_law_draw p_100.2 y_101) fun p_104 => R.bind (ixR p_100.1 p_104.1) fun c_105 => .ok (c_105, p_104.2)))))
theorem ff_law_odd_tie : ∀ (x_law_feed_here : Fd) (x_law_n : Int) d1 q S, S[q]? = some (fo x_law_feed_here) → vP yI x_law_n d1 S → OutG fo S q (vP yA) (F_law_odd_tie x_law_feed_here x_law_n) (m_law_odd_tie [.cell q, d1] S) := fun x_law_feed_here x_law_n d1 q S hq h1 => by
  unfold m_law_odd_tie F_law_odd_tie
  refine fn_vF (g := x_law_feed_here) fo_pure (N := 4) (body := c_law_odd_tie) (ss := [.f (some q) (fo x_law_feed_here), .v (yI x_law_n)]) hq (.cons ⟨rfl, List.mem_singleton.mpr rfl, hq⟩ (.cons h1 .nil)) (by first | exact Nat.le_refl _ | exact Nat.zero_le _) ?_
  unfold c_law_odd_tie
  exact (xb_seq (xn_asgF 2 (xf_f1 (E := (fun g : Fd => ([.f (some q) (fo g), .v (yI x_law_n), .u, .u] : List Sl))) (fun _ _ _ _ h => h) ff_law_draw rfl (fun _ => rfl) (xq_v (xe_var (t := yI) (a := x_law_n) 1 rfl)))) fun x_law_a_92 =>
  (xb_seq (xn_asg 3 (xe_fz (xe_l10 (XE.conv (xe_P2t (xe_var (t := yI) (a := x_law_a_92.1) 2 rfl) (xe_var (t := yI) (a := x_law_a_92.1) 2 rfl)) (toA (yP2 yI yI)) asA) (XE.conv (xe_P2t (xe_var (t := yI) (a := x_law_a_92.1) 2 rfl) (xe_var (t := yI) (a := x_law_n) 1 rfl)) (toA (yP2 yI yI)) asA) (XE.conv (xe_P2t (xe_var (t := yI) (a := x_law_n) 1 rfl) (xe_var (t := yI) (a := x_law_a_92.1) 2 rfl)) (toA (yP2 yI yI)) asA) (XE.conv (xe_P2t (xe_e1t op_neg' (xe_c (t := yI) (1) rfl)) (xe_var (t := yI) (a := x_law_a_92.1) 2 rfl)) (toA (yP2 yI yI)) asA) (XE.conv (xe_P2t (xe_var (t := yI) (a := x_law_a_92.1) 2 rfl) (xe_e1t op_neg' (xe_c (t := yI) (1) rfl))) (toA (yP2 yI yI)) asA) (XE.conv (xe_P2 (xe_var (t := yI) (a := x_law_a_92.1) 2 rfl) (xe_e2t op_pow' (xe_c (t := yI) (10) rfl) (xe_c (t := yI) (59) rfl))) (toA (yP2 yI yI)) asA) (XE.conv (xe_P2 (xe_e1 op_neg' (xe_e2t op_pow' (xe_c (t := yI) (10) rfl) (xe_c (t := yI) (59) rfl))) (xe_var (t := yI) (a := x_law_a_92.1) 2 rfl)) (toA (yP2 yI yI)) asA) (XE.conv (xe_P2t (xe_var (t := yI) (a := x_law_a_92.1) 2 rfl) (xe_c (t := yB) true rfl)) (toA (yP2 yI yB)) asA) (XE.conv (xe_P2t (xe_c (t := yB) false rfl) (xe_var (t := yI) (a := x_law_a_92.1) 2 rfl)) (toA (yP2 yB yI)) asA) (XE.conv (xe_P2t (xe_var (t := yI) (a := x_law_a_92.1) 2 rfl) (xe_c (t := yS) "1" rfl)) (toA (yP2 yI yS)) asA)))) fun x_law_some_94 =>
  (xb_seq (xn_asg 3 (xe_e2t op_catL (XE.conv (xe_var (t := (yL yA)) (a := x_law_some_94) 3 rfl) (fun l => l) lQ_L rfl) (XE.conv (xe_fz (xe_l10t (XE.conv (xe_P1t (xe_var (t := yI) (a := x_law_a_92.1) 2 rfl)) (toA (yP1 yI)) asA) (XE.conv (xe_P3t (xe_var (t := yI) (a := x_law_a_92.1) 2 rfl) (xe_e2t op_sub' (xe_e2t op_sub' (xe_var (t := yI) (a := x_law_n) 1 rfl) (xe_c (t := yI) (1) rfl)) (xe_var (t := yI) (a := x_law_a_92.1) 2 rfl)) (xe_var (t := yI) (a := x_law_a_92.1) 2 rfl)) (toA (yP3 yI yI yI)) asA) (XE.conv (xe_c0 (t := yP0) () rfl) (toA yP0) asA) (XE.conv (xe_c (t := yN) () rfl) (toA yN) asA) (XE.conv (xe_var (t := yI) (a := x_law_a_92.1) 2 rfl) (toA yI) asA) (XE.conv (xe_c (t := yS) "01" rfl) (toA yS) asA) (XE.conv (xe_c (t := yB) true rfl) (toA yB) asA) (XE.conv (xe_P2t (xe_P2t (xe_var (t := yI) (a := x_law_a_92.1) 2 rfl) (xe_var (t := yI) (a := x_law_a_92.1) 2 rfl)) (xe_var (t := yI) (a := x_law_a_92.1) 2 rfl)) (toA (yP2 (yP2 yI yI) yI)) asA) (XE.conv (xe_P2t (xe_c (t := yN) () rfl) (xe_var (t := yI) (a := x_law_a_92.1) 2 rfl)) (toA (yP2 yN yI)) asA) (XE.conv (xe_P2t (xe_var (t := yI) (a := x_law_a_92.1) 2 rfl) (xe_P1t (xe_var (t := yI) (a := x_law_a_92.1) 2 rfl))) (toA (yP2 yI (yP1 yI))) asA))) (fun l => l) lQ_L rfl))) fun x_law_some_99 =>
  (xb_retF (iF := 0) (fun _ => rfl) (xf_e2 (Op2.ofL op_ix') (xf_puret (E := (fun g : Fd => ([.f (some q) (fo g), .v (yI x_law_n), .v (yI x_law_a_92.1), .v ((yL yA) x_law_some_99)] : List Sl))) x_law_a_92.2 (xe_var (t := (yL yA)) (a := x_law_some_99) 3 rfl)) (fun s_102 => (xf_f1 (E := (fun g : Fd => ([.f (some q) (fo g), .v (yI x_law_n), .v (yI x_law_a_92.1), .v ((yL yA) x_law_some_99)] : List Sl))) (fun _ _ _ _ h => h) ff_law_draw rfl (fun _ => rfl) (xq_v (xe_c (t := yI) (20) rfl)))))))))
noncomputable def F_law_whole (x_law_told_here : PD) : R Bool :=
  (R.bind (R.bind (R.bind (isiA "tuple" x_law_told_here) fun b => .ok (!b)) fun b => if b = true then .ok true else (R.bind (R.bind (ixA x_law_told_here (1 : Int)) fun x => isiA "tuple" x) fun b => .ok (!b))) fun b_114 => if b_114 = true then (R.ok false) else
  (R.bind (R.bind (R.bind (ixA x_law_told_here (1 : Int)) fun x => itemsA x) fun l_112 => forL (fun (s_106 : Unit) (x_108 : PD) =>
  (R.bind (R.bind (R.bind (isiA "tuple" x_108) fun b => .ok (!b)) fun b => if b = true then .ok true else (R.bind (R.ok true) fun ya_110 => R.bind (R.bind (itemsA x_108) fun l => compB (fun _ => .ok true) (fun x_i_109 => isiA "bool" x_i_109) l) fun yb_110 => .ok (memB ya_110 yb_110))) fun b_111 => if b_111 = true then (.ok (.out false)) else
  (.ok (.go ())))) l_112 ()) fun r_113 => Lp.fin r_113 fun s_107 =>
  (R.bind (R.bind (ixA x_law_told_here (0 : Int)) fun x => isiA "bool" x) fun b => .ok (!b))))
theorem ff_law_whole : ∀ (x_law_told_here : PD) d0 S, vP yA x_law_told_here d0 S → Out S (vP yB) (F_law_whole x_law_told_here) (m_law_whole [d0] S) := fun x_law_told_here d0 S h0 => by
  unfold m_law_whole
  refine fn_v (N := 3) (body := c_law_whole) (ss := [.v (yA x_law_told_here)]) (.cons h0 .nil) (by first | exact Nat.le_refl _ | exact Nat.zero_le _) ?_
  unfold c_law_whole F_law_whole
  exact (xb_push (xb_if (xt_or (xt_not (xt_tst (xe_isiAt (xe_var (t := yA) (a := x_law_told_here) 0 rfl)))) (xt_not (xt_tst (xe_isiA (xe_e2t op_ixA (xe_var (t := yA) (a := x_law_told_here) 0 rfl) (xe_c (t := yI) (1) rfl)))))) (xb_skip (ends_ret _) (xb_ret (xe_c (t := yB) false rfl)))
  (xb_nil (xb_seqL (xl_for (E := (fun s : Unit => ([.v (yA x_law_told_here), .u, .u] : List Sl))) (E2 := (fun s : Unit => ([.v (yA x_law_told_here), .u, .u] : List Sl))) () (xi_A (xe_e2t op_ixA (xe_var (t := yA) (a := x_law_told_here) 0 rfl) (xe_c (t := yI) (1) rfl))) rfl (fun s_106 => (xp_name 1)) (fun s_106 x_108 =>
  (xl_if (xt_or (xt_not (xt_tst (xe_isiAt (xe_var (t := yA) (a := x_108) 1 rfl)))) (xt_tst (xe_e2 op_in' (xe_c (t := yB) true rfl) (XE.asL (xe_fz (xe_comp (XE.toP (xi_A (xe_var (t := yA) (a := x_108) 1 rfl))) (xp_name 2) (fun _ => xe_yes) fun x_i_109 => (xe_isiAt (xe_var (t := yA) (a := x_i_109) 2 rfl)))))))) (xl_ret (xe_c (t := yB) false rfl))
  (xl_god () [1] rfl))) (fun _ => rfl)) fun s_107 =>
  (xb_ret (xe_not (xe_isiA (xe_e2t op_ixA (xe_var (t := yA) (a := x_law_told_here) 0 rfl) (xe_c (t := yI) (0) rfl)))))))))
noncomputable def F_law (x_law_script : (List Int)) : R Bool :=
  (R.bind (R.bind (R.ok (cutL x_law_script none (some (30 : Int)))) fun l_204 => forL (fun (s_115 : Unit) (x_117 : Int) =>
  (R.bind (R.ok (fd0 x_117)) fun x_law_feed_here_118 =>
  (R.bind (R.bind (R.ok ((1 : Int), x_law_feed_here_118)) fun p_120 => R.bind (R.bind (R.ok (10 : Int)) fun y_121 => F_law_draw p_120.2 y_121) fun p_124 => R.bind (R.ok (p_120.1 + p_124.1)) fun c_125 => .ok (c_125, p_124.2)) fun x_law_n_119 =>
  (R.bind (R.bind (R.ok x_law_n_119.1) fun a_127 => F_law_ties x_law_n_119.2 a_127) fun p_126 =>
  (R.bind (R.bind (R.ok x_law_n_119.1) fun y0_129 => R.bind (pairsA p_126.1) fun y1_129 => F_law_due y0_129 y1_129) fun x_law_due_here_128 =>
  (R.bind (R.bind (R.ok (6 : Int)) fun y_131 => F_law_draw p_126.2 y_131) fun x_law_way_130 =>
  (R.bind (R.bind (R.ok (decide (x_law_way_130.1 = (0 : Int)))) fun b_150 => if b_150 = true then (R.bind (R.bind (R.bind (R.ok ((p_126.1.length : Int) + (1 : Int))) fun y_142 => F_law_draw x_law_way_130.2 y_142) fun p_143 => R.bind (R.bind (R.ok x_law_n_119.1) fun y_147 => F_law_odd_tie p_143.2 y_147) fun a_146 => R.bind (insR p_126.1 p_143.1 a_146.1) fun l_145 => .ok (l_145, a_146.2)) fun x_law_ties_here_141 =>
  (R.bind (R.ok (none : Option (Int × (List (Int × Int))))) fun x_law_due_here_149 => .ok (x_law_due_here_149, x_law_ties_here_141.1, x_law_ties_here_141.2))) else (.ok (x_law_due_here_128, p_126.1, x_law_way_130.2))) fun s_151 =>
  (R.bind (R.ok (toA yI x_law_n_119.1)) fun x_law_number_152 =>
  (R.bind (R.bind (R.ok (decide (x_law_way_130.1 = (1 : Int)))) fun b_175 => if b_175 = true then (R.bind (R.bind (R.bind (R.bind (R.ok (toA yI (0 : Int))) fun y0_166 => R.bind (R.ok (toA yI (11 : Int))) fun y1_166 => R.bind (R.ok (toA yI (-(1 : Int)))) fun y2_166 => R.bind (R.bind (powR (10 : Int) (59 : Int)) fun p => .ok (toA yI p)) fun y3_166 => R.bind (R.ok (toA yB true)) fun y4_166 => R.bind (R.ok (toA yN ())) fun y5_166 => R.bind (R.ok (toA yS ("3" : Str))) fun y6_166 => R.bind (R.ok (toA (yP1 yI) (x_law_n_119.1))) fun y7_166 => R.bind (R.bind (R.bind (powR (10 : Int) (59 : Int)) fun ya_165 => .ok (-ya_165)) fun p => .ok (toA yI p)) fun y8_166 => .ok [y0_166, y1_166, y2_166, y3_166, y4_166, y5_166, y6_166, y7_166, y8_166]) fun a_167 => .ok (a_167, s_151.2.2)) fun p_168 => R.bind (R.bind (R.ok (9 : Int)) fun y_169 => F_law_draw p_168.2 y_169) fun p_172 => R.bind (ixR p_168.1 p_172.1) fun c_173 => .ok (c_173, p_172.2)) fun x_law_number_164 =>
  (R.bind (R.ok (none : Option (Int × (List (Int × Int))))) fun x_law_due_here_174 => .ok (x_law_number_164.1, x_law_due_here_174, x_law_number_164.2))) else (.ok (x_law_number_152, s_151.1, s_151.2.2))) fun s_176 =>
  (R.bind (R.ok (toA (yT yA) s_151.2.1)) fun x_law_some_177 =>
  (R.bind (R.bind (R.ok (decide (x_law_way_130.1 = (2 : Int)))) fun b_194 => if b_194 = true then (R.bind (R.bind (R.ok ([(toA yN ()), (toA yI (5 : Int)), (toA yS ("" : Str)), (toA yB true), (toA yS ("01" : Str))], s_176.2.2)) fun p_187 => R.bind (R.bind (R.ok (5 : Int)) fun y_188 => F_law_draw p_187.2 y_188) fun p_191 => R.bind (ixR p_187.1 p_191.1) fun c_192 => .ok (c_192, p_191.2)) fun x_law_some_186 =>
  (R.bind (R.ok (none : Option (Int × (List (Int × Int))))) fun x_law_due_here_193 => .ok (x_law_some_186.1, x_law_due_here_193, x_law_some_186.2))) else (.ok (x_law_some_177, s_176.2.1, s_176.2.2))) fun s_195 =>
  (R.bind (R.bind (R.ok (rng1 (2 : Int))) fun l_202 => forL (fun (s_196 : Unit) (x_198 : Int) =>
  (R.bind (F_law_told s_176.1 s_195.1) fun x_law_told_here_199 =>
  (R.bind (R.bind (R.ok s_195.2.1.isNone) fun b => if b = true then neA x_law_told_here_199 (toA (yP2 yS yB) (("refused" : Str), true)) else .ok false) fun b_201 => if b_201 = true then (.ok (.out false)) else
  (R.bind (R.bind (R.ok s_195.2.1.isSome) fun b => if b = true then (R.bind (neA x_law_told_here_199 (toA (yO (yP2 yI (yT (yP2 yI yI)))) s_195.2.1)) fun b => if b = true then .ok true else (R.bind (F_law_whole x_law_told_here_199) fun b => .ok (!b))) else .ok false) fun b_200 => if b_200 = true then (.ok (.out false)) else
  (.ok (.go ())))))) l_202 ()) fun r_203 => Lp.thn r_203 fun s_197 => .ok (.go ()))))))))))))) l_204 ()) fun r_205 => Lp.fin r_205 fun s_116 =>
  (R.ok true))
theorem ff_law : ∀ (x_law_script : (List Int)) d0 S, vP (yF yI) x_law_script d0 S → Out S (vP yB) (F_law x_law_script) (m_law [d0] S) := fun x_law_script d0 S h0 => by
  unfold m_law
  refine fn_v (N := 11) (body := c_law) (ss := [.v ((yF yI) x_law_script)]) (.cons h0 .nil) (by first | exact Nat.le_refl _ | exact Nat.zero_le _) ?_
  unfold c_law F_law
  exact (xb_seqL (xl_for (E := (fun s : Unit => ([.v ((yF yI) x_law_script), .u, .u, .u, .u, .u, .u, .u, .u, .u, .u] : List Sl))) (E2 := (fun s : Unit => ([.v ((yF yI) x_law_script), .u, .u, .u, .u, .u, .u, .u, .u, .u, .u] : List Sl))) () (xi_L (xe_slL (XE.asF (xe_var (t := (yF yI)) (a := x_law_script) 0 rfl)) xo_none (xo_some (xe_c (t := yI) (30) rfl)))) rfl (fun s_115 => (xp_name 1)) (fun s_115 x_117 =>
  (xl_seq (xn_feed (fo := fo) (g := fd0 x_117) 2 (feed_xe (xe_var (t := yI) (a := x_117) 1 rfl))) fun x_law_feed_here_118 =>
  (xl_seq (xn_asgF 3 (xf_e2 op_add (xf_puret (E := (fun g : Fd => ([.v ((yF yI) x_law_script), .v (yI x_117), .f none (fo g), .u, .u, .u, .u, .u, .u, .u, .u] : List Sl))) x_law_feed_here_118 (xe_c (t := yI) (1) rfl)) (fun s_122 => (xf_f1 (E := (fun g : Fd => ([.v ((yF yI) x_law_script), .v (yI x_117), .f none (fo g), .u, .u, .u, .u, .u, .u, .u, .u] : List Sl))) (fun _ _ _ _ h => h) ff_law_draw rfl (fun _ => rfl) (xq_v (xe_c (t := yI) (10) rfl)))))) fun x_law_n_119 =>
  (xl_seq (xn_asgLoF (t := yA) (g := x_law_n_119.2) (iF := 2) 4 (fun g a d q S h h2 => ff_law_ties g a d q S h h2) rfl (xe_var (t := yI) (a := x_law_n_119.1) 3 rfl) rfl) fun p_126 =>
  (xl_seq (xn_asg 5 (xe_call2 ff_law_due (xe_var (t := yI) (a := x_law_n_119.1) 3 rfl) (XE.prsL (xe_vc (t := yA) (l := p_126.1) 4 rfl)))) fun x_law_due_here_128 =>
  (xl_seq (xn_asgF 6 (xf_f1 (E := (fun g : Fd => ([.v ((yF yI) x_law_script), .v (yI x_117), .f none (fo g), .v (yI x_law_n_119.1), .c (p_126.1.map yA), .v ((yO (yP2 yI (yT (yP2 yI yI)))) x_law_due_here_128), .u, .u, .u, .u, .u] : List Sl))) (fun _ _ _ _ h => h) ff_law_draw rfl (fun _ => rfl) (xq_v (xe_c (t := yI) (6) rfl)))) fun x_law_way_130 =>
  (xl_seq (xn_if (E := (fun s : ((Option (Int × (List (Int × Int)))) × (List PD) × Fd) => ([.v ((yF yI) x_law_script), .v (yI x_117), .f none (fo s.2.2), .v (yI x_law_n_119.1), .c (s.2.1.map yA), .v ((yO (yP2 yI (yT (yP2 yI yI)))) s.1), .v (yI x_law_way_130.1), .u, .u, .u, .u] : List Sl))) (xt_tst (xe_e2t op_eqI (xe_var (t := yI) (a := x_law_way_130.1) 6 rfl) (xe_c (t := yI) (0) rfl))) (xn_seq (xn_insFF (t := yA) (l := p_126.1) (E := (fun g : Fd => ([.v ((yF yI) x_law_script), .v (yI x_117), .f none (fo g), .v (yI x_law_n_119.1), .c (p_126.1.map yA), .v ((yO (yP2 yI (yT (yP2 yI yI)))) x_law_due_here_128), .v (yI x_law_way_130.1), .u, .u, .u, .u] : List Sl))) (E' := (fun g : Fd => ([.v ((yF yI) x_law_script), .v (yI x_117), .f none (fo g), .v (yI x_law_n_119.1), .c (p_126.1.map yA), .v ((yO (yP2 yI (yT (yP2 yI yI)))) x_law_due_here_128), .v (yI x_law_way_130.1), .u, .u, .u, .u] : List Sl))) 4 rfl (fun _ => rfl) (xf_f1 (E := (fun g : Fd => ([.v ((yF yI) x_law_script), .v (yI x_117), .f none (fo g), .v (yI x_law_n_119.1), .c (p_126.1.map yA), .v ((yO (yP2 yI (yT (yP2 yI yI)))) x_law_due_here_128), .v (yI x_law_way_130.1), .u, .u, .u, .u] : List Sl))) (fun _ _ _ _ h => h) ff_law_draw rfl (fun _ => rfl) (xq_v (xe_e2t op_add (xe_B1t bf_len (xe_vc (t := yA) (l := p_126.1) 4 rfl)) (xe_c (t := yI) (1) rfl)))) (fun s_144 => (xf_f1 (E := (fun g : Fd => ([.v ((yF yI) x_law_script), .v (yI x_117), .f none (fo g), .v (yI x_law_n_119.1), .c (p_126.1.map yA), .v ((yO (yP2 yI (yT (yP2 yI yI)))) x_law_due_here_128), .v (yI x_law_way_130.1), .u, .u, .u, .u] : List Sl))) (fun _ _ _ _ h => h) ff_law_odd_tie rfl (fun _ => rfl) (xq_v (xe_var (t := yI) (a := x_law_n_119.1) 3 rfl))))) fun x_law_ties_here_141 =>
  (xn_end (fun x_law_due_here_149 => (x_law_due_here_149, x_law_ties_here_141.1, x_law_ties_here_141.2)) [] (xn_asg 5 (xe_c (t := (yO (yP2 yI (yT (yP2 yI yI))))) none rfl)) (fun _ => rfl))) (xn_nild (x_law_due_here_128, p_126.1, x_law_way_130.2) [] rfl)) fun s_151 =>
  (xl_seq (xn_asg 7 (XE.conv (xe_var (t := yI) (a := x_law_n_119.1) 3 rfl) (toA yI) asA)) fun x_law_number_152 =>
  (xl_seq (xn_if (E := (fun s : (PD × (Option (Int × (List (Int × Int)))) × Fd) => ([.v ((yF yI) x_law_script), .v (yI x_117), .f none (fo s.2.2), .v (yI x_law_n_119.1), .c (s_151.2.1.map yA), .v ((yO (yP2 yI (yT (yP2 yI yI)))) s.2.1), .v (yI x_law_way_130.1), .v (yA s.1), .u, .u, .u] : List Sl))) (xt_tst (xe_e2t op_eqI (xe_var (t := yI) (a := x_law_way_130.1) 6 rfl) (xe_c (t := yI) (1) rfl))) (xn_seq (xn_asgF 7 (xf_e2 (Op2.ofL op_ix') (xf_pure (E := (fun g : Fd => ([.v ((yF yI) x_law_script), .v (yI x_117), .f none (fo g), .v (yI x_law_n_119.1), .c (s_151.2.1.map yA), .v ((yO (yP2 yI (yT (yP2 yI yI)))) s_151.1), .v (yI x_law_way_130.1), .v (yA x_law_number_152), .u, .u, .u] : List Sl))) s_151.2.2 (xe_fz (xe_l9 (XE.conv (xe_c (t := yI) (0) rfl) (toA yI) asA) (XE.conv (xe_c (t := yI) (11) rfl) (toA yI) asA) (XE.conv (xe_e1t op_neg' (xe_c (t := yI) (1) rfl)) (toA yI) asA) (XE.conv (xe_e2t op_pow' (xe_c (t := yI) (10) rfl) (xe_c (t := yI) (59) rfl)) (toA yI) asA) (XE.conv (xe_c (t := yB) true rfl) (toA yB) asA) (XE.conv (xe_c (t := yN) () rfl) (toA yN) asA) (XE.conv (xe_c (t := yS) "3" rfl) (toA yS) asA) (XE.conv (xe_P1t (xe_var (t := yI) (a := x_law_n_119.1) 3 rfl)) (toA (yP1 yI)) asA) (XE.conv (xe_e1 op_neg' (xe_e2t op_pow' (xe_c (t := yI) (10) rfl) (xe_c (t := yI) (59) rfl))) (toA yI) asA)))) (fun s_170 => (xf_f1 (E := (fun g : Fd => ([.v ((yF yI) x_law_script), .v (yI x_117), .f none (fo g), .v (yI x_law_n_119.1), .c (s_151.2.1.map yA), .v ((yO (yP2 yI (yT (yP2 yI yI)))) s_151.1), .v (yI x_law_way_130.1), .v (yA x_law_number_152), .u, .u, .u] : List Sl))) (fun _ _ _ _ h => h) ff_law_draw rfl (fun _ => rfl) (xq_v (xe_c (t := yI) (9) rfl)))))) fun x_law_number_164 =>
  (xn_end (fun x_law_due_here_174 => (x_law_number_164.1, x_law_due_here_174, x_law_number_164.2)) [] (xn_asg 5 (xe_c (t := (yO (yP2 yI (yT (yP2 yI yI))))) none rfl)) (fun _ => rfl))) (xn_nild (x_law_number_152, s_151.1, s_151.2.2) [] rfl)) fun s_176 =>
  (xl_seq (xn_asg 8 (XE.conv (xe_B1t bf_tuple (xe_vc (t := yA) (l := s_151.2.1) 4 rfl)) (toA (yT yA)) asA)) fun x_law_some_177 =>
  (xl_seq (xn_if (E := (fun s : (PD × (Option (Int × (List (Int × Int)))) × Fd) => ([.v ((yF yI) x_law_script), .v (yI x_117), .f none (fo s.2.2), .v (yI x_law_n_119.1), .c (s_151.2.1.map yA), .v ((yO (yP2 yI (yT (yP2 yI yI)))) s.2.1), .v (yI x_law_way_130.1), .v (yA s_176.1), .v (yA s.1), .u, .u] : List Sl))) (xt_tst (xe_e2t op_eqI (xe_var (t := yI) (a := x_law_way_130.1) 6 rfl) (xe_c (t := yI) (2) rfl))) (xn_seq (xn_asgF 8 (xf_e2 (Op2.ofL op_ix') (xf_puret (E := (fun g : Fd => ([.v ((yF yI) x_law_script), .v (yI x_117), .f none (fo g), .v (yI x_law_n_119.1), .c (s_151.2.1.map yA), .v ((yO (yP2 yI (yT (yP2 yI yI)))) s_176.2.1), .v (yI x_law_way_130.1), .v (yA s_176.1), .v (yA x_law_some_177), .u, .u] : List Sl))) s_176.2.2 (xe_fz (xe_l5t (XE.conv (xe_c (t := yN) () rfl) (toA yN) asA) (XE.conv (xe_c (t := yI) (5) rfl) (toA yI) asA) (XE.conv (xe_c (t := yS) "" rfl) (toA yS) asA) (XE.conv (xe_c (t := yB) true rfl) (toA yB) asA) (XE.conv (xe_c (t := yS) "01" rfl) (toA yS) asA)))) (fun s_189 => (xf_f1 (E := (fun g : Fd => ([.v ((yF yI) x_law_script), .v (yI x_117), .f none (fo g), .v (yI x_law_n_119.1), .c (s_151.2.1.map yA), .v ((yO (yP2 yI (yT (yP2 yI yI)))) s_176.2.1), .v (yI x_law_way_130.1), .v (yA s_176.1), .v (yA x_law_some_177), .u, .u] : List Sl))) (fun _ _ _ _ h => h) ff_law_draw rfl (fun _ => rfl) (xq_v (xe_c (t := yI) (5) rfl)))))) fun x_law_some_186 =>
  (xn_end (fun x_law_due_here_193 => (x_law_some_186.1, x_law_due_here_193, x_law_some_186.2)) [] (xn_asg 5 (xe_c (t := (yO (yP2 yI (yT (yP2 yI yI))))) none rfl)) (fun _ => rfl))) (xn_nild (x_law_some_177, s_176.2.1, s_176.2.2) [] rfl)) fun s_195 =>
  (xl_Lw (fun s_197 => ()) [1, 2, 3, 4, 5, 6, 7, 8] (xl_for (E := (fun s : Unit => ([.v ((yF yI) x_law_script), .v (yI x_117), .f none (fo s_195.2.2), .v (yI x_law_n_119.1), .c (s_151.2.1.map yA), .v ((yO (yP2 yI (yT (yP2 yI yI)))) s_195.2.1), .v (yI x_law_way_130.1), .v (yA s_176.1), .v (yA s_195.1), .u, .u] : List Sl))) (E2 := (fun s : Unit => ([.v ((yF yI) x_law_script), .v (yI x_117), .f none (fo s_195.2.2), .v (yI x_law_n_119.1), .c (s_151.2.1.map yA), .v ((yO (yP2 yI (yT (yP2 yI yI)))) s_195.2.1), .v (yI x_law_way_130.1), .v (yA s_176.1), .v (yA s_195.1), .u, .u] : List Sl))) () (xi_r1k (xe_c (t := yI) (2) rfl) (by decide)) rfl (fun s_196 => (xp_name 9)) (fun s_196 x_198 =>
  (xl_seq (xn_asg 10 (xe_call2t ff_law_told (xe_var (t := yA) (a := s_176.1) 7 rfl) (xe_var (t := yA) (a := s_195.1) 8 rfl))) fun x_law_told_here_199 =>
  (xl_push (xl_if (xt_and (xt_tst (xe_krt (op_isN (by intro _ h; cases h)) (xe_var (t := (yO (yP2 yI (yT (yP2 yI yI))))) (a := s_195.2.1) 5 rfl))) (xt_tst (xe_e2t op_neA (xe_var (t := yA) (a := x_law_told_here_199) 10 rfl) (XE.conv (xe_P2t (xe_c (t := yS) "refused" rfl) (xe_c (t := yB) true rfl)) (toA (yP2 yS yB)) asA)))) (xl_skip (ends_ret _) (xl_ret (xe_c (t := yB) false rfl)))
  (xl_nil (xl_if (xt_and (xt_tst (xe_krt (op_isnt (by intro _ h; cases h)) (xe_var (t := (yO (yP2 yI (yT (yP2 yI yI))))) (a := s_195.2.1) 5 rfl))) (xt_or (xt_tst (xe_e2t op_neA (xe_var (t := yA) (a := x_law_told_here_199) 10 rfl) (XE.conv (xe_var (t := (yO (yP2 yI (yT (yP2 yI yI))))) (a := s_195.2.1) 5 rfl) (toA (yO (yP2 yI (yT (yP2 yI yI))))) asA))) (xt_not (xt_tst (xe_call1t ff_law_whole (xe_var (t := yA) (a := x_law_told_here_199) 10 rfl)))))) (xl_ret (xe_c (t := yB) false rfl))
  (xl_god () [9, 10] rfl))))))) (fun _ => rfl)) (fun _ => rfl))))))))))))) (fun _ => rfl)) fun s_116 =>
  (xb_ret (xe_c (t := yB) true rfl)))
def Gd (g : Fd) (n : Nat) : Prop := 0 ≤ g.t ∧ g.t + n ≤ 1000000
theorem Gd.mono {g : Fd} {n m : Nat} (h : Gd g n) (hm : m ≤ n) : Gd g m := ⟨h.1, by have := h.2; omega⟩
theorem draw_R {g : Fd} {n : Nat} {many : Int} (h : Gd g (n + 1)) (h1 : 0 < many) (h2 : many < 1000) : ∃ r g', F_law_draw g many = .ok (r, g') ∧ 0 ≤ r ∧ r < many ∧ Gd g' n := by
  obtain ⟨q1, q2⟩ := h
  have q3 : g.t < 1000000 := by omega
  unfold F_law_draw
  rw [if_pos ⟨h1, h2, q1, q3⟩]
  have m1 : ∀ x : Int, 0 ≤ x % many ∧ x % many < many := fun x => ⟨Int.emod_nonneg _ (by omega), Int.emod_lt_of_pos _ h1⟩
  by_cases hc : g.b = 1 ∧ 0 < g.c
  · rw [if_pos hc]
    exact ⟨_, _, rfl, (m1 _).1, (m1 _).2, by show 0 ≤ g.t + 1; omega, by show g.t + 1 + (n : Int) ≤ 1000000; omega⟩
  · rw [if_neg hc]
    exact ⟨_, _, rfl, (m1 _).1, (m1 _).2, by show 0 ≤ g.t + 1; omega, by show g.t + 1 + (n : Int) ≤ 1000000; omega⟩
theorem fd0_gd (c : Int) : Gd (fd0 c) 1000000 := ⟨Int.le_refl _, by show (0 : Int) + 1000000 ≤ 1000000; omega⟩
theorem ne_pair {α : Type} {f : R (α × Fd)} {Q : α → Fd → Prop} (h : ∃ v, f = .ok v ∧ Q v.1 v.2) : ∃ a g, f.ne = .ok (a, g) ∧ Q a g := by
  obtain ⟨v, e, q⟩ := ne_ex (Q := fun v : α × Fd => Q v.1 v.2) h
  exact ⟨v.1, v.2, e, q⟩

structure goodW (n : Int) (ts : List (Int × Int)) : Prop where
  n1 : 1 ≤ n
  n10 : n ≤ 10
  tie : ∀ x ∈ ts, 0 ≤ x.1 ∧ x.1 < x.2 ∧ x.2 < n
  nd : ts.Nodup
  len : ts.length ≤ 18
  srt : ts.Pairwise fun a b => leP a b = true
def nrm (x : Int × Int) : Int × Int := (min x.1 x.2, max x.1 x.2)
def okT (n : Int) (x : Int × Int) : Prop := 0 ≤ x.1 ∧ x.1 < n ∧ 0 ≤ x.2 ∧ x.2 < n ∧ x.1 ≠ x.2
theorem ok_of {β : Type} {r : R β} {b : β} (h : ∃ x, r = .ok x ∧ x = b) : r = .ok b := by obtain ⟨x, h1, rfl⟩ := h; exact h1

section
variable {α : Type} {t : α → D}
theorem ixA_T [TPu t] (l : List α) (i : Int) : ixA (toA (yT t) l) i = (ixR l i).bind fun a => .ok (toA t a) := by
  have h0 : itsD (toA (yT t) l).1 = some (l.map t) := rfl
  unfold ixA
  split
  · rename_i ds e
    have e' : ds = l.map t := (Option.some.inj (h0.symm.trans e)).symm
    subst e'
    split
    · rename_i d e2
      rw [atI_map] at e2
      unfold ixR
      cases h : atI l i with
      | none => rw [h] at e2; cases e2
      | some a => rw [h] at e2; cases e2; rfl
    · rename_i e2
      rw [atI_map] at e2
      unfold ixR
      cases h : atI l i with
      | none => rfl
      | some a => rw [h] at e2; cases e2
  · rename_i e
    rw [h0] at e
    cases e
theorem attA_T [TPu t] : ∀ (l : List α) (h : pureL (l.map t) = true), attA (l.map t) h = l.map (toA t)
  | [], _ => rfl
  | x :: l, h => by
    show (⟨t x, _⟩ : PD) :: attA (l.map t) _ = toA t x :: l.map (toA t)
    rw [attA_T l]
    rfl
theorem itemsA_T [TPu t] (l : List α) : itemsA (toA (yT t) l) = .ok (l.map (toA t)) := by
  have h0 : itsD (toA (yT t) l).1 = some (l.map t) := rfl
  unfold itemsA
  split
  · rename_i ds e
    have e' : ds = l.map t := (Option.some.inj (h0.symm.trans e)).symm
    subst e'
    rw [attA_T]
  · rename_i e
    rw [h0] at e
    cases e
theorem lenA_T [TPu t] (l : List α) : lenA (toA (yT t) l) = .ok (l.length : Int) := by
  show R.ok (((l.map t).length : Nat) : Int) = _
  rw [List.length_map]
theorem isi_T [TPu t] (l : List α) : isiA "tuple" (toA (yT t) l) = .ok true := rfl
theorem toA_A (e : PD) : toA yA e = e := rfl
end
theorem leT2 {a b : Int × Int} : leK (kP2 kI kI) a b = true ↔ a.1 < b.1 ∨ (a.1 = b.1 ∧ a.2 ≤ b.2) := by
  unfold leK kP2 kI
  simp [lexI]
  omega
theorem pw_sort (xs : List (Int × Int)) : (xs.mergeSort (leK (kP2 kI kI))).Pairwise fun a b => leP a b = true := by
  have h : (xs.mergeSort (leK (kP2 kI kI))).Pairwise (fun a b => leK (kP2 kI kI) a b = true) := List.pairwise_mergeSort (fun a b c h1 h2 => by rw [leT2] at *; omega) (fun a b => by rw [Bool.or_eq_true, leT2, leT2]; omega) _
  exact h.imp fun q => by
    rw [leT2] at q
    unfold leP
    exact decide_eq_true q

def isIntD : D → Bool
  | .int _ => true
  | _ => false
theorem whole_R (x : PD) (h : (tyN x.1).isSome = true) : F_is_whole x = .ok (isIntD x.1) := by
  obtain ⟨d, hd⟩ := x
  cases d <;> first | rfl | cases h
def goodN : D → Bool
  | .int i => decide (1 ≤ i) && decide (i ≤ 10)
  | _ => false
theorem many_R (x : PD) (h : (tyN x.1).isSome = true) : (((F_is_whole x).bind fun b => R.ok (!b)).bind fun b => if b = true then R.ok true else ((intA x).bind fun u => R.ok (decide (u < 1))).bind fun b => if b = true then R.ok true else (intA x).bind fun u => R.ok (decide (10 < u))) = .ok (!goodN x.1) := by
  rw [whole_R x h]
  obtain ⟨d, hd⟩ := x
  cases d with
  | int i =>
    show (if decide (i < 1) = true then R.ok true else R.ok (decide (10 < i))) = R.ok (!(decide (1 ≤ i) && decide (i ≤ 10)))
    by_cases h1 : i < 1
    · rw [if_pos (decide_eq_true h1), decide_eq_false (show ¬ 1 ≤ i by omega)]; rfl
    · rw [if_neg (by rw [decide_eq_false h1]; decide), decide_eq_true (show 1 ≤ i by omega), Bool.true_and]
      by_cases h2 : 10 < i
      · rw [decide_eq_true h2, decide_eq_false (show ¬ i ≤ 10 by omega)]; rfl
      · rw [decide_eq_false h2, decide_eq_true (show i ≤ 10 by omega)]; rfl
  | _ => first | rfl | cases h
def plG (n : Int) : D → Bool
  | .int i => decide (0 ≤ i) && decide (i < n)
  | _ => false
def tieG (n : Int) : D → Bool
  | .tup [.int a, .int b] => plG n (.int a) && plG n (.int b) && !decide (a = b)
  | _ => false
def okTh (d : D) : Prop := (tyN d).isSome = true ∧ ∀ es, d = .tup es → es.length ≤ 100 ∧ ∀ e ∈ es, (tyN e).isSome = true
theorem pd_tup {es : List D} (h : pureD (.tup es) = true) : (⟨.tup es, h⟩ : PD) = toA (yT yA) (attA es h) := by
  refine Subtype.ext ?_
  exact congrArg D.tup (attA_map es h).symm
theorem eqA_I (a b : Int) : eqA (toA yI a) (toA yI b) = .ok (decide (a = b)) := by
  unfold eqA
  rw [if_pos ⟨rfl, rfl⟩]
  show R.ok (PyData.eqv (.int a) (.int b)) = _
  rw [eqv_int]
theorem step_R (n : Int) (z : PD) (h : (tyN z.1).isSome = true) : ((F_is_whole z).bind fun a => (if (!a) = true then R.ok true else (intA z).bind fun a => if decide (a < 0) = true then R.ok true else (intA z).bind fun u => R.ok (decide (n ≤ u))).bind fun b => if b = true then (R.err 0 : R (Lp Unit (Int × Int))) else R.ok (Lp.go ())) = if plG n z.1 = true then R.ok (Lp.go ()) else R.err 0 := by
  rw [whole_R z h]
  obtain ⟨d, hd⟩ := z
  cases d with
  | int i =>
    show ((if decide (i < 0) = true then R.ok true else R.ok (decide (n ≤ i))).bind fun b => if b = true then (R.err 0 : R (Lp Unit (Int × Int))) else R.ok (Lp.go ())) = if (decide (0 ≤ i) && decide (i < n)) = true then R.ok (Lp.go ()) else R.err 0
    by_cases h1 : i < 0
    · rw [if_pos (decide_eq_true h1), decide_eq_false (show ¬ 0 ≤ i by omega)]; rfl
    · rw [if_neg (by rw [decide_eq_false h1]; decide), decide_eq_true (show 0 ≤ i by omega), Bool.true_and]
      by_cases h2 : n ≤ i
      · rw [decide_eq_true h2, decide_eq_false (show ¬ i < n by omega)]; rfl
      · rw [decide_eq_false h2, decide_eq_true (show i < n by omega)]; rfl
  | _ => first | rfl | cases h
theorem tie_two {n : Int} {x y : PD} (hx : (tyN x.1).isSome = true) (hy : (tyN y.1).isSome = true) : F_tie_of (toA (yT yA) [x, y]) n = if plG n x.1 = true ∧ plG n y.1 = true then ((eqA x y).bind fun b => if b = true then .err 0 else ((intsA (toA (yT yA) [x, y])).bind fun l => minR l).bind fun u => ((intsA (toA (yT yA) [x, y])).bind fun l => maxR l).bind fun v => .ok (u, v)) else .err 0 := by
  unfold F_tie_of
  have e0 : ixR [x, y] 0 = .ok x := ixR_of (by decide) rfl
  have e1 : ixR [x, y] 1 = .ok y := ixR_of (by decide) rfl
  have e2 : (([x, y] : List PD).length : Int) = 2 := rfl
  simp only [R.assoc, R.okb, isi_T, lenA_T, itemsA_T, ixA_T, Bool.not_true, e0, e1, e2, toA_A, decide_true, List.map_cons, List.map_nil]
  rw [if_neg (by decide), R.okb, if_neg (by decide)]
  unfold forL
  rw [step_R n x hx]
  cases h1 : plG n x.1 with
  | false => rw [if_neg (by decide), if_neg (fun z => by cases z.1)]; rfl
  | true =>
    rw [if_pos rfl, R.okb]
    dsimp only
    unfold forL
    rw [step_R n y hy]
    cases h2 : plG n y.1 with
    | false => rw [if_neg (by decide), if_neg (fun z => by cases z.2)]; rfl
    | true => rw [if_pos rfl, if_pos ⟨rfl, rfl⟩]; rfl
theorem tie_bad {n : Int} {x : PD} (hx : okTh x.1) (h : tieG n x.1 = false) : F_tie_of x n = .err 0 := by
  obtain ⟨d, hd⟩ := x
  obtain ⟨h1, h2⟩ := hx
  cases d with
  | tup es =>
    obtain ⟨hl, he⟩ := h2 es rfl
    have hmap := attA_map es hd
    rw [pd_tup hd]
    obtain ⟨l, el⟩ : ∃ l : List PD, l = attA es hd := ⟨_, rfl⟩
    rw [← el] at hmap ⊢
    have hw : ∀ e ∈ l, (tyN e.1).isSome = true := fun e h => he _ (by rw [← hmap]; exact List.mem_map.mpr ⟨e, h, rfl⟩)
    by_cases h3 : (l.length : Int) = 2
    · match l, h3 with
      | [a, b], _ =>
        rw [tie_two (hw a (by simp)) (hw b (by simp))]
        by_cases hp : plG n a.1 = true ∧ plG n b.1 = true
        case neg => exact if_neg hp
        rw [if_pos hp]
        obtain ⟨pa, pb⟩ := hp
        obtain ⟨da, ha⟩ := a
        obtain ⟨db, hb⟩ := b
        cases da with
        | int i =>
          cases db with
          | int j =>
            have hij : i = j := by
              have h : tieG n (.tup es) = false := h
              rw [← hmap] at h
              have h : (plG n (.int i) && plG n (.int j) && !decide (i = j)) = false := h
              rw [show plG n (.int i) = true from pa, show plG n (.int j) = true from pb] at h
              simpa using h
            rw [show (⟨.int i, ha⟩ : PD) = toA yI i from rfl, show (⟨.int j, hb⟩ : PD) = toA yI j from rfl, eqA_I, decide_eq_true hij]
            rfl
          | _ => cases pb
        | _ => cases pa
    · unfold F_tie_of
      simp only [R.assoc, R.okb, isi_T, lenA_T, Bool.not_true]
      rw [if_neg (by decide), R.okb, decide_eq_false h3]
      rfl
  | _ => first | rfl | cases h1
theorem tie_good {n : Int} {x : Int × Int} (h : okT n x) : F_tie_of (toA (yP2 yI yI) x) n = .ok (nrm x) := by
  obtain ⟨a, b⟩ := x
  obtain ⟨h1, h2, h3, h4, h5⟩ := h
  dsimp only at h1 h2 h3 h4 h5
  rw [show toA (yP2 yI yI) (a, b) = toA (yT yA) [toA yI a, toA yI b] from rfl, tie_two rfl rfl]
  rw [if_pos ⟨by show (decide (0 ≤ a) && decide (a < n)) = true; rw [decide_eq_true h1, decide_eq_true h2]; rfl, by show (decide (0 ≤ b) && decide (b < n)) = true; rw [decide_eq_true h3, decide_eq_true h4]; rfl⟩]
  rw [eqA_I, decide_eq_false h5, R.okb, if_neg (by decide)]
  rw [show toA (yT yA) [toA yI a, toA yI b] = toA (yT yI) [a, b] from rfl, intsA_to]
  simp only [R.okb]
  unfold minR maxR
  rfl
theorem okTh_tie (x : Int × Int) : okTh ((toA (yP2 yI yI) x).1) := ⟨rfl, fun es e => by
  cases e
  refine ⟨by show 2 ≤ 100; decide, fun d hd => ?_⟩
  simp only [List.mem_cons, List.not_mem_nil, or_false] at hd
  rcases hd with rfl | rfl <;> rfl⟩
theorem okTh_of {es : List D} (h1 : es.length ≤ 100) (h2 : ∀ e ∈ es, (tyN e).isSome = true) : okTh (.tup es) := ⟨rfl, fun es' e => by cases e; exact ⟨h1, h2⟩⟩
theorem okTh_non {d : D} (h1 : (tyN d).isSome = true) (h2 : ∀ es, d ≠ .tup es) : okTh d := ⟨h1, fun es e => absurd e (h2 es)⟩
section
variable {α β : Type}
theorem compRX_err {fe : α → R β} : ∀ {l : List α}, (∀ x ∈ l, (∃ y, fe x = .ok y) ∨ fe x = .err 0) → (∃ x ∈ l, fe x = .err 0) → compRX fe l = .err 0
  | [], _, ⟨x, hx, _⟩ => (nomatch hx)
  | a :: l, h, hb => by
    unfold compRX
    rcases h a List.mem_cons_self with ⟨y, e⟩ | e
    · rw [bd e]
      obtain ⟨x, hx, ex⟩ := hb
      rcases List.mem_cons.mp hx with rfl | hx
      · rw [e] at ex; cases ex
      · rw [compRX_err (fun x hx => h x (List.mem_cons_of_mem _ hx)) ⟨x, hx, ex⟩]
        rfl
    · rw [e]; rfl
end
theorem web_n {p s : PD} (h1 : (tyN p.1).isSome = true) (h : goodN p.1 = false) : F_web p s = .err 0 := by
  unfold F_web
  rw [many_R p h1, h]
  rfl
theorem goodN_I {n : Int} (h1 : 1 ≤ n) (h10 : n ≤ 10) : goodN (toA yI n).1 = true := by
  show (decide (1 ≤ n) && decide (n ≤ 10)) = true
  rw [decide_eq_true h1, decide_eq_true h10]; rfl
section
variable {n : Int} (h1 : 1 ≤ n) (h10 : n ≤ 10)
include h1 h10
theorem web_s {s : PD} (h : isiA "tuple" s = .ok false) : F_web (toA yI n) s = .err 0 := by
  unfold F_web
  rw [many_R (toA yI n) rfl, goodN_I h1 h10, h]
  rfl
theorem web_T (l : List PD) : F_web (toA yI n) (toA (yT yA) l) = (compBX (fun x => F_tie_of x n) l).bind fun l => (sSR ((yL (yP2 yI yI)) l)).bind fun ts => if decide ((18 : Int) < (ts.length : Int)) = true then .err 0 else .ok (n, ts) := by
  unfold F_web
  rw [many_R (toA yI n) rfl, goodN_I h1 h10]
  simp only [R.okb, Bool.not_true, isi_T, itemsA_T]
  have ei : intA (toA yI n) = .ok n := rfl
  rw [if_neg (by decide), if_neg (by decide), List.map_congr_left (g := id) (fun e _ => toA_A e), List.map_id, ei]
  simp only [R.okb, R.assoc]
theorem web_bad {l : List PD} (hl : l.length ≤ 1000) (hk : ∀ e ∈ l, okTh e.1) (hg : ∀ e ∈ l, tieG n e.1 = true → ∃ x, okT n x ∧ e = toA (yP2 yI yI) x) (hb : ∃ e ∈ l, tieG n e.1 = false) : F_web (toA yI n) (toA (yT yA) l) = .err 0 := by
  rw [web_T h1 h10]
  unfold compBX
  rw [if_pos (show l.length ≤ big by show l.length ≤ 1000000; omega), compRX_err]
  · rfl
  · intro e he
    cases ht : tieG n e.1 with
    | false => exact .inr (tie_bad (hk e he) ht)
    | true =>
      obtain ⟨x, ox, rfl⟩ := hg e he ht
      exact .inl ⟨_, tie_good ox⟩
  · obtain ⟨e, he, ht⟩ := hb
    exact ⟨e, he, tie_bad (hk e he) ht⟩
theorem web_good {ts : List (Int × Int)} (hl : ts.length < 64) (hk : ∀ x ∈ ts, okT n x) : F_web (toA yI n) (toA (yT yA) (ts.map (toA (yP2 yI yI)))) = if (sortU (ts.map nrm)).length ≤ 18 then .ok (n, sortU (ts.map nrm)) else .err 0 := by
  rw [web_T h1 h10]
  unfold compBX
  have e : compRX (fun x => F_tie_of x n) (ts.map (toA (yP2 yI yI))) = .ok (ts.map nrm) := by
    have : ∀ l : List (Int × Int), (∀ x ∈ l, okT n x) → compRX (fun x => F_tie_of x n) (l.map (toA (yP2 yI yI))) = .ok (l.map nrm) := by
      intro l
      induction l with
      | nil => intro _; rfl
      | cons x l ih =>
        intro h
        rw [List.map_cons]
        unfold compRX
        rw [bd (tie_good (h x List.mem_cons_self)), ih fun y hy => h y (List.mem_cons_of_mem _ hy)]
        rfl
    exact this ts hk
  rw [if_pos (show (ts.map (toA (yP2 yI yI))).length ≤ big by show _ ≤ 1000000; rw [List.length_map]; omega), bd e]
  have hs : sSR ((yL (yP2 yI yI)) (ts.map nrm)) = .ok (sortU (ts.map nrm)) := by
    refine sSR_of (ds := (ts.map nrm).map pD) rfl (prs_of _) (by rw [List.length_map]; omega) (List.all_eq_true.mpr fun x hx => ?_)
    obtain ⟨y, hy, rfl⟩ := List.mem_map.mp hx
    obtain ⟨q1, q2, q3, q4, q5⟩ := hk y hy
    unfold inB nrm
    exact decide_eq_true (by dsimp only; omega)
  rw [bd hs]
  by_cases h : (sortU (ts.map nrm)).length ≤ 18
  · rw [if_pos h, decide_eq_false (by omega)]; rfl
  · rw [if_neg h, decide_eq_true (by omega)]; rfl
end
theorem told_err {p s : PD} (h : F_web p s = .err 0) : F_law_told p s = .ok (toA (yP2 yS yB) ("refused", true)) := by
  unfold F_law_told
  simp only [R.okb]
  rw [h]
  have e1 : isQ isx ((yX cn) 0) (.tup [.cl "NoDrawing", .cl "NoLens", .cl "NoOrder", .cl "NoPoints", .cl "NoRoute", .cl "NoText", .cl "NoTie", .cl "TooMany"]) = some false := by decide +kernel
  have e2 : isQ isx ((yX cn) 0) (.cl "NoWeb") = some true := by decide +kernel
  have e3 : isQ isx ((yX cn) 0) (.ty "ValueError") = some true := by decide +kernel
  have e4 : ct_CrossError 0 = some true := by decide +kernel
  show R.bind (tryR ct_CrossError (.err 0) _ _) _ = _
  unfold tryR
  dsimp only
  rw [e4]
  dsimp only
  rw [e1, e2, e3]
  rfl
theorem told_ok {p s : PD} {w : Int × List (Int × Int)} (h : F_web p s = .ok w) : F_law_told p s = .ok (toA (yP2 yI (yT (yP2 yI yI))) w) := by
  unfold F_law_told
  simp only [R.okb]
  rw [h]
  rfl
theorem ne_same {α : Type} {t : α → D} {n : Nat} [TPu t] [TSh t n] [TEq t] (hn : n ≤ dpt) (a : α) : neA (toA t a) (toA t a) = .ok false := by
  unfold neA eqA
  rw [if_pos ⟨TSh.sh (t := t) _ a hn, TSh.sh (t := t) _ a hn⟩]
  have : PyData.eqv (py (t a)) (py (t a)) = true := (TEq.eqv (t := t) a a).mpr rfl
  show R.ok (!PyData.eqv (py (t a)) (py (t a))) = _
  rw [this]
  rfl
theorem ne_refused : neA (toA (yP2 yS yB) ("refused", true)) (toA (yP2 yS yB) ("refused", true)) = .ok false := by
  unfold neA eqA
  rw [if_pos ⟨by decide +kernel, by decide +kernel⟩]
  have : PyData.eqv (py (toA (yP2 yS yB) ("refused", true)).1) (py (toA (yP2 yS yB) ("refused", true)).1) = true := by
    show PyData.eqv (.tuple [.str "refused", .bool true]) (.tuple [.str "refused", .bool true]) = true
    simp [PyData.eqv, PyData.eqvAll]
  rw [this]
  rfl
theorem ne_web (w : Int × List (Int × Int)) : neA (toA (yP2 yI (yT (yP2 yI yI))) w) (toA (yO (yP2 yI (yT (yP2 yI yI)))) (some w)) = .ok false := ne_same (t := yP2 yI (yT (yP2 yI yI))) (by decide) w
theorem whole_ok (w : Int × List (Int × Int)) (hl : w.2.length ≤ 1000) : F_law_whole (toA (yP2 yI (yT (yP2 yI yI))) w) = .ok true := by
  obtain ⟨n, ts⟩ := w
  have e0 : ixA (toA (yP2 yI (yT (yP2 yI yI))) (n, ts)) 0 = .ok (toA yI n) := rfl
  have e1 : ixA (toA (yP2 yI (yT (yP2 yI yI))) (n, ts)) 1 = .ok (toA (yT (yP2 yI yI)) ts) := rfl
  have e2 : isiA "tuple" (toA (yP2 yI (yT (yP2 yI yI))) (n, ts)) = .ok true := rfl
  have e3 : isiA "bool" (toA yI n) = .ok false := rfl
  unfold F_law_whole
  rw [e0, e1, e2]
  simp only [R.okb, R.assoc, isi_T, itemsA_T, Bool.not_true, e3]
  rw [if_neg (by decide), R.okb, if_neg (by decide)]
  rw [bd (forL_same _ fun e he => ?_)]
  · rfl
  · obtain ⟨x, _, rfl⟩ := List.mem_map.mp he
    obtain ⟨a, b⟩ := x
    have i1 : isiA "tuple" (toA (yP2 yI yI) (a, b)) = .ok true := rfl
    have i2 : itemsA (toA (yP2 yI yI) (a, b)) = .ok [toA yI a, toA yI b] := rfl
    rw [i1, i2]
    simp only [R.okb, Bool.not_true]
    rw [if_neg (by decide), compB_all (fun _ => false) (by show 2 ≤ 1000000; decide) (fun e he => by
      simp only [List.mem_cons, List.not_mem_nil, or_false] at he
      rcases he with rfl | rfl <;> rfl)]
    rfl

theorem mod_ne {n a r : Int} (hn : 2 ≤ n) (ha : 0 ≤ a ∧ a < n) (hr : 0 ≤ r ∧ r < n - 1) : 0 ≤ (a + 1 + r) % n ∧ (a + 1 + r) % n < n ∧ a ≠ (a + 1 + r) % n := by
  have h0 := Int.emod_nonneg (a + 1 + r) (show n ≠ 0 by omega)
  have h1 := Int.emod_lt_of_pos (a + 1 + r) (show 0 < n by omega)
  refine ⟨h0, h1, fun e => ?_⟩
  by_cases c : a + 1 + r < n
  · rw [Int.emod_eq_of_lt (by omega) c] at e
    omega
  · have e2 : (a + 1 + r) % n = a + 1 + r - n := by
      rw [← Int.sub_emod_right, Int.emod_eq_of_lt (by omega) (by omega)]
    omega
theorem ties_R {g : Fd} {m : Nat} {n : Int} (n1 : 1 ≤ n) (n10 : n ≤ 10) (h : Gd g (m + 70)) : ∃ l g', F_law_ties g n = .ok (l, g') ∧ (∃ ts : List (Int × Int), l = ts.map (toA (yP2 yI yI)) ∧ ts.length ≤ 30 ∧ ∀ x ∈ ts, okT n x) ∧ Gd g' m := by
  obtain ⟨r1, g1, e1, a1, b1, h1⟩ := draw_R (n := m + 69) (many := 31) h (by decide) (by decide)
  unfold F_law_ties
  refine ne_pair (Q := fun (l : List PD) g' => (∃ ts : List (Int × Int), l = ts.map (toA (yP2 yI yI)) ∧ ts.length ≤ 30 ∧ ∀ x ∈ ts, okT n x) ∧ Gd g' m) ?_
  simp only [R.assoc, R.okb]
  rw [bd e1]
  dsimp only
  obtain ⟨k, hk, hk0, hk30, hk1⟩ : ∃ k : Int, r1 * (if decide ((1 : Int) < n) = true then (1 : Int) else 0) = k ∧ 0 ≤ k ∧ k ≤ 30 ∧ (n = 1 → k = 0) := by
    refine ⟨_, rfl, ?_⟩
    by_cases c : (1 : Int) < n
    · rw [decide_eq_true c, if_pos rfl]; omega
    · rw [decide_eq_false c, if_neg (by decide)]; omega
  rw [bd (mulR_ok (by split <;> decide) (by split <;> decide)), hk, bd (rng1R_ok (by omega) (by omega))]
  refine for_ex (fun pre s => Gd s.1 (m + 2 * (30 - pre.length)) ∧ ∃ ts : List (Int × Int), s.2 = ts.map (toA (yP2 yI yI)) ∧ ts.length = pre.length ∧ ∀ x ∈ ts, okT n x) ⟨h1.mono (by simp), [], rfl, rfl, fun x hx => (nomatch hx)⟩ ?_ ?_
  · rintro pre x post hp ⟨g, l⟩ ⟨q1, ts, q2, q3, q4⟩
    dsimp only at q1 q2 ⊢
    have hlt : pre.length < 30 ∧ 2 ≤ n := by
      have := congrArg List.length hp
      rw [rng1_len, List.length_append, List.length_cons] at this
      by_cases c : n = 1
      · have := hk1 c; omega
      · omega
    obtain ⟨one, g2, e2, a2, b2, h2⟩ := draw_R (n := m + 2 * (30 - pre.length) - 1) (g := g) (many := n) (q1.mono (by omega)) (by omega) (by omega)
    obtain ⟨r, g3, e3, a3, b3, h3⟩ := draw_R (n := m + 2 * (30 - pre.length) - 2) (g := g2) (many := n - 1) (h2.mono (by omega)) (by omega) (by omega)
    obtain ⟨o0, o1, one_ne⟩ := mod_ne hlt.2 ⟨a2, b2⟩ ⟨a3, b3⟩
    rw [bd e2]
    dsimp only
    rw [bd e3]
    dsimp only
    rw [bd (modR_ok (by omega)), bd (appR_ok (by rw [q2, List.length_map]; omega))]
    refine ⟨_, rfl, h3.mono (by rw [List.length_append, List.length_singleton]; omega), ts ++ [(one, (one + 1 + r) % n)], ?_, by rw [List.length_append, List.length_append, q3]; rfl, fun x hx => ?_⟩
    · rw [q2, List.map_append]; rfl
    · rcases List.mem_append.mp hx with hx | hx
      · exact q4 x hx
      · rw [List.mem_singleton.mp hx]
        exact ⟨a2, b2, o0, o1, one_ne⟩
  · rintro ⟨g', l⟩ ⟨q1, ts, q2, q3, q4⟩
    rw [rng1_len] at q3
    exact ⟨_, rfl, ⟨ts, q2, by omega, q4⟩, q1.mono (by omega)⟩
theorem due_R {n : Int} {ts : List (Int × Int)} (hl : ts.length ≤ 30) : F_law_due n ts = .ok (if (sortU (ts.map nrm)).length ≤ 18 then some (n, sortU (ts.map nrm)) else none) := by
  unfold F_law_due
  simp only [R.assoc, R.okb]
  refine ok_of ?_
  refine for_ex (fun pre s => s.Nodup ∧ s.length ≤ pre.length ∧ ∀ x, x ∈ s ↔ x ∈ pre.map nrm) ⟨List.nodup_nil, Nat.le_refl _, fun x => Iff.rfl⟩ ?_ ?_
  · rintro pre x post hp s ⟨q1, q2, q3⟩
    have hlt : pre.length < 30 := by
      have := congrArg List.length hp
      rw [List.length_append, List.length_cons] at this
      omega
    have en : ((minI x.1 x.2, maxI x.1 x.2) : Int × Int) = nrm x := by
      unfold nrm minI maxI
      by_cases c : x.2 < x.1
      · rw [if_pos c, if_neg (show ¬ x.2 > x.1 by omega), Int.min_def, Int.max_def, if_neg (by omega), if_neg (by omega)]
      · by_cases c2 : x.1 = x.2
        · rw [if_neg c, if_neg (by omega), Int.min_def, Int.max_def, if_pos (by omega), if_pos (by omega), c2]
        · rw [if_neg c, if_pos (show x.2 > x.1 by omega), Int.min_def, Int.max_def, if_pos (by omega), if_pos (by omega)]
    rw [en]
    by_cases hm : nrm x ∈ s
    · rw [show memB (nrm x) s = true from by unfold memB; exact @decide_eq_true _ (_) hm]
      refine ⟨s, rfl, q1, by rw [List.length_append]; omega, fun y => ?_⟩
      rw [q3, List.map_append, List.mem_append]
      refine ⟨.inl, fun z => z.elim id fun z => ?_⟩
      rw [List.mem_singleton.mp z]
      exact (q3 _).mp hm
    · rw [show memB (nrm x) s = false from by unfold memB; rw [decide_eq_false_iff_not]; exact hm]
      simp only [Bool.not_false, if_true]
      rw [bd (appR_ok (by omega))]
      refine ⟨_, rfl, ?_, by rw [List.length_append, List.length_append]; simp; exact q2, fun y => ?_⟩
      · exact List.nodup_append.mpr ⟨q1, List.nodup_cons.mpr ⟨List.not_mem_nil, List.nodup_nil⟩, fun a ha b hb e => hm (by rw [List.mem_singleton.mp hb] at e; rw [← e]; exact ha)⟩
      · rw [List.mem_append, List.map_append, List.mem_append, q3]
        rfl
  · rintro s ⟨q1, q2, q3⟩
    have hlen : (sortU (ts.map nrm)).length = s.length := by
      refine List.Perm.length_eq ((List.perm_ext_iff_of_nodup (sortU_nodup _) q1).mpr fun x => ?_)
      rw [mem_sortU, q3]
    have hs : s.mergeSort (leK (kP2 kI kI)) = sortU (ts.map nrm) := by
      refine (sorted_one (sortU_nodup _) ((List.mergeSort_perm _ _).nodup_iff.mpr q1) (fun x => ?_) (sortU_pw _) (pw_sort _)).symm
      rw [mem_sortU, (List.mergeSort_perm _ _).mem_iff, q3]
    by_cases h18 : (18 : Int) < (s.length : Int)
    · rw [decide_eq_true h18, if_pos rfl, if_neg (by omega)]
      exact ⟨_, rfl, rfl⟩
    · rw [decide_eq_false h18, if_neg (by decide), if_pos (by omega), bd (sortR_ok (by omega)), hs]
      exact ⟨_, rfl, rfl⟩
theorem ix_P {α : Type _} {l : List α} {r : Int} {P : α → Prop} (h0 : 0 ≤ r) (h : r.toNat < l.length) (ha : ∀ e ∈ l, P e) : ∃ e, ixR l r = .ok e ∧ P e := ⟨_, ixR_nat h0 h, ha _ (List.getElem_mem h)⟩
def badT (n : Int) (e : PD) : Prop := okTh e.1 ∧ tieG n e.1 = false
theorem badT_2 {n : Int} {a b : D} {e : PD} (he : e.1 = .tup [a, b]) (ha : (tyN a).isSome = true) (hb : (tyN b).isSome = true) (h : tieG n (.tup [a, b]) = false) : badT n e := by
  unfold badT
  rw [he]
  refine ⟨okTh_of (by show 2 ≤ 100; decide) fun d hd => ?_, h⟩
  simp only [List.mem_cons, List.not_mem_nil, or_false] at hd
  rcases hd with rfl | rfl
  · exact ha
  · exact hb
theorem tie_f {n a b : Int} (h : a < 0 ∨ n ≤ a ∨ b < 0 ∨ n ≤ b ∨ a = b) : tieG n (.tup [.int a, .int b]) = false := by
  show ((decide (0 ≤ a) && decide (a < n)) && (decide (0 ≤ b) && decide (b < n)) && !decide (a = b)) = false
  rw [← Bool.decide_and, ← Bool.decide_and, ← Bool.decide_and, ← decide_not, ← Bool.decide_and]
  exact decide_eq_false (by omega)
theorem pow59 : powR 10 59 = .ok 100000000000000000000000000000000000000000000000000000000000 := by unfold powR; rfl
theorem odd_R {g : Fd} {m : Nat} {n : Int} (n1 : 1 ≤ n) (n10 : n ≤ 10) (h : Gd g (m + 2)) : ∃ e g', F_law_odd_tie g n = .ok (e, g') ∧ badT n e ∧ Gd g' m := by
  obtain ⟨a, g1, e1, a0, a1, h1⟩ := draw_R (n := m + 1) (many := n) h (by omega) (by omega)
  obtain ⟨r, g2, e2, r0, r1, h2⟩ := draw_R (n := m) (g := g1) (many := 20) h1 (by decide) (by decide)
  unfold F_law_odd_tie
  refine ne_pair (Q := fun (e : PD) g' => badT n e ∧ Gd g' m) ?_
  simp only [R.assoc, R.okb, pow59]
  rw [bd e1]
  simp only [R.okb]
  rw [bd (catR_ok (by show 10 + 10 ≤ 1000000; decide))]
  rw [bd e2]
  have two : ∀ (x : PD) (u v : D), x.1 = .tup [u, v] → (tyN u).isSome = true → (tyN v).isSome = true → tieG n (.tup [u, v]) = false → badT n x := fun x u v => badT_2
  obtain ⟨x, ex, bx⟩ := ix_P (P := badT n) (l := [toA (yP2 yI yI) (a, a), toA (yP2 yI yI) (a, n), toA (yP2 yI yI) (n, a), toA (yP2 yI yI) (-1, a), toA (yP2 yI yI) (a, -1), toA (yP2 yI yI) (a, 100000000000000000000000000000000000000000000000000000000000), toA (yP2 yI yI) (-100000000000000000000000000000000000000000000000000000000000, a), toA (yP2 yI yB) (a, true), toA (yP2 yB yI) (false, a), toA (yP2 yI yS) (a, ("1" : Str))] ++ [toA (yP1 yI) a, toA (yP3 yI yI yI) (a, n - 1 - a, a), toA yP0 (), toA yN (), toA yI a, toA yS ("01" : Str), toA yB true, toA (yP2 (yP2 yI yI) yI) ((a, a), a), toA (yP2 yN yI) ((), a), toA (yP2 yI (yP1 yI)) (a, a)]) (r := r) r0 (by show r.toNat < 20; omega) (by
    intro e he
    simp only [List.mem_append, List.mem_cons, List.not_mem_nil, or_false] at he
    rcases he with (rfl | rfl | rfl | rfl | rfl | rfl | rfl | rfl | rfl | rfl) | (rfl | rfl | rfl | rfl | rfl | rfl | rfl | rfl | rfl | rfl)
    · exact two _ _ _ rfl rfl rfl (tie_f (by omega))
    · exact two _ _ _ rfl rfl rfl (tie_f (by omega))
    · exact two _ _ _ rfl rfl rfl (tie_f (by omega))
    · exact two _ _ _ rfl rfl rfl (tie_f (by omega))
    · exact two _ _ _ rfl rfl rfl (tie_f (by omega))
    · exact two _ _ _ rfl rfl rfl (tie_f (by omega))
    · exact two _ _ _ rfl rfl rfl (tie_f (by omega))
    · exact two _ _ _ rfl rfl rfl rfl
    · exact two _ _ _ rfl rfl rfl rfl
    · exact two _ _ _ rfl rfl rfl rfl
    · exact ⟨okTh_of (es := [.int a]) (by show 1 ≤ 100; decide) (fun d hd => by rw [List.mem_singleton.mp hd]; rfl), rfl⟩
    · exact ⟨okTh_of (es := [.int a, .int (n - 1 - a), .int a]) (by show 3 ≤ 100; decide) (fun d hd => by simp only [List.mem_cons, List.not_mem_nil, or_false] at hd; rcases hd with rfl | rfl | rfl <;> rfl), rfl⟩
    · exact ⟨okTh_of (es := []) (by decide) (fun d hd => nomatch hd), rfl⟩
    · exact ⟨okTh_non rfl (fun es z => (nomatch z)), rfl⟩
    · exact ⟨okTh_non rfl (fun es z => (nomatch z)), rfl⟩
    · exact ⟨okTh_non rfl (fun es z => (nomatch z)), rfl⟩
    · exact ⟨okTh_non rfl (fun es z => (nomatch z)), rfl⟩
    · exact two _ _ _ rfl rfl rfl rfl
    · exact two _ _ _ rfl rfl rfl rfl
    · exact two _ _ _ rfl rfl rfl rfl)
  exact ⟨(x, g2), by dsimp only; rw [bd ex], bx, h2⟩

theorem F_true (ns : List Int) : F_law ns = .ok true := by
  unfold F_law
  simp only [R.okb, pow59]
  rw [bd (forL_same _ fun c _ => ?_)]
  · rfl
  · obtain ⟨r1, g1, e1, a1, b1, h1⟩ := draw_R (n := 999000) (many := 10) ((fd0_gd c).mono (by decide)) (by decide) (by decide)
    obtain ⟨l, g2, e2, ⟨ts, rfl, hl, hts⟩, h2⟩ := ties_R (m := 998000) (n := 1 + r1) (by omega) (by omega) (h1.mono (by decide))
    obtain ⟨w, g3, e3, w0, w6, h3⟩ := draw_R (n := 997000) (many := 6) (h2.mono (by decide)) (by decide) (by decide)
    have n1 : 1 ≤ 1 + r1 := by omega
    have n10 : 1 + r1 ≤ 10 := by omega
    simp only [R.assoc, R.okb]
    rw [bd e1]
    dsimp only
    rw [bd e2]
    dsimp only
    rw [pairsA_to, R.okb, bd (due_R hl), bd e3]
    dsimp only
    obtain ⟨N, eN⟩ : ∃ N, 1 + r1 = N := ⟨_, rfl⟩
    rw [eN] at n1 n10 hts ⊢
    -- the end: two times the same
    have fin : ∀ (p s : PD) (due : Option (Int × List (Int × Int))), (due = none ∧ F_web p s = .err 0) ∨ (∃ v, due = some v ∧ F_web p s = .ok v ∧ v.2.length ≤ 1000) → (forL (fun (_ : Unit) (_ : Int) => (F_law_told p s).bind fun t => (if due.isNone = true then neA t (toA (yP2 yS yB) (("refused" : Str), true)) else .ok false).bind fun b => if b = true then (.ok (.out false)) else (if due.isSome = true then ((neA t (toA (yO (yP2 yI (yT (yP2 yI yI)))) due)).bind fun b => if b = true then .ok true else ((F_law_whole t).bind fun b => .ok (!b))) else .ok false).bind fun b => if b = true then (.ok (.out false)) else (.ok (.go ()))) (rng1 2) ()) = (R.ok (.go ()) : R (Lp Unit Bool)) := by
      rintro p s due h
      refine forL_same _ fun _ _ => ?_
      rcases h with ⟨rfl, h⟩ | ⟨v, rfl, h, hv⟩
      · rw [bd (told_err h)]
        simp only [Option.isNone_none, Option.isSome_none, if_true]
        rw [bd ne_refused]
        rfl
      · rw [bd (told_ok h)]
        simp only [Option.isNone_some, Option.isSome_some, if_true]
        rw [if_neg (by decide), R.okb, if_neg (by decide), bd (ne_web v), if_neg (by decide), bd (whole_ok v hv)]
        rfl
    by_cases c0 : w = 0
    · obtain ⟨r, g4, e4, r0, r1', h4⟩ := draw_R (n := 996000) (g := g3) (many := (((ts.map (toA (yP2 yI yI))).length : Nat) : Int) + 1) (h3.mono (by decide)) (by omega) (by rw [List.length_map]; omega)
      obtain ⟨e, g5, e5, be, h5⟩ := odd_R (m := 995000) (n := N) n1 n10 (h4.mono (by decide))
      rw [decide_eq_true c0, if_pos rfl, bd e4]
      dsimp only
      rw [bd e5, bd (insR_ok (by rw [List.length_map]; omega) r0 (by rw [List.length_map] at r1'; omega))]
      simp only [R.okb]
      rw [decide_eq_false (by omega), if_neg (by decide), R.okb, decide_eq_false (by omega), if_neg (by decide), R.okb]
      rw [bd (fin _ _ none (.inl ⟨rfl, ?_⟩))]
      · rfl
      · refine web_bad n1 n10 (by simp only [List.length_append, List.length_take, List.length_drop, List.length_map, List.length_singleton]; omega) (fun x hx => ?_) (fun x hx ht => ?_) ⟨e, by simp, be.2⟩
        · rcases List.mem_append.mp hx with hx | hx
          · rcases List.mem_append.mp hx with hx | hx
            · obtain ⟨y, _, rfl⟩ := List.mem_map.mp (List.mem_of_mem_take hx)
              exact okTh_tie y
            · rw [List.mem_singleton.mp hx]; exact be.1
          · obtain ⟨y, _, rfl⟩ := List.mem_map.mp (List.mem_of_mem_drop hx)
            exact okTh_tie y
        · rcases List.mem_append.mp hx with hx | hx
          · rcases List.mem_append.mp hx with hx | hx
            · obtain ⟨y, hy, rfl⟩ := List.mem_map.mp (List.mem_of_mem_take hx)
              exact ⟨y, hts y hy, rfl⟩
            · rw [List.mem_singleton.mp hx, be.2] at ht; cases ht
          · obtain ⟨y, hy, rfl⟩ := List.mem_map.mp (List.mem_of_mem_drop hx)
            exact ⟨y, hts y hy, rfl⟩
    rw [decide_eq_false c0, if_neg (by decide)]
    simp only [R.okb]
    by_cases c1 : w = 1
    · obtain ⟨r, g4, e4, r0, r1', h4⟩ := draw_R (n := 996000) (g := g3) (many := 9) (h3.mono (by decide)) (by decide) (by decide)
      rw [decide_eq_true c1, if_pos rfl, bd e4]
      dsimp only
      obtain ⟨x, ex, bx⟩ := ix_P (P := fun x : PD => (tyN x.1).isSome = true ∧ goodN x.1 = false) (l := [toA yI 0, toA yI 11, toA yI (-1), toA yI 100000000000000000000000000000000000000000000000000000000000, toA yB true, toA yN (), toA yS ("3" : Str), toA (yP1 yI) N, toA yI (-100000000000000000000000000000000000000000000000000000000000)]) (r := r) r0 (by show r.toNat < 9; omega) (by
        intro e he
        simp only [List.mem_cons, List.not_mem_nil, or_false] at he
        rcases he with rfl | rfl | rfl | rfl | rfl | rfl | rfl | rfl | rfl <;> exact ⟨rfl, rfl⟩)
      rw [bd ex]
      rw [decide_eq_false (by omega), R.okb, if_neg (by decide), R.okb]
      rw [bd (fin _ _ none (.inl ⟨rfl, web_n bx.1 bx.2⟩))]
      rfl
    rw [decide_eq_false c1, if_neg (by decide)]
    simp only [R.okb]
    by_cases c2 : w = 2
    · obtain ⟨r, g4, e4, r0, r1', h4⟩ := draw_R (n := 996000) (g := g3) (many := 5) (h3.mono (by decide)) (by decide) (by decide)
      rw [decide_eq_true c2, if_pos rfl, bd e4]
      dsimp only
      obtain ⟨x, ex, bx⟩ := ix_P (P := fun x : PD => isiA "tuple" x = .ok false) (l := [toA yN (), toA yI 5, toA yS ("" : Str), toA yB true, toA yS ("01" : Str)]) (r := r) r0 (by show r.toNat < 5; omega) (by
        intro e he
        simp only [List.mem_cons, List.not_mem_nil, or_false] at he
        rcases he with rfl | rfl | rfl | rfl | rfl <;> rfl)
      rw [bd ex, R.okb]
      rw [bd (fin _ _ none (.inl ⟨rfl, web_s n1 n10 bx⟩))]
      rfl
    rw [decide_eq_false c2, if_neg (by decide)]
    simp only [R.okb]
    have hw := web_good n1 n10 (ts := ts) (by omega) hts
    rw [bd (fin _ _ _ ?_)]
    · rfl
    · by_cases h18 : (sortU (ts.map nrm)).length ≤ 18
      · rw [if_pos h18] at hw ⊢
        exact .inr ⟨_, rfl, hw, by show (sortU (ts.map nrm)).length ≤ 1000; omega⟩
      · rw [if_neg h18] at hw ⊢
        exact .inl ⟨rfl, hw⟩

theorem law_true (ns : List Int) : ∃ S', m_law [.fz (ns.map .int)] [] = .ok (.bl true) S' := by
  have h := ff_law ns (.fz (ns.map .int)) [] rfl
  rw [F_true ns] at h
  obtain ⟨d, h1, h2⟩ := h
  rw [show d = .bl true from h2] at h1
  exact ⟨[], h1⟩
theorem sp_law {K : PySem.W.Frag} {cA : Nat → Addr} {H : Hp} {a : Addr} {ns : List Int} {E : XK} (hO : Only H) (hS : SqL K H a (ns.map V.int)) : spF K cA 1 m_law [.ref a] H (fun v _ => v = .bl true) E := law_sp (law_true ns) hO hS

abbrev spL (K : PySem.W.Frag) : L2.Sp := spF K (cAK cn K) 1 m_law
theorem all_mk {l : PySem.W.OpenLaw} {w : World} {K : PySem.W.Frag} {h : Heap} {mg : Str → Option Value} {fa : Addr} (X : K.In h) (G : h.Ns mainGlobals mg) (hfa : mg "law" = some (.ref fa))
    {f0 : Addr} {od0 an0 : Option Addr} {sl0 : Array (Option Value)} {oc0 kV0 dc0 pm0 cd0 ct0 : Value}
    (a0 : PySem.W.nsIn K mainGlobals "_law_feed" = some (some (.ref f0))) (l0 : K.lookup f0 = some ⟨oc0, od0, .func (PySem.W.fnOf "_law_feed" "_law_feed" (defArgs s_law_feed) (defBody s_law_feed) (defScope s_law_feed) .none kV0 dc0 pm0 an0 cd0 ct0), sl0⟩) (c0 : PySem.W.codeIn K cd0 "_law_feed" = true) (k0 : PySem.W.keepIn K (.ref f0) = true)
    {f1 : Addr} {od1 an1 : Option Addr} {sl1 : Array (Option Value)} {oc1 kV1 dc1 pm1 cd1 ct1 : Value}
    (a1 : PySem.W.nsIn K mainGlobals "_law_draw" = some (some (.ref f1))) (l1 : K.lookup f1 = some ⟨oc1, od1, .func (PySem.W.fnOf "_law_draw" "_law_draw" (defArgs s_law_draw) (defBody s_law_draw) (defScope s_law_draw) .none kV1 dc1 pm1 an1 cd1 ct1), sl1⟩) (c1 : PySem.W.codeIn K cd1 "_law_draw" = true) (k1 : PySem.W.keepIn K (.ref f1) = true)
    {f2 : Addr} {od2 an2 : Option Addr} {sl2 : Array (Option Value)} {oc2 kV2 dc2 pm2 cd2 ct2 : Value}
    (a2 : PySem.W.nsIn K mainGlobals "_law_ties" = some (some (.ref f2))) (l2 : K.lookup f2 = some ⟨oc2, od2, .func (PySem.W.fnOf "_law_ties" "_law_ties" (defArgs s_law_ties) (defBody s_law_ties) (defScope s_law_ties) .none kV2 dc2 pm2 an2 cd2 ct2), sl2⟩) (c2 : PySem.W.codeIn K cd2 "_law_ties" = true) (k2 : PySem.W.keepIn K (.ref f2) = true)
    {f3 : Addr} {od3 an3 : Option Addr} {sl3 : Array (Option Value)} {oc3 kV3 dc3 pm3 cd3 ct3 : Value}
    (a3 : PySem.W.nsIn K mainGlobals "_law_due" = some (some (.ref f3))) (l3 : K.lookup f3 = some ⟨oc3, od3, .func (PySem.W.fnOf "_law_due" "_law_due" (defArgs s_law_due) (defBody s_law_due) (defScope s_law_due) .none kV3 dc3 pm3 an3 cd3 ct3), sl3⟩) (c3 : PySem.W.codeIn K cd3 "_law_due" = true) (k3 : PySem.W.keepIn K (.ref f3) = true)
    {f4 : Addr} {od4 an4 : Option Addr} {sl4 : Array (Option Value)} {oc4 kV4 dc4 pm4 cd4 ct4 : Value}
    (a4 : PySem.W.nsIn K mainGlobals "is_whole" = some (some (.ref f4))) (l4 : K.lookup f4 = some ⟨oc4, od4, .func (PySem.W.fnOf "is_whole" "is_whole" (defArgs s_is_whole) (defBody s_is_whole) (defScope s_is_whole) .none kV4 dc4 pm4 an4 cd4 ct4), sl4⟩) (c4 : PySem.W.codeIn K cd4 "is_whole" = true) (k4 : PySem.W.keepIn K (.ref f4) = true)
    {f5 : Addr} {od5 an5 : Option Addr} {sl5 : Array (Option Value)} {oc5 kV5 dc5 pm5 cd5 ct5 : Value}
    (a5 : PySem.W.nsIn K mainGlobals "tie_of" = some (some (.ref f5))) (l5 : K.lookup f5 = some ⟨oc5, od5, .func (PySem.W.fnOf "tie_of" "tie_of" (defArgs s_tie_of) (defBody s_tie_of) (defScope s_tie_of) .none kV5 dc5 pm5 an5 cd5 ct5), sl5⟩) (c5 : PySem.W.codeIn K cd5 "tie_of" = true) (k5 : PySem.W.keepIn K (.ref f5) = true)
    {f6 : Addr} {od6 an6 : Option Addr} {sl6 : Array (Option Value)} {oc6 kV6 dc6 pm6 cd6 ct6 : Value}
    (a6 : PySem.W.nsIn K mainGlobals "web" = some (some (.ref f6))) (l6 : K.lookup f6 = some ⟨oc6, od6, .func (PySem.W.fnOf "web" "web" (defArgs s_web) (defBody s_web) (defScope s_web) .none kV6 dc6 pm6 an6 cd6 ct6), sl6⟩) (c6 : PySem.W.codeIn K cd6 "web" = true) (k6 : PySem.W.keepIn K (.ref f6) = true)
    {f7 : Addr} {od7 an7 : Option Addr} {sl7 : Array (Option Value)} {oc7 kV7 dc7 pm7 cd7 ct7 : Value}
    (a7 : PySem.W.nsIn K mainGlobals "_law_told" = some (some (.ref f7))) (l7 : K.lookup f7 = some ⟨oc7, od7, .func (PySem.W.fnOf "_law_told" "_law_told" (defArgs s_law_told) (defBody s_law_told) (defScope s_law_told) .none kV7 dc7 pm7 an7 cd7 ct7), sl7⟩) (c7 : PySem.W.codeIn K cd7 "_law_told" = true) (k7 : PySem.W.keepIn K (.ref f7) = true)
    {f8 : Addr} {od8 an8 : Option Addr} {sl8 : Array (Option Value)} {oc8 kV8 dc8 pm8 cd8 ct8 : Value}
    (a8 : PySem.W.nsIn K mainGlobals "_law_odd_tie" = some (some (.ref f8))) (l8 : K.lookup f8 = some ⟨oc8, od8, .func (PySem.W.fnOf "_law_odd_tie" "_law_odd_tie" (defArgs s_law_odd_tie) (defBody s_law_odd_tie) (defScope s_law_odd_tie) .none kV8 dc8 pm8 an8 cd8 ct8), sl8⟩) (c8 : PySem.W.codeIn K cd8 "_law_odd_tie" = true) (k8 : PySem.W.keepIn K (.ref f8) = true)
    {f9 : Addr} {od9 an9 : Option Addr} {sl9 : Array (Option Value)} {oc9 kV9 dc9 pm9 cd9 ct9 : Value}
    (a9 : PySem.W.nsIn K mainGlobals "_law_whole" = some (some (.ref f9))) (l9 : K.lookup f9 = some ⟨oc9, od9, .func (PySem.W.fnOf "_law_whole" "_law_whole" (defArgs s_law_whole) (defBody s_law_whole) (defScope s_law_whole) .none kV9 dc9 pm9 an9 cd9 ct9), sl9⟩) (c9 : PySem.W.codeIn K cd9 "_law_whole" = true) (k9 : PySem.W.keepIn K (.ref f9) = true)
    {f10 : Addr} {od10 an10 : Option Addr} {sl10 : Array (Option Value)} {oc10 kV10 dc10 pm10 cd10 ct10 : Value}
    (a10 : PySem.W.nsIn K mainGlobals "law" = some (some (.ref f10))) (l10 : K.lookup f10 = some ⟨oc10, od10, .func (PySem.W.fnOf "law" "law" (defArgs s_law) (defBody s_law) (defScope s_law) .none kV10 dc10 pm10 an10 cd10 ct10), sl10⟩) (c10 : PySem.W.codeIn K cd10 "law" = true) (k10 : PySem.W.keepIn K (.ref f10) = true)
    (z_ValueError : PySem.W.nsIn K mainGlobals "ValueError" = some none)
    (z_bool : PySem.W.nsIn K mainGlobals "bool" = some none)
    (z_int : PySem.W.nsIn K mainGlobals "int" = some none)
    (z_isinstance : PySem.W.nsIn K mainGlobals "isinstance" = some none)
    (z_len : PySem.W.nsIn K mainGlobals "len" = some none)
    (z_max : PySem.W.nsIn K mainGlobals "max" = some none)
    (z_min : PySem.W.nsIn K mainGlobals "min" = some none)
    (z_range : PySem.W.nsIn K mainGlobals "range" = some none)
    (z_set : PySem.W.nsIn K mainGlobals "set" = some none)
    (z_sorted : PySem.W.nsIn K mainGlobals "sorted" = some none)
    (z_tuple : PySem.W.nsIn K mainGlobals "tuple" = some none)
    {t_MOST_PLACES : Tok} (v_MOST_PLACES : PySem.W.nsIn K mainGlobals "MOST_PLACES" = some (some (.int 10 t_MOST_PLACES)))
    {t_MOST_TIES : Tok} (v_MOST_TIES : PySem.W.nsIn K mainGlobals "MOST_TIES" = some (some (.int 18 t_MOST_TIES)))
    {C0 : Addr} (q0 : PySem.W.nsIn K mainGlobals "NoWeb" = some (some (.ref C0))) (qk0 : PySem.W.keepIn K (.ref C0) = true) (qe0 : PySem.W.excIn K C0 [.type "ValueError", .type "Exception", .type "BaseException", .type "object"] "ValueError.__new__" = true) (qt0 : PySem.W.typeIn K (.ref C0) = some (.type "type"))
    (ua0 : PySem.W.findIn K (.ref C0) "__getattribute__" = some (some (.builtin "BaseException.__getattribute__"))) (ub0 : PySem.W.findIn K (.ref C0) "__getattr__" = some none) (uc0 : PySem.W.subIn K (.ref C0) (.type "BaseException") = some true) (ud0 : PySem.W.hasDictIn K C0 = true) (ue0 : PySem.W.findIn K (.ref C0) "__class__" = some (some (.builtin "object.__class__"))) (uf0 : PySem.W.mroIn K C0 (.type "object") = some true)
    {C1 : Addr} (q1 : PySem.W.nsIn K mainGlobals "CrossError" = some (some (.ref C1))) (qk1 : PySem.W.keepIn K (.ref C1) = true) (qe1 : PySem.W.excIn K C1 [.type "ValueError", .type "Exception", .type "BaseException", .type "object"] "ValueError.__new__" = true) (qt1 : PySem.W.typeIn K (.ref C1) = some (.type "type"))
    (ua1 : PySem.W.findIn K (.ref C1) "__getattribute__" = some (some (.builtin "BaseException.__getattribute__"))) (ub1 : PySem.W.findIn K (.ref C1) "__getattr__" = some none) (uc1 : PySem.W.subIn K (.ref C1) (.type "BaseException") = some true) (ud1 : PySem.W.hasDictIn K C1 = true) (ue1 : PySem.W.findIn K (.ref C1) "__class__" = some (some (.builtin "object.__class__"))) (uf1 : PySem.W.mroIn K C1 (.type "object") = some true)
    {C2 : Addr} (q2 : PySem.W.nsIn K mainGlobals "NoDrawing" = some (some (.ref C2))) (qk2 : PySem.W.keepIn K (.ref C2) = true) (qe2 : PySem.W.excIn K C2 [.type "ValueError", .type "Exception", .type "BaseException", .type "object"] "ValueError.__new__" = true) (qt2 : PySem.W.typeIn K (.ref C2) = some (.type "type"))
    (ua2 : PySem.W.findIn K (.ref C2) "__getattribute__" = some (some (.builtin "BaseException.__getattribute__"))) (ub2 : PySem.W.findIn K (.ref C2) "__getattr__" = some none) (uc2 : PySem.W.subIn K (.ref C2) (.type "BaseException") = some true) (ud2 : PySem.W.hasDictIn K C2 = true) (ue2 : PySem.W.findIn K (.ref C2) "__class__" = some (some (.builtin "object.__class__"))) (uf2 : PySem.W.mroIn K C2 (.type "object") = some true)
    {C3 : Addr} (q3 : PySem.W.nsIn K mainGlobals "NoLens" = some (some (.ref C3))) (qk3 : PySem.W.keepIn K (.ref C3) = true) (qe3 : PySem.W.excIn K C3 [.type "ValueError", .type "Exception", .type "BaseException", .type "object"] "ValueError.__new__" = true) (qt3 : PySem.W.typeIn K (.ref C3) = some (.type "type"))
    (ua3 : PySem.W.findIn K (.ref C3) "__getattribute__" = some (some (.builtin "BaseException.__getattribute__"))) (ub3 : PySem.W.findIn K (.ref C3) "__getattr__" = some none) (uc3 : PySem.W.subIn K (.ref C3) (.type "BaseException") = some true) (ud3 : PySem.W.hasDictIn K C3 = true) (ue3 : PySem.W.findIn K (.ref C3) "__class__" = some (some (.builtin "object.__class__"))) (uf3 : PySem.W.mroIn K C3 (.type "object") = some true)
    {C4 : Addr} (q4 : PySem.W.nsIn K mainGlobals "NoOrder" = some (some (.ref C4))) (qk4 : PySem.W.keepIn K (.ref C4) = true) (qe4 : PySem.W.excIn K C4 [.type "ValueError", .type "Exception", .type "BaseException", .type "object"] "ValueError.__new__" = true) (qt4 : PySem.W.typeIn K (.ref C4) = some (.type "type"))
    (ua4 : PySem.W.findIn K (.ref C4) "__getattribute__" = some (some (.builtin "BaseException.__getattribute__"))) (ub4 : PySem.W.findIn K (.ref C4) "__getattr__" = some none) (uc4 : PySem.W.subIn K (.ref C4) (.type "BaseException") = some true) (ud4 : PySem.W.hasDictIn K C4 = true) (ue4 : PySem.W.findIn K (.ref C4) "__class__" = some (some (.builtin "object.__class__"))) (uf4 : PySem.W.mroIn K C4 (.type "object") = some true)
    {C5 : Addr} (q5 : PySem.W.nsIn K mainGlobals "NoPoints" = some (some (.ref C5))) (qk5 : PySem.W.keepIn K (.ref C5) = true) (qe5 : PySem.W.excIn K C5 [.type "ValueError", .type "Exception", .type "BaseException", .type "object"] "ValueError.__new__" = true) (qt5 : PySem.W.typeIn K (.ref C5) = some (.type "type"))
    (ua5 : PySem.W.findIn K (.ref C5) "__getattribute__" = some (some (.builtin "BaseException.__getattribute__"))) (ub5 : PySem.W.findIn K (.ref C5) "__getattr__" = some none) (uc5 : PySem.W.subIn K (.ref C5) (.type "BaseException") = some true) (ud5 : PySem.W.hasDictIn K C5 = true) (ue5 : PySem.W.findIn K (.ref C5) "__class__" = some (some (.builtin "object.__class__"))) (uf5 : PySem.W.mroIn K C5 (.type "object") = some true)
    {C6 : Addr} (q6 : PySem.W.nsIn K mainGlobals "NoRoute" = some (some (.ref C6))) (qk6 : PySem.W.keepIn K (.ref C6) = true) (qe6 : PySem.W.excIn K C6 [.type "ValueError", .type "Exception", .type "BaseException", .type "object"] "ValueError.__new__" = true) (qt6 : PySem.W.typeIn K (.ref C6) = some (.type "type"))
    (ua6 : PySem.W.findIn K (.ref C6) "__getattribute__" = some (some (.builtin "BaseException.__getattribute__"))) (ub6 : PySem.W.findIn K (.ref C6) "__getattr__" = some none) (uc6 : PySem.W.subIn K (.ref C6) (.type "BaseException") = some true) (ud6 : PySem.W.hasDictIn K C6 = true) (ue6 : PySem.W.findIn K (.ref C6) "__class__" = some (some (.builtin "object.__class__"))) (uf6 : PySem.W.mroIn K C6 (.type "object") = some true)
    {C7 : Addr} (q7 : PySem.W.nsIn K mainGlobals "NoText" = some (some (.ref C7))) (qk7 : PySem.W.keepIn K (.ref C7) = true) (qe7 : PySem.W.excIn K C7 [.type "ValueError", .type "Exception", .type "BaseException", .type "object"] "ValueError.__new__" = true) (qt7 : PySem.W.typeIn K (.ref C7) = some (.type "type"))
    (ua7 : PySem.W.findIn K (.ref C7) "__getattribute__" = some (some (.builtin "BaseException.__getattribute__"))) (ub7 : PySem.W.findIn K (.ref C7) "__getattr__" = some none) (uc7 : PySem.W.subIn K (.ref C7) (.type "BaseException") = some true) (ud7 : PySem.W.hasDictIn K C7 = true) (ue7 : PySem.W.findIn K (.ref C7) "__class__" = some (some (.builtin "object.__class__"))) (uf7 : PySem.W.mroIn K C7 (.type "object") = some true)
    {C8 : Addr} (q8 : PySem.W.nsIn K mainGlobals "NoTie" = some (some (.ref C8))) (qk8 : PySem.W.keepIn K (.ref C8) = true) (qe8 : PySem.W.excIn K C8 [.type "ValueError", .type "Exception", .type "BaseException", .type "object"] "ValueError.__new__" = true) (qt8 : PySem.W.typeIn K (.ref C8) = some (.type "type"))
    (ua8 : PySem.W.findIn K (.ref C8) "__getattribute__" = some (some (.builtin "BaseException.__getattribute__"))) (ub8 : PySem.W.findIn K (.ref C8) "__getattr__" = some none) (uc8 : PySem.W.subIn K (.ref C8) (.type "BaseException") = some true) (ud8 : PySem.W.hasDictIn K C8 = true) (ue8 : PySem.W.findIn K (.ref C8) "__class__" = some (some (.builtin "object.__class__"))) (uf8 : PySem.W.mroIn K C8 (.type "object") = some true)
    {C9 : Addr} (q9 : PySem.W.nsIn K mainGlobals "TooMany" = some (some (.ref C9))) (qk9 : PySem.W.keepIn K (.ref C9) = true) (qe9 : PySem.W.excIn K C9 [.type "ValueError", .type "Exception", .type "BaseException", .type "object"] "ValueError.__new__" = true) (qt9 : PySem.W.typeIn K (.ref C9) = some (.type "type"))
    (ua9 : PySem.W.findIn K (.ref C9) "__getattribute__" = some (some (.builtin "BaseException.__getattribute__"))) (ub9 : PySem.W.findIn K (.ref C9) "__getattr__" = some none) (uc9 : PySem.W.subIn K (.ref C9) (.type "BaseException") = some true) (ud9 : PySem.W.hasDictIn K C9 = true) (ue9 : PySem.W.findIn K (.ref C9) "__class__" = some (some (.builtin "object.__class__"))) (uf9 : PySem.W.mroIn K C9 (.type "object") = some true)
    (ug : PySem.W.specialIn K (.builtin "object.__class__") "__get__" = some (some (.builtin "getset_descriptor.__get__"))) (uh : PySem.W.takesIn K (.builtin "object.__class__") = some true)
    (s0_1 : PySem.W.subIn K (.ref C0) (.ref C1) = some true)
    (s0_2 : PySem.W.subIn K (.ref C0) (.ref C2) = some false)
    (s0_3 : PySem.W.subIn K (.ref C0) (.ref C3) = some false)
    (s0_4 : PySem.W.subIn K (.ref C0) (.ref C4) = some false)
    (s0_5 : PySem.W.subIn K (.ref C0) (.ref C5) = some false)
    (s0_6 : PySem.W.subIn K (.ref C0) (.ref C6) = some false)
    (s0_7 : PySem.W.subIn K (.ref C0) (.ref C7) = some false)
    (s0_8 : PySem.W.subIn K (.ref C0) (.ref C8) = some false)
    (s0_0 : PySem.W.subIn K (.ref C0) (.ref C0) = some true)
    (s0_9 : PySem.W.subIn K (.ref C0) (.ref C9) = some false)
    (j0 : PySem.W.subIn K (.ref C0) (.type "ValueError") = some true)
    (o2 : PySem.W.subIn K (.type "NoneType") (.ref C2) = some false)
    (p2 : PySem.W.subIn K (.ref C2) (.ref C2) = some true)
    (o3 : PySem.W.subIn K (.type "NoneType") (.ref C3) = some false)
    (p3 : PySem.W.subIn K (.ref C3) (.ref C3) = some true)
    (o4 : PySem.W.subIn K (.type "NoneType") (.ref C4) = some false)
    (p4 : PySem.W.subIn K (.ref C4) (.ref C4) = some true)
    (o5 : PySem.W.subIn K (.type "NoneType") (.ref C5) = some false)
    (p5 : PySem.W.subIn K (.ref C5) (.ref C5) = some true)
    (o6 : PySem.W.subIn K (.type "NoneType") (.ref C6) = some false)
    (p6 : PySem.W.subIn K (.ref C6) (.ref C6) = some true)
    (o7 : PySem.W.subIn K (.type "NoneType") (.ref C7) = some false)
    (p7 : PySem.W.subIn K (.ref C7) (.ref C7) = some true)
    (o8 : PySem.W.subIn K (.type "NoneType") (.ref C8) = some false)
    (p8 : PySem.W.subIn K (.ref C8) (.ref C8) = some true)
    (o0 : PySem.W.subIn K (.type "NoneType") (.ref C0) = some false)
    (p0 : PySem.W.subIn K (.ref C0) (.ref C0) = some true)
    (o9 : PySem.W.subIn K (.type "NoneType") (.ref C9) = some false)
    (p9 : PySem.W.subIn K (.ref C9) (.ref C9) = some true)
    : ∃ fd : FuncData, (∀ (s : Shared) (v : Value), BindsTo s fd ⟨[v], []⟩ [("_law_script", v)]) ∧ ∀ base : Heap, K.In base → base.Ns mainGlobals mg → FnOkG l.prog w K mg base (L2.CX l.prog w) 5 fa fd ["_law_script"] (spF K (cAK cn K) 1 m_law) := by
  have e := hfa.symm.trans (PySem.W.mg_of X G a10)
  cases e
  have F0 := fun_mk (st := s_law_feed) l0 c0 k0
  have b0 := F0.binds (ps := ["_law_cell"]) fun _ _ _ _ _ _ us hl => match us, hl with | [_], _ => rfl
  have F1 := fun_mk (st := s_law_draw) l1 c1 k1
  have b1 := F1.binds (ps := ["_law_feed_here", "_law_many"]) fun _ _ _ _ _ _ us hl => match us, hl with | [_, _], _ => rfl
  have F2 := fun_mk (st := s_law_ties) l2 c2 k2
  have b2 := F2.binds (ps := ["_law_feed_here", "_law_n"]) fun _ _ _ _ _ _ us hl => match us, hl with | [_, _], _ => rfl
  have F3 := fun_mk (st := s_law_due) l3 c3 k3
  have b3 := F3.binds (ps := ["_law_n", "_law_ties_here"]) fun _ _ _ _ _ _ us hl => match us, hl with | [_, _], _ => rfl
  have F4 := fun_mk (st := s_is_whole) l4 c4 k4
  have b4 := F4.binds (ps := ["thing"]) fun _ _ _ _ _ _ us hl => match us, hl with | [_], _ => rfl
  have F5 := fun_mk (st := s_tie_of) l5 c5 k5
  have b5 := F5.binds (ps := ["thing", "n"]) fun _ _ _ _ _ _ us hl => match us, hl with | [_, _], _ => rfl
  have F6 := fun_mk (st := s_web) l6 c6 k6
  have b6 := F6.binds (ps := ["n", "some"]) fun _ _ _ _ _ _ us hl => match us, hl with | [_, _], _ => rfl
  have F7 := fun_mk (st := s_law_told) l7 c7 k7
  have b7 := F7.binds (ps := ["_law_n", "_law_some"]) fun _ _ _ _ _ _ us hl => match us, hl with | [_, _], _ => rfl
  have F8 := fun_mk (st := s_law_odd_tie) l8 c8 k8
  have b8 := F8.binds (ps := ["_law_feed_here", "_law_n"]) fun _ _ _ _ _ _ us hl => match us, hl with | [_, _], _ => rfl
  have F9 := fun_mk (st := s_law_whole) l9 c9 k9
  have b9 := F9.binds (ps := ["_law_told_here"]) fun _ _ _ _ _ _ us hl => match us, hl with | [_], _ => rfl
  have F10 := fun_mk (st := s_law) l10 c10 k10
  have b10 := F10.binds (ps := ["_law_script"]) fun _ _ _ _ _ _ us hl => match us, hl with | [_], _ => rfl
  have m0_1 := PySem.W.exm_ref uc1 ud1 qt1 s0_1
  have i0_2 := kit_cl ud2 qt2 s0_2 p2
  have i0_3 := kit_cl ud3 qt3 s0_3 p3
  have i0_4 := kit_cl ud4 qt4 s0_4 p4
  have i0_5 := kit_cl ud5 qt5 s0_5 p5
  have i0_6 := kit_cl ud6 qt6 s0_6 p6
  have i0_7 := kit_cl ud7 qt7 s0_7 p7
  have i0_8 := kit_cl ud8 qt8 s0_8 p8
  have i0_0 := kit_cl ud0 qt0 s0_0 p0
  have i0_9 := kit_cl ud9 qt9 s0_9 p9
  have j0 := kit_ve j0
  have o2 := kit_cl ud2 qt2 o2 p2
  have o3 := kit_cl ud3 qt3 o3 p3
  have o4 := kit_cl ud4 qt4 o4 p4
  have o5 := kit_cl ud5 qt5 o5 p5
  have o6 := kit_cl ud6 qt6 o6 p6
  have o7 := kit_cl ud7 qt7 o7 p7
  have o8 := kit_cl ud8 qt8 o8 p8
  have o0 := kit_cl ud0 qt0 o0 p0
  have o9 := kit_cl ud9 qt9 o9 p9
  have ec0 : ExcC K C0 := ⟨ua0, ub0, uc0, ud0, ue0, ug, uh, uf0⟩
  have e0 : cAK cn K 0 = C0 := cAK_at (cn := cn) (c := 0) q0
  have z0 : Cls K mg "NoWeb" (cAK cn K 0) := by rw [e0]; exact ⟨q0, PySem.W.mg_of X G q0, qk0, qe0, qt0, ec0⟩
  have ec1 : ExcC K C1 := ⟨ua1, ub1, uc1, ud1, ue1, ug, uh, uf1⟩
  have e1 : cAK cn K 1 = C1 := cAK_at (cn := cn) (c := 1) q1
  have z1 : Cls K mg "CrossError" (cAK cn K 1) := by rw [e1]; exact ⟨q1, PySem.W.mg_of X G q1, qk1, qe1, qt1, ec1⟩
  have ec2 : ExcC K C2 := ⟨ua2, ub2, uc2, ud2, ue2, ug, uh, uf2⟩
  have e2 : cAK cn K 2 = C2 := cAK_at (cn := cn) (c := 2) q2
  have z2 : Cls K mg "NoDrawing" (cAK cn K 2) := by rw [e2]; exact ⟨q2, PySem.W.mg_of X G q2, qk2, qe2, qt2, ec2⟩
  have ec3 : ExcC K C3 := ⟨ua3, ub3, uc3, ud3, ue3, ug, uh, uf3⟩
  have e3 : cAK cn K 3 = C3 := cAK_at (cn := cn) (c := 3) q3
  have z3 : Cls K mg "NoLens" (cAK cn K 3) := by rw [e3]; exact ⟨q3, PySem.W.mg_of X G q3, qk3, qe3, qt3, ec3⟩
  have ec4 : ExcC K C4 := ⟨ua4, ub4, uc4, ud4, ue4, ug, uh, uf4⟩
  have e4 : cAK cn K 4 = C4 := cAK_at (cn := cn) (c := 4) q4
  have z4 : Cls K mg "NoOrder" (cAK cn K 4) := by rw [e4]; exact ⟨q4, PySem.W.mg_of X G q4, qk4, qe4, qt4, ec4⟩
  have ec5 : ExcC K C5 := ⟨ua5, ub5, uc5, ud5, ue5, ug, uh, uf5⟩
  have e5 : cAK cn K 5 = C5 := cAK_at (cn := cn) (c := 5) q5
  have z5 : Cls K mg "NoPoints" (cAK cn K 5) := by rw [e5]; exact ⟨q5, PySem.W.mg_of X G q5, qk5, qe5, qt5, ec5⟩
  have ec6 : ExcC K C6 := ⟨ua6, ub6, uc6, ud6, ue6, ug, uh, uf6⟩
  have e6 : cAK cn K 6 = C6 := cAK_at (cn := cn) (c := 6) q6
  have z6 : Cls K mg "NoRoute" (cAK cn K 6) := by rw [e6]; exact ⟨q6, PySem.W.mg_of X G q6, qk6, qe6, qt6, ec6⟩
  have ec7 : ExcC K C7 := ⟨ua7, ub7, uc7, ud7, ue7, ug, uh, uf7⟩
  have e7 : cAK cn K 7 = C7 := cAK_at (cn := cn) (c := 7) q7
  have z7 : Cls K mg "NoText" (cAK cn K 7) := by rw [e7]; exact ⟨q7, PySem.W.mg_of X G q7, qk7, qe7, qt7, ec7⟩
  have ec8 : ExcC K C8 := ⟨ua8, ub8, uc8, ud8, ue8, ug, uh, uf8⟩
  have e8 : cAK cn K 8 = C8 := cAK_at (cn := cn) (c := 8) q8
  have z8 : Cls K mg "NoTie" (cAK cn K 8) := by rw [e8]; exact ⟨q8, PySem.W.mg_of X G q8, qk8, qe8, qt8, ec8⟩
  have ec9 : ExcC K C9 := ⟨ua9, ub9, uc9, ud9, ue9, ug, uh, uf9⟩
  have e9 : cAK cn K 9 = C9 := cAK_at (cn := cn) (c := 9) q9
  have z9 : Cls K mg "TooMany" (cAK cn K 9) := by rw [e9]; exact ⟨q9, PySem.W.mg_of X G q9, qk9, qe9, qt9, ec9⟩
  have hx1 : ∀ c b, ct_CrossError c = some b → PySem.W.exmOne K (.ref (cAK cn K c)) (.ref (cAK cn K 1)) = some b := fun c b h => match c, h with
    | 0, h => by cases h; rw [e0, e1]; exact m0_1
    | _ + 1, h => by cases h
  have hn1 : ∀ c, ct_CrossError c = some true → PySem.W.nsIn K mainGlobals (cn c) = some (some (.ref (cAK cn K c))) := fun c h => match c, h with
    | 0, _ => by rw [e0]; exact q0
    | _ + 1, h => by cases h
  have hisx : IsX K tabX tbX noX := by
    refine ⟨fun x y b D1 D2 h h1 h2 => ?_, fun x T b D1 h h1 => ?_, fun y D2 h h2 => ?_⟩
    · unfold tabX at h
      by_cases x0 : x = ("NoWeb" : Str)
      · rw [if_pos x0] at h; rw [x0, q0] at h1; cases h1
        by_cases y2 : y = ("NoDrawing" : Str)
        · rw [if_pos y2] at h; cases h; rw [y2, q2] at h2; cases h2; exact ⟨ec0, i0_2⟩
        rw [if_neg y2] at h
        by_cases y3 : y = ("NoLens" : Str)
        · rw [if_pos y3] at h; cases h; rw [y3, q3] at h2; cases h2; exact ⟨ec0, i0_3⟩
        rw [if_neg y3] at h
        by_cases y4 : y = ("NoOrder" : Str)
        · rw [if_pos y4] at h; cases h; rw [y4, q4] at h2; cases h2; exact ⟨ec0, i0_4⟩
        rw [if_neg y4] at h
        by_cases y5 : y = ("NoPoints" : Str)
        · rw [if_pos y5] at h; cases h; rw [y5, q5] at h2; cases h2; exact ⟨ec0, i0_5⟩
        rw [if_neg y5] at h
        by_cases y6 : y = ("NoRoute" : Str)
        · rw [if_pos y6] at h; cases h; rw [y6, q6] at h2; cases h2; exact ⟨ec0, i0_6⟩
        rw [if_neg y6] at h
        by_cases y7 : y = ("NoText" : Str)
        · rw [if_pos y7] at h; cases h; rw [y7, q7] at h2; cases h2; exact ⟨ec0, i0_7⟩
        rw [if_neg y7] at h
        by_cases y8 : y = ("NoTie" : Str)
        · rw [if_pos y8] at h; cases h; rw [y8, q8] at h2; cases h2; exact ⟨ec0, i0_8⟩
        rw [if_neg y8] at h
        by_cases y0 : y = ("NoWeb" : Str)
        · rw [if_pos y0] at h; cases h; rw [y0, q0] at h2; cases h2; exact ⟨ec0, i0_0⟩
        rw [if_neg y0] at h
        by_cases y9 : y = ("TooMany" : Str)
        · rw [if_pos y9] at h; cases h; rw [y9, q9] at h2; cases h2; exact ⟨ec0, i0_9⟩
        rw [if_neg y9] at h
        cases h
      rw [if_neg x0] at h
      cases h
    · unfold tbX at h
      by_cases x0 : x = ("NoWeb" : Str)
      · rw [if_pos x0] at h; rw [x0, q0] at h1; cases h1
        by_cases y0 : T = "ValueError"
        · rw [if_pos y0] at h; cases h; rw [y0]; exact ⟨ec0, j0⟩
        rw [if_neg y0] at h
        cases h
      rw [if_neg x0] at h
      cases h
    · unfold noX at h
      by_cases y2 : y = ("NoDrawing" : Str)
      · rw [y2, q2] at h2; cases h2; exact o2
      rw [if_neg y2] at h
      by_cases y3 : y = ("NoLens" : Str)
      · rw [y3, q3] at h2; cases h2; exact o3
      rw [if_neg y3] at h
      by_cases y4 : y = ("NoOrder" : Str)
      · rw [y4, q4] at h2; cases h2; exact o4
      rw [if_neg y4] at h
      by_cases y5 : y = ("NoPoints" : Str)
      · rw [y5, q5] at h2; cases h2; exact o5
      rw [if_neg y5] at h
      by_cases y6 : y = ("NoRoute" : Str)
      · rw [y6, q6] at h2; cases h2; exact o6
      rw [if_neg y6] at h
      by_cases y7 : y = ("NoText" : Str)
      · rw [y7, q7] at h2; cases h2; exact o7
      rw [if_neg y7] at h
      by_cases y8 : y = ("NoTie" : Str)
      · rw [y8, q8] at h2; cases h2; exact o8
      rw [if_neg y8] at h
      by_cases y0 : y = ("NoWeb" : Str)
      · rw [y0, q0] at h2; cases h2; exact o0
      rw [if_neg y0] at h
      by_cases y9 : y = ("TooMany" : Str)
      · rw [y9, q9] at h2; cases h2; exact o9
      rw [if_neg y9] at h
      cases h
  exact ⟨_, fun s v => .of_eq rfl, fun base _ _ => ok_law (base := base) { cA := (cAK cn K), q_NoWeb := z0, q_CrossError := z1, q_NoDrawing := z2, q_NoLens := z3, q_NoOrder := z4, q_NoPoints := z5, q_NoRoute := z6, q_NoText := z7, q_NoTie := z8, q_TooMany := z9, hx_CrossError := hx1, hn_CrossError := hn1, isx := hisx, n_ValueError := PySem.W.mg_none_of X G z_ValueError, n_bool := PySem.W.mg_none_of X G z_bool, n_int := PySem.W.mg_none_of X G z_int, n_isinstance := PySem.W.mg_none_of X G z_isinstance, n_len := PySem.W.mg_none_of X G z_len, n_max := PySem.W.mg_none_of X G z_max, n_min := PySem.W.mg_none_of X G z_min, n_range := PySem.W.mg_none_of X G z_range, n_set := PySem.W.mg_none_of X G z_set, n_sorted := PySem.W.mg_none_of X G z_sorted, n_tuple := PySem.W.mg_none_of X G z_tuple, t_MOST_PLACES := t_MOST_PLACES, c_MOST_PLACES := PySem.W.mg_of X G v_MOST_PLACES, t_MOST_TIES := t_MOST_TIES, c_MOST_TIES := PySem.W.mg_of X G v_MOST_TIES, a_law_feed := f0, fd_law_feed := _, F_law_feed := F0, g_law_feed := PySem.W.mg_of X G a0, b_law_feed := b0, a_law_draw := f1, fd_law_draw := _, F_law_draw := F1, g_law_draw := PySem.W.mg_of X G a1, b_law_draw := b1, a_law_ties := f2, fd_law_ties := _, F_law_ties := F2, g_law_ties := PySem.W.mg_of X G a2, b_law_ties := b2, a_law_due := f3, fd_law_due := _, F_law_due := F3, g_law_due := PySem.W.mg_of X G a3, b_law_due := b3, a_is_whole := f4, fd_is_whole := _, F_is_whole := F4, g_is_whole := PySem.W.mg_of X G a4, b_is_whole := b4, a_tie_of := f5, fd_tie_of := _, F_tie_of := F5, g_tie_of := PySem.W.mg_of X G a5, b_tie_of := b5, a_web := f6, fd_web := _, F_web := F6, g_web := PySem.W.mg_of X G a6, b_web := b6, a_law_told := f7, fd_law_told := _, F_law_told := F7, g_law_told := PySem.W.mg_of X G a7, b_law_told := b7, a_law_odd_tie := f8, fd_law_odd_tie := _, F_law_odd_tie := F8, g_law_odd_tie := PySem.W.mg_of X G a8, b_law_odd_tie := b8, a_law_whole := f9, fd_law_whole := _, F_law_whole := F9, g_law_whole := PySem.W.mg_of X G a9, b_law_whole := b9, a_law := fa, fd_law := _, F_law := F10, g_law := PySem.W.mg_of X G a10, b_law := b10 }⟩
end Law
open PySem PySem.W PyProof.Rows
set_option maxRecDepth 100000 in
set_option maxHeartbeats 0 in
theorem PySem.Challenge.cw_leastcross_k01_webs_holds : PySem.Challenge.rw_leastcross_k01_webs.Holds := by
  w_on; o_law; k_head; (case hw => w_witness2)
  k_fill
  refine Rf.walk_ofG (l := PySem.Challenge.rw_leastcross_k01_webs) (n := 63) (k := 5) (x := "_law_script") (CX := fun w => L2.CX PySem.Challenge.rw_leastcross_k01_webs.prog w) (sp := fun w => Law.spL _) rfl (by decide) rfl ⟨rfl, by decide, by decide⟩ (fun w h Y => PySem.W.kIn_of Y) ?F (fun _ _ _ _ hl hO hS => Law.sp_law hO hS) (fun _ _ _ _ _ h => Rf.no_cx h)
  case F =>
    intro w mg fa h KX G hmg
    refine' Law.all_mk KX G hmg ?a0 ?l0 ?c0 ?k0 ?a1 ?l1 ?c1 ?k1 ?a2 ?l2 ?c2 ?k2 ?a3 ?l3 ?c3 ?k3 ?a4 ?l4 ?c4 ?k4 ?a5 ?l5 ?c5 ?k5 ?a6 ?l6 ?c6 ?k6 ?a7 ?l7 ?c7 ?k7 ?a8 ?l8 ?c8 ?k8 ?a9 ?l9 ?c9 ?k9 ?a10 ?l10 ?c10 ?k10 ?z_ValueError ?z_bool ?z_int ?z_isinstance ?z_len ?z_max ?z_min ?z_range ?z_set ?z_sorted ?z_tuple ?v_MOST_PLACES ?v_MOST_TIES ?q0 ?qk0 ?qe0 ?qt0 ?ua0 ?ub0 ?uc0 ?ud0 ?ue0 ?uf0 ?q1 ?qk1 ?qe1 ?qt1 ?ua1 ?ub1 ?uc1 ?ud1 ?ue1 ?uf1 ?q2 ?qk2 ?qe2 ?qt2 ?ua2 ?ub2 ?uc2 ?ud2 ?ue2 ?uf2 ?q3 ?qk3 ?qe3 ?qt3 ?ua3 ?ub3 ?uc3 ?ud3 ?ue3 ?uf3 ?q4 ?qk4 ?qe4 ?qt4 ?ua4 ?ub4 ?uc4 ?ud4 ?ue4 ?uf4 ?q5 ?qk5 ?qe5 ?qt5 ?ua5 ?ub5 ?uc5 ?ud5 ?ue5 ?uf5 ?q6 ?qk6 ?qe6 ?qt6 ?ua6 ?ub6 ?uc6 ?ud6 ?ue6 ?uf6 ?q7 ?qk7 ?qe7 ?qt7 ?ua7 ?ub7 ?uc7 ?ud7 ?ue7 ?uf7 ?q8 ?qk8 ?qe8 ?qt8 ?ua8 ?ub8 ?uc8 ?ud8 ?ue8 ?uf8 ?q9 ?qk9 ?qe9 ?qt9 ?ua9 ?ub9 ?uc9 ?ud9 ?ue9 ?uf9 ?ug ?uh ?s0_1 ?s0_2 ?s0_3 ?s0_4 ?s0_5 ?s0_6 ?s0_7 ?s0_8 ?s0_0 ?s0_9 ?j0 ?o2 ?p2 ?o3 ?p3 ?o4 ?p4 ?o5 ?p5 ?o6 ?p6 ?o7 ?p7 ?o8 ?p8 ?o0 ?p0 ?o9 ?p9
    (case a0 => k_is); (case l0 => k_is); (case c0 => k_is); (case k0 => k_is); (case a1 => k_is); (case l1 => k_is); (case c1 => k_is); (case k1 => k_is); (case a2 => k_is); (case l2 => k_is); (case c2 => k_is); (case k2 => k_is); (case a3 => k_is); (case l3 => k_is); (case c3 => k_is); (case k3 => k_is); (case a4 => k_is); (case l4 => k_is); (case c4 => k_is); (case k4 => k_is); (case a5 => k_is); (case l5 => k_is); (case c5 => k_is); (case k5 => k_is); (case a6 => k_is); (case l6 => k_is); (case c6 => k_is); (case k6 => k_is); (case a7 => k_is); (case l7 => k_is); (case c7 => k_is); (case k7 => k_is); (case a8 => k_is); (case l8 => k_is); (case c8 => k_is); (case k8 => k_is); (case a9 => k_is); (case l9 => k_is); (case c9 => k_is); (case k9 => k_is); (case a10 => k_is); (case l10 => k_is); (case c10 => k_is); (case k10 => k_is); (case z_ValueError => k_is); (case z_bool => k_is); (case z_int => k_is); (case z_isinstance => k_is); (case z_len => k_is); (case z_max => k_is); (case z_min => k_is); (case z_range => k_is); (case z_set => k_is); (case z_sorted => k_is); (case z_tuple => k_is); (case v_MOST_PLACES => k_is); (case v_MOST_TIES => k_is); (case q0 => k_is); (case qk0 => k_is); (case qe0 => k_exc); (case qt0 => k_is); (case ua0 => k_is); (case ub0 => k_is); (case uc0 => k_is); (case ud0 => k_is); (case ue0 => k_is); (case uf0 => k_is); (case q1 => k_is); (case qk1 => k_is); (case qe1 => k_exc); (case qt1 => k_is); (case ua1 => k_is); (case ub1 => k_is); (case uc1 => k_is); (case ud1 => k_is); (case ue1 => k_is); (case uf1 => k_is); (case q2 => k_is); (case qk2 => k_is); (case qe2 => k_exc); (case qt2 => k_is); (case ua2 => k_is); (case ub2 => k_is); (case uc2 => k_is); (case ud2 => k_is); (case ue2 => k_is); (case uf2 => k_is); (case q3 => k_is); (case qk3 => k_is); (case qe3 => k_exc); (case qt3 => k_is); (case ua3 => k_is); (case ub3 => k_is); (case uc3 => k_is); (case ud3 => k_is); (case ue3 => k_is); (case uf3 => k_is); (case q4 => k_is); (case qk4 => k_is); (case qe4 => k_exc); (case qt4 => k_is); (case ua4 => k_is); (case ub4 => k_is); (case uc4 => k_is); (case ud4 => k_is); (case ue4 => k_is); (case uf4 => k_is); (case q5 => k_is); (case qk5 => k_is); (case qe5 => k_exc); (case qt5 => k_is); (case ua5 => k_is); (case ub5 => k_is); (case uc5 => k_is); (case ud5 => k_is); (case ue5 => k_is); (case uf5 => k_is); (case q6 => k_is); (case qk6 => k_is); (case qe6 => k_exc); (case qt6 => k_is); (case ua6 => k_is); (case ub6 => k_is); (case uc6 => k_is); (case ud6 => k_is); (case ue6 => k_is); (case uf6 => k_is); (case q7 => k_is); (case qk7 => k_is); (case qe7 => k_exc); (case qt7 => k_is); (case ua7 => k_is); (case ub7 => k_is); (case uc7 => k_is); (case ud7 => k_is); (case ue7 => k_is); (case uf7 => k_is); (case q8 => k_is); (case qk8 => k_is); (case qe8 => k_exc); (case qt8 => k_is); (case ua8 => k_is); (case ub8 => k_is); (case uc8 => k_is); (case ud8 => k_is); (case ue8 => k_is); (case uf8 => k_is); (case q9 => k_is); (case qk9 => k_is); (case qe9 => k_exc); (case qt9 => k_is); (case ua9 => k_is); (case ub9 => k_is); (case uc9 => k_is); (case ud9 => k_is); (case ue9 => k_is); (case uf9 => k_is); (case ug => k_is); (case uh => k_is); (case s0_1 => k_is); (case s0_2 => k_is); (case s0_3 => k_is); (case s0_4 => k_is); (case s0_5 => k_is); (case s0_6 => k_is); (case s0_7 => k_is); (case s0_8 => k_is); (case s0_0 => k_is); (case s0_9 => k_is); (case j0 => k_is); (case o2 => k_is); (case p2 => k_is); (case o3 => k_is); (case p3 => k_is); (case o4 => k_is); (case p4 => k_is); (case o5 => k_is); (case p5 => k_is); (case o6 => k_is); (case p6 => k_is); (case o7 => k_is); (case p7 => k_is); (case o8 => k_is); (case p8 => k_is); (case o0 => k_is); (case p0 => k_is); (case o9 => k_is); (case p9 => k_is)

