import PyProof.Rows.All
import Wide.All
import OpenK.AllK
import Wide.FinOn
import HandS.ForMost
import HandS.ForExc
import HandS.CallSlots
import HandS.TryMany
import HandS.IsInst
import HandS.TupAny
import HandS.Deep
import HandS.SetFor
import HandS.More
import PySem.Challenge.RW_lassoscribe_k09_thinned
set_option Elab.async false
set_option linter.all false
set_option maxRecDepth 100000
/-! T1: data trees over the hand layer's heaps; what is owned, what is shared. -/
namespace T
open PySem PySem.Spec PyProof.Rows L2

inductive D where
  | non | bl (b : Bool) | int (i : Int) | str (s : Str)
  | tup (ds : List D) | lst (ds : List D) | dct (ks : List Key) (ds : List D)

mutual
/-- no list and no dict within -/
def flat : D → Bool
  | .non => true | .bl _ => true | .int _ => true | .str _ => true
  | .tup ds => flats ds
  | .lst _ => false | .dct _ _ => false
def flats : List D → Bool
  | [] => true
  | d :: ds => flat d && flats ds
end
mutual
def toP : D → PyData
  | .non => .none | .bl b => .bool b | .int i => .int i | .str s => .str s
  | .tup ds => .tuple (toPs ds) | .lst ds => .list (toPs ds) | .dct _ _ => .dict []
def toPs : List D → List PyData
  | [] => []
  | d :: ds => toP d :: toPs ds
end
mutual
def nod : D → Bool
  | .non => true | .bl _ => true | .int _ => true | .str _ => true
  | .tup ds => nods ds | .lst ds => nods ds
  | .dct _ _ => false
def nods : List D → Bool
  | [] => true
  | d :: ds => nod d && nods ds
end
mutual
def dep : D → Nat
  | .non => 0 | .bl _ => 0 | .int _ => 0 | .str _ => 0
  | .tup ds => deps ds + 1 | .lst ds => deps ds + 1
  | .dct _ _ => 0
def deps : List D → Nat
  | [] => 0
  | d :: ds => max (dep d) (deps ds)
end

/-- what stands as a written tuple of the module -/
def KT (K : PySem.W.Frag) (a : Addr) (xs : List V) : Prop :=
  ∃ (o : Obj) (its : Array Value) (n : Nat), K.lookup a = some o ∧ o.cls = .type "tuple" ∧ o.data = .seq its n ∧ its.size ≤ sizeLine ∧ Vals xs its.toList
/-- a tuple at an address: tracked, or the module's own -/
def TupAt (K : PySem.W.Frag) (H : Hp) (a : Addr) (xs : List V) : Prop := H a = some (.tup xs) ∨ KT K a xs
theorem TupAt.sq {K : PySem.W.Frag} {H : Hp} {a : Addr} {xs : List V} (h : TupAt K H a xs) : SqT K H a xs := by
  rcases h with h | h
  · exact .inl (.inl h)
  · exact .inr h
/-- a dict at an address, its keys ints and texts -/
def DctAt (H : Hp) (a : Addr) (ks : List Key) (vs : List V) : Prop := ks.length = vs.length ∧ H a = some (.dK (ks.zip vs))

mutual
/-- the value shows the datum, its lists and dicts outside off -/
def RZ (K : PySem.W.Frag) (off : Addr → Prop) (H : Hp) : D → V → Prop
  | .non, v => v = .non
  | .bl b, v => v = .bl b
  | .int i, v => v = .int i
  | .str s, v => v = .str s ∧ PyData.strOk s = true
  | .tup ds, v => ∃ a vs, v = .ref a ∧ TupAt K H a vs ∧ RZs K off H ds vs
  | .lst ds, v => ∃ a vs, v = .ref a ∧ ¬ off a ∧ H a = some (.lst vs) ∧ RZs K off H ds vs
  | .dct ks ds, v => ∃ a vs, v = .ref a ∧ ¬ off a ∧ DctAt H a ks vs ∧ RZs K off H ds vs
def RZs (K : PySem.W.Frag) (off : Addr → Prop) (H : Hp) : List D → List V → Prop
  | [], vs => vs = []
  | d :: ds, vs => ∃ v r, vs = v :: r ∧ RZ K off H d v ∧ RZs K off H ds r
end
mutual
/-- the value shows the datum; its lists and dicts stand at F, each once, nobody else's -/
def RO (K : PySem.W.Frag) (H : Hp) : D → V → List Addr → Prop
  | .non, v, F => v = .non ∧ F = []
  | .bl b, v, F => v = .bl b ∧ F = []
  | .int i, v, F => v = .int i ∧ F = []
  | .str s, v, F => (v = .str s ∧ PyData.strOk s = true) ∧ F = []
  | .tup ds, v, F => ∃ a vs, v = .ref a ∧ TupAt K H a vs ∧ ROs K H ds vs F
  | .lst ds, v, F => ∃ a vs G, v = .ref a ∧ F = a :: G ∧ H a = some (.lst vs) ∧ ROs K H ds vs G
  | .dct ks ds, v, F => ∃ a vs G, v = .ref a ∧ F = a :: G ∧ DctAt H a ks vs ∧ ROs K H ds vs G
def ROs (K : PySem.W.Frag) (H : Hp) : List D → List V → List Addr → Prop
  | [], vs, F => vs = [] ∧ F = []
  | d :: ds, vs, F => ∃ v r G G', vs = v :: r ∧ F = G ++ G' ∧ RO K H d v G ∧ ROs K H ds r G'
end

section
variable {K : PySem.W.Frag} {off off' : Addr → Prop} {H H' : Hp}
def TStay (H H' : Hp) : Prop := ∀ a xs, H a = some (.tup xs) → H' a = some (.tup xs)
theorem TupAt.stay {a : Addr} {xs : List V} (t : TStay H H') (h : TupAt K H a xs) : TupAt K H' a xs := by
  rcases h with h | h
  · exact .inl (t _ _ h)
  · exact .inr h
/-- what is shared stays shared -/
def Go (off : Addr → Prop) (H : Hp) (off' : Addr → Prop) (H' : Hp) : Prop := ∀ a o, ¬ off a → H a = some o → ¬ off' a ∧ H' a = some o
theorem DctAt.of {a : Addr} {ks : List Key} {vs : List V} (h : DctAt H a ks vs) (e : H' a = H a) : DctAt H' a ks vs := ⟨h.1, e.trans h.2⟩
mutual
theorem RZ.go (t : TStay H H') (g : Go off H off' H') : ∀ (d : D) (v : V), RZ K off H d v → RZ K off' H' d v
  | .non, v, h => by simpa [RZ] using h
  | .bl _, v, h => by simpa [RZ] using h
  | .int _, v, h => by simpa [RZ] using h
  | .str _, v, h => by simpa [RZ] using h
  | .tup ds, v, h => by
    unfold RZ at h ⊢
    obtain ⟨a, vs, e, q, r⟩ := h
    exact ⟨a, vs, e, q.stay t, RZs.go t g ds vs r⟩
  | .lst ds, v, h => by
    unfold RZ at h ⊢
    obtain ⟨a, vs, e, n, q, r⟩ := h
    obtain ⟨n', q'⟩ := g _ _ n q
    exact ⟨a, vs, e, n', q', RZs.go t g ds vs r⟩
  | .dct ks ds, v, h => by
    unfold RZ at h ⊢
    obtain ⟨a, vs, e, n, q, r⟩ := h
    obtain ⟨n', q'⟩ := g _ _ n q.2
    exact ⟨a, vs, e, n', ⟨q.1, q'⟩, RZs.go t g ds vs r⟩
theorem RZs.go (t : TStay H H') (g : Go off H off' H') : ∀ (ds : List D) (vs : List V), RZs K off H ds vs → RZs K off' H' ds vs
  | [], vs, h => by simpa [RZs] using h
  | d :: ds, vs, h => by
    unfold RZs at h ⊢
    obtain ⟨v, r, e, h1, h2⟩ := h
    exact ⟨v, r, e, RZ.go t g d v h1, RZs.go t g ds r h2⟩
end
mutual
theorem RO.stay (t : TStay H H') : ∀ (d : D) (v : V) (F : List Addr), RO K H d v F → (∀ a ∈ F, H' a = H a) → RO K H' d v F
  | .non, v, F, h, _ => by simpa [RO] using h
  | .bl _, v, F, h, _ => by simpa [RO] using h
  | .int _, v, F, h, _ => by simpa [RO] using h
  | .str _, v, F, h, _ => by simpa [RO] using h
  | .tup ds, v, F, h, k => by
    unfold RO at h ⊢
    obtain ⟨a, vs, e, q, r⟩ := h
    exact ⟨a, vs, e, q.stay t, ROs.stay t ds vs F r k⟩
  | .lst ds, v, F, h, k => by
    unfold RO at h ⊢
    obtain ⟨a, vs, G, e, rfl, q, r⟩ := h
    exact ⟨a, vs, G, e, rfl, (k a List.mem_cons_self).trans q, ROs.stay t ds vs G r fun b hb => k b (List.mem_cons_of_mem _ hb)⟩
  | .dct ks ds, v, F, h, k => by
    unfold RO at h ⊢
    obtain ⟨a, vs, G, e, rfl, q, r⟩ := h
    exact ⟨a, vs, G, e, rfl, q.of (k a List.mem_cons_self), ROs.stay t ds vs G r fun b hb => k b (List.mem_cons_of_mem _ hb)⟩
theorem ROs.stay (t : TStay H H') : ∀ (ds : List D) (vs : List V) (F : List Addr), ROs K H ds vs F → (∀ a ∈ F, H' a = H a) → ROs K H' ds vs F
  | [], vs, F, h, _ => by simpa [ROs] using h
  | d :: ds, vs, F, h, k => by
    unfold ROs at h ⊢
    obtain ⟨v, r, G, G', e, rfl, h1, h2⟩ := h
    exact ⟨v, r, G, G', e, rfl, RO.stay t d v G h1 fun a ha => k a (List.mem_append_left _ ha), ROs.stay t ds r G' h2 fun a ha => k a (List.mem_append_right _ ha)⟩
end
mutual
/-- what is owned may be shared -/
theorem RO.share : ∀ (d : D) (v : V) (F : List Addr), RO K H d v F → (∀ a ∈ F, ¬ off a) → RZ K off H d v
  | .non, v, F, h, _ => by unfold RO at h; unfold RZ; exact h.1
  | .bl _, v, F, h, _ => by unfold RO at h; unfold RZ; exact h.1
  | .int _, v, F, h, _ => by unfold RO at h; unfold RZ; exact h.1
  | .str _, v, F, h, _ => by unfold RO at h; unfold RZ; exact h.1
  | .tup ds, v, F, h, k => by
    unfold RO at h
    unfold RZ
    obtain ⟨a, vs, e, q, r⟩ := h
    exact ⟨a, vs, e, q, ROs.share ds vs F r k⟩
  | .lst ds, v, F, h, k => by
    unfold RO at h
    unfold RZ
    obtain ⟨a, vs, G, e, rfl, q, r⟩ := h
    exact ⟨a, vs, e, k a List.mem_cons_self, q, ROs.share ds vs G r fun b hb => k b (List.mem_cons_of_mem _ hb)⟩
  | .dct ks ds, v, F, h, k => by
    unfold RO at h
    unfold RZ
    obtain ⟨a, vs, G, e, rfl, q, r⟩ := h
    exact ⟨a, vs, e, k a List.mem_cons_self, q, ROs.share ds vs G r fun b hb => k b (List.mem_cons_of_mem _ hb)⟩
theorem ROs.share : ∀ (ds : List D) (vs : List V) (F : List Addr), ROs K H ds vs F → (∀ a ∈ F, ¬ off a) → RZs K off H ds vs
  | [], vs, F, h, _ => by unfold ROs at h; unfold RZs; exact h.1
  | d :: ds, vs, F, h, k => by
    unfold ROs at h
    unfold RZs
    obtain ⟨v, r, G, G', e, rfl, h1, h2⟩ := h
    exact ⟨v, r, e, RO.share d v G h1 fun a ha => k a (List.mem_append_left _ ha), ROs.share ds r G' h2 fun a ha => k a (List.mem_append_right _ ha)⟩
end
mutual
/-- what has no list within is nobody's -/
theorem RZ.own0 : ∀ (d : D) (v : V), RZ K off H d v → flat d = true → RO K H d v []
  | .non, v, h, _ => by unfold RZ at h; unfold RO; exact ⟨h, rfl⟩
  | .bl _, v, h, _ => by unfold RZ at h; unfold RO; exact ⟨h, rfl⟩
  | .int _, v, h, _ => by unfold RZ at h; unfold RO; exact ⟨h, rfl⟩
  | .str _, v, h, _ => by unfold RZ at h; unfold RO; exact ⟨h, rfl⟩
  | .tup ds, v, h, f => by
    unfold RZ at h
    unfold RO
    obtain ⟨a, vs, e, q, r⟩ := h
    exact ⟨a, vs, e, q, RZs.own0 ds vs r (by simpa [flat] using f)⟩
  | .lst ds, v, h, f => by simp [flat] at f
  | .dct ks ds, v, h, f => by simp [flat] at f
theorem RZs.own0 : ∀ (ds : List D) (vs : List V), RZs K off H ds vs → flats ds = true → ROs K H ds vs []
  | [], vs, h, _ => by unfold RZs at h; unfold ROs; exact ⟨h, rfl⟩
  | d :: ds, vs, h, f => by
    unfold RZs at h
    unfold ROs
    obtain ⟨v, r, e, h1, h2⟩ := h
    have f : flat d = true ∧ flats ds = true := by simpa [flats] using f
    exact ⟨v, r, [], [], e, rfl, RZ.own0 d v h1 f.1, RZs.own0 ds r h2 f.2⟩
end
mutual
theorem RO.nilF : ∀ (d : D) (v : V) (F : List Addr), RO K H d v F → flat d = true → F = []
  | .non, v, F, h, _ => by unfold RO at h; exact h.2
  | .bl _, v, F, h, _ => by unfold RO at h; exact h.2
  | .int _, v, F, h, _ => by unfold RO at h; exact h.2
  | .str _, v, F, h, _ => by unfold RO at h; exact h.2
  | .tup ds, v, F, h, f => by
    unfold RO at h
    obtain ⟨a, vs, e, q, r⟩ := h
    exact ROs.nilF ds vs F r (by simpa [flat] using f)
  | .lst ds, v, F, h, f => by simp [flat] at f
  | .dct ks ds, v, F, h, f => by simp [flat] at f
theorem ROs.nilF : ∀ (ds : List D) (vs : List V) (F : List Addr), ROs K H ds vs F → flats ds = true → F = []
  | [], vs, F, h, _ => by unfold ROs at h; exact h.2
  | d :: ds, vs, F, h, f => by
    unfold ROs at h
    obtain ⟨v, r, G, G', e, rfl, h1, h2⟩ := h
    have f : flat d = true ∧ flats ds = true := by simpa [flats] using f
    rw [RO.nilF d v G h1 f.1, ROs.nilF ds r G' h2 f.2]
    rfl
end
theorem RZ.off_flat {off2 : Addr → Prop} {d : D} {v : V} (h : RZ K off H d v) (f : flat d = true) : RZ K off2 H d v :=
  RO.share d v [] (RZ.own0 d v h f) fun _ z => nomatch z
theorem RZs.off_flat {off2 : Addr → Prop} {ds : List D} {vs : List V} (h : RZs K off H ds vs) (f : flats ds = true) : RZs K off2 H ds vs :=
  ROs.share ds vs [] (RZs.own0 ds vs h f) fun _ z => nomatch z
mutual
/-- the addresses of what is owned hold something -/
theorem RO.there : ∀ (d : D) (v : V) (F : List Addr), RO K H d v F → ∀ a ∈ F, ∃ o, H a = some o
  | .non, v, F, h, a, ha => by unfold RO at h; rw [h.2] at ha; cases ha
  | .bl _, v, F, h, a, ha => by unfold RO at h; rw [h.2] at ha; cases ha
  | .int _, v, F, h, a, ha => by unfold RO at h; rw [h.2] at ha; cases ha
  | .str _, v, F, h, a, ha => by unfold RO at h; rw [h.2] at ha; cases ha
  | .tup ds, v, F, h, a, ha => by
    unfold RO at h
    obtain ⟨_, vs, e, q, r⟩ := h
    exact ROs.there ds vs F r a ha
  | .lst ds, v, F, h, a, ha => by
    unfold RO at h
    obtain ⟨b, vs, G, e, rfl, q, r⟩ := h
    rcases List.mem_cons.mp ha with rfl | ha
    · exact ⟨_, q⟩
    · exact ROs.there ds vs G r a ha
  | .dct ks ds, v, F, h, a, ha => by
    unfold RO at h
    obtain ⟨b, vs, G, e, rfl, q, r⟩ := h
    rcases List.mem_cons.mp ha with rfl | ha
    · exact ⟨_, q.2⟩
    · exact ROs.there ds vs G r a ha
theorem ROs.there : ∀ (ds : List D) (vs : List V) (F : List Addr), ROs K H ds vs F → ∀ a ∈ F, ∃ o, H a = some o
  | [], vs, F, h, a, ha => by unfold ROs at h; rw [h.2] at ha; cases ha
  | d :: ds, vs, F, h, a, ha => by
    unfold ROs at h
    obtain ⟨v, r, G, G', e, rfl, h1, h2⟩ := h
    rcases List.mem_append.mp ha with ha | ha
    · exact RO.there d v G h1 a ha
    · exact ROs.there ds r G' h2 a ha
end
theorem RZs.length : ∀ {ds : List D} {vs : List V}, RZs K off H ds vs → vs.length = ds.length
  | [], vs, h => by unfold RZs at h; rw [h]; rfl
  | d :: ds, vs, h => by
    unfold RZs at h
    obtain ⟨v, r, rfl, _, h2⟩ := h
    rw [List.length_cons, List.length_cons, RZs.length h2]
theorem RZs.get : ∀ {ds : List D} {vs : List V} {i : Nat} {d : D}, RZs K off H ds vs → ds[i]? = some d → ∃ v, vs[i]? = some v ∧ RZ K off H d v
  | [], vs, i, d, h, e => by simp at e
  | d' :: ds, vs, 0, d, h, e => by
    unfold RZs at h
    obtain ⟨v, r, rfl, h1, _⟩ := h
    simp at e
    subst e
    exact ⟨v, rfl, h1⟩
  | d' :: ds, vs, i + 1, d, h, e => by
    unfold RZs at h
    obtain ⟨v, r, rfl, _, h2⟩ := h
    simp at e
    simpa using RZs.get h2 e
theorem RZs.append : ∀ {ds es : List D} {vs ws : List V}, RZs K off H ds vs → RZs K off H es ws → RZs K off H (ds ++ es) (vs ++ ws)
  | [], es, vs, ws, h, k => by unfold RZs at h; rw [h]; exact k
  | d :: ds, es, vs, ws, h, k => by
    unfold RZs at h
    obtain ⟨v, r, rfl, h1, h2⟩ := h
    show RZs K off H (d :: (ds ++ es)) (v :: (r ++ ws))
    unfold RZs
    exact ⟨v, _, rfl, h1, RZs.append h2 k⟩
theorem RZs.take : ∀ {ds : List D} {vs : List V} (n : Nat), RZs K off H ds vs → RZs K off H (ds.take n) (vs.take n)
  | _, _, 0, h => by simp [RZs]
  | [], vs, n + 1, h => by unfold RZs at h; rw [h]; simp [RZs]
  | d :: ds, vs, n + 1, h => by
    unfold RZs at h
    obtain ⟨v, r, rfl, h1, h2⟩ := h
    show RZs K off H (d :: ds.take n) (v :: r.take n)
    unfold RZs
    exact ⟨v, _, rfl, h1, RZs.take n h2⟩
theorem RZs.drop : ∀ {ds : List D} {vs : List V} (n : Nat), RZs K off H ds vs → RZs K off H (ds.drop n) (vs.drop n)
  | _, _, 0, h => h
  | [], vs, n + 1, h => by unfold RZs at h; rw [h]; simp [RZs]
  | d :: ds, vs, n + 1, h => by
    unfold RZs at h
    obtain ⟨v, r, rfl, h1, h2⟩ := h
    exact RZs.drop n h2
theorem RZs.cons {d : D} {ds : List D} {v : V} {vs : List V} (h : RZ K off H d v) (k : RZs K off H ds vs) : RZs K off H (d :: ds) (v :: vs) := by
  unfold RZs
  exact ⟨v, vs, rfl, h, k⟩
theorem RZs.nil : RZs K off H [] [] := by unfold RZs; rfl
mutual
/-- as the library's own data -/
theorem RZ.dp : ∀ (d : D) (v : V), RZ K off H d v → nod d = true → Dp K H v (toP d)
  | .non, v, h, _ => by unfold RZ at h; rw [h]; exact .non
  | .bl _, v, h, _ => by unfold RZ at h; rw [h]; exact .bl _
  | .int _, v, h, _ => by unfold RZ at h; rw [h]; exact .int _
  | .str _, v, h, _ => by unfold RZ at h; rw [h.1]; exact .str _
  | .tup ds, v, h, f => by
    unfold RZ at h
    obtain ⟨a, vs, rfl, q, r⟩ := h
    exact .tup q.sq (RZs.dp ds vs r (by simpa [nod] using f))
  | .lst ds, v, h, f => by
    unfold RZ at h
    obtain ⟨a, vs, rfl, _, q, r⟩ := h
    exact .lst (.of q) (RZs.dp ds vs r (by simpa [nod] using f))
  | .dct ks ds, v, h, f => by simp [nod] at f
theorem RZs.dp : ∀ (ds : List D) (vs : List V), RZs K off H ds vs → nods ds = true → DpAll K H vs (toPs ds)
  | [], vs, h, _ => by unfold RZs at h; rw [h]; exact .nil
  | d :: ds, vs, h, f => by
    unfold RZs at h
    obtain ⟨v, r, rfl, h1, h2⟩ := h
    have f : nod d = true ∧ nods ds = true := by simpa [nods] using f
    exact .cons (RZ.dp d v h1 f.1) (RZs.dp ds r h2 f.2)
end
mutual
theorem RZ.lay : ∀ (d : D) (v : V), RZ K off H d v → nod d = true → (toP d).canLay0 = true
  | .non, v, h, _ => by simp [toP, PyData.canLay0]
  | .bl _, v, h, _ => by simp [toP, PyData.canLay0]
  | .int _, v, h, _ => by simp [toP, PyData.canLay0]
  | .str _, v, h, _ => by unfold RZ at h; simpa [toP, PyData.canLay0] using h.2
  | .tup ds, v, h, f => by
    unfold RZ at h
    obtain ⟨a, vs, rfl, q, r⟩ := h
    simpa [toP, PyData.canLay0] using RZs.lay ds vs r (by simpa [nod] using f)
  | .lst ds, v, h, f => by
    unfold RZ at h
    obtain ⟨a, vs, rfl, _, q, r⟩ := h
    simpa [toP, PyData.canLay0] using RZs.lay ds vs r (by simpa [nod] using f)
  | .dct ks ds, v, h, f => by simp [nod] at f
theorem RZs.lay : ∀ (ds : List D) (vs : List V), RZs K off H ds vs → nods ds = true → PyData.canLayAll0 (toPs ds) = true
  | [], vs, h, _ => by simp [toPs, PyData.canLayAll0]
  | d :: ds, vs, h, f => by
    unfold RZs at h
    obtain ⟨v, r, rfl, h1, h2⟩ := h
    have f : nod d = true ∧ nods ds = true := by simpa [nods] using f
    simp [toPs, PyData.canLayAll0, RZ.lay d v h1 f.1, RZs.lay ds r h2 f.2]
end
mutual
theorem dep_toP : ∀ d : D, (toP d).depth ≤ dep d ∨ nod d = false
  | .non => by simp [toP, PyData.depth]
  | .bl _ => by simp [toP, PyData.depth]
  | .int _ => by simp [toP, PyData.depth]
  | .str _ => by simp [toP, PyData.depth]
  | .tup ds => by
    rcases deps_toPs ds with h | h
    · left; simp only [toP, PyData.depth, dep]; omega
    · right; simpa [nod] using h
  | .lst ds => by
    rcases deps_toPs ds with h | h
    · left; simp only [toP, PyData.depth, dep]; omega
    · right; simpa [nod] using h
  | .dct _ _ => by simp [nod]
theorem deps_toPs : ∀ ds : List D, PyData.depthAll (toPs ds) ≤ deps ds ∨ nods ds = false
  | [] => by simp [toPs, PyData.depthAll]
  | d :: ds => by
    rcases dep_toP d with h | h
    · rcases deps_toPs ds with k | k
      · left; simp only [toPs, PyData.depthAll, deps]; omega
      · right; simp [nods, k]
    · right; simp [nods, h]
end
end
end T
/-! T2: slots, what a frame holds, and what may be done to it. -/
namespace T
open PySem PySem.Spec L2

/-- a slot: nothing known; shared; owned; the script (read only); another name's (an index of the frame); a list owned whose items are shared; owned, taken out of a name for a while -/
inductive Sl where
  | none | fz (d : D) | ow (d : D) | rd (ns : List Int) | bw (i : Nat) | so (ds : List D) | mv (i : Nat) (d : D)
abbrev En := List Sl

def KL (K : PySem.W.Frag) (a : Addr) (xs : List V) : Prop :=
  ∃ (o : Obj) (its : Array Value) (n : Nat), K.lookup a = some o ∧ o.cls = .type "list" ∧ o.dict = none ∧ o.data = .seq its n ∧ its.size ≤ sizeLine ∧ Vals xs its.toList
/-- the script: read, never written -/
def RdAt (K : PySem.W.Frag) (off : Addr → Prop) (H : Hp) (a : Addr) (xs : List V) : Prop := (¬ off a ∧ Rd H a (.lst xs)) ∨ KL K a xs
theorem RdAt.sq {K : PySem.W.Frag} {off : Addr → Prop} {H : Hp} {a : Addr} {xs : List V} (h : RdAt K off H a xs) : SqL K H a xs := by
  rcases h with ⟨_, h⟩ | h
  · exact .inl h
  · exact .inr h
theorem RdAt.of {K : PySem.W.Frag} {H : Hp} {a : Addr} {xs : List V} (h : SqL K H a xs) : RdAt K (fun _ => False) H a xs := by
  rcases h with h | h
  · exact .inl ⟨fun z => z, h⟩
  · exact .inr h
def RS (K : PySem.W.Frag) (off : Addr → Prop) (H : Hp) (σ : L2.St) : Sl → Option V → List Addr → Prop
  | .none, _, F => F = []
  | .fz d, x, F => F = [] ∧ ∃ v, x = some v ∧ RZ K off H d v
  | .ow d, x, F => ∃ v, x = some v ∧ RO K H d v F
  | .rd ns, x, F => F = [] ∧ ∃ a, x = some (.ref a) ∧ RdAt K off H a (ns.map V.int)
  | .bw i, x, F => F = [] ∧ ∃ v, x = some v ∧ σ[i]? = some (some v)
  | .so ds, x, F => ∃ a ws, x = some (.ref a) ∧ F = [a] ∧ H a = some (.lst ws) ∧ RZs K off H ds ws
  | .mv i d, x, F => ∃ v, x = some v ∧ RO K H d v F ∧ σ[i]? = some (some v)
def RL (K : PySem.W.Frag) (off : Addr → Prop) (H : Hp) (σ : L2.St) : List Sl → List (Option V) → List Addr → Prop
  | [], xs, F => xs = [] ∧ F = []
  | s :: ss, xs, F => ∃ x r G G', xs = x :: r ∧ F = G ++ G' ∧ RS K off H σ s x G ∧ RL K off H σ ss r G'
def offs (off0 : Addr → Prop) (F : List Addr) : Addr → Prop := fun a => off0 a ∨ a ∈ F
def nb1 : Sl → Bool
  | .bw _ => false
  | .mv _ _ => false
  | _ => true
def nb (ss : List Sl) : Prop := ∀ s ∈ ss, nb1 s = true

section
variable {K : PySem.W.Frag} {off off' off0 : Addr → Prop} {H H' Hb : Hp} {σ σ' : L2.St}
theorem TStay.refl : TStay H H := fun _ _ h => h
theorem RdAt.go {a : Addr} {xs : List V} (h : RdAt K off H a xs) (g : Go off H off' H') : RdAt K off' H' a xs := by
  rcases h with ⟨n, r | ⟨o, r⟩⟩ | h
  · obtain ⟨n', r'⟩ := g _ _ n r; exact .inl ⟨n', .inl r'⟩
  · obtain ⟨n', r'⟩ := g _ _ n r; exact .inl ⟨n', .inr ⟨o, r'⟩⟩
  · exact .inr h
theorem RS.tr {s : Sl} {x : Option V} {F : List Addr} (h : RS K off H σ s x F) (t : TStay H H') (g : Go off H off' H') (k : ∀ a ∈ F, H' a = H a) : RS K off' H' σ s x F := by
  cases s with
  | none => exact h
  | fz d => obtain ⟨e, v, e2, r⟩ := h; exact ⟨e, v, e2, RZ.go t g d v r⟩
  | ow d => obtain ⟨v, e2, r⟩ := h; exact ⟨v, e2, RO.stay t d v F r k⟩
  | rd ns => obtain ⟨e, a, e2, r⟩ := h; exact ⟨e, a, e2, r.go g⟩
  | bw i => exact h
  | so ds => obtain ⟨a, ws, e1, rfl, e2, r⟩ := h; exact ⟨a, ws, e1, rfl, (k a (List.mem_singleton.mpr rfl)).trans e2, RZs.go t g ds ws r⟩
  | mv i d => obtain ⟨v, e2, r, e3⟩ := h; exact ⟨v, e2, RO.stay t d v F r k, e3⟩
theorem RL.tr : ∀ {ss : List Sl} {xs : List (Option V)} {F : List Addr}, RL K off H σ ss xs F → TStay H H' → Go off H off' H' → (∀ a ∈ F, H' a = H a) → RL K off' H' σ ss xs F
  | [], xs, F, h, _, _, _ => h
  | s :: ss, xs, F, h, t, g, k => by
    obtain ⟨x, r, G, G', e, rfl, h1, h2⟩ := h
    exact ⟨x, r, G, G', e, rfl, h1.tr t g fun a ha => k a (List.mem_append_left _ ha), RL.tr h2 t g fun a ha => k a (List.mem_append_right _ ha)⟩
theorem RS.there {s : Sl} {x : Option V} {F : List Addr} (h : RS K off H σ s x F) : ∀ a ∈ F, ∃ o, H a = some o := by
  intro a ha
  cases s with
  | none => have e : F = [] := h; rw [e] at ha; cases ha
  | fz d => rw [h.1] at ha; cases ha
  | ow d => obtain ⟨v, e2, r⟩ := h; exact RO.there d v F r a ha
  | rd ns => rw [h.1] at ha; cases ha
  | bw i => rw [h.1] at ha; cases ha
  | so ds => obtain ⟨b, ws, e1, rfl, e2, r⟩ := h; rw [List.mem_singleton.mp ha]; exact ⟨_, e2⟩
  | mv i d => obtain ⟨v, e2, r, _⟩ := h; exact RO.there d v F r a ha
theorem RL.there : ∀ {ss : List Sl} {xs : List (Option V)} {F : List Addr}, RL K off H σ ss xs F → ∀ a ∈ F, ∃ o, H a = some o
  | [], xs, F, h, a, ha => by rw [h.2] at ha; cases ha
  | s :: ss, xs, F, h, a, ha => by
    obtain ⟨x, r, G, G', e, rfl, h1, h2⟩ := h
    rcases List.mem_append.mp ha with ha | ha
    · exact h1.there a ha
    · exact RL.there h2 a ha
theorem RS.sig {s : Sl} {x : Option V} {F : List Addr} (h : RS K off H σ s x F) (n : nb1 s = true) : RS K off H σ' s x F := by
  cases s with
  | bw i => cases n
  | mv i d => cases n
  | none => exact h
  | fz d => exact h
  | ow d => exact h
  | rd ns => exact h
  | so ds => exact h
theorem RL.sig : ∀ {ss : List Sl} {xs : List (Option V)} {F : List Addr}, RL K off H σ ss xs F → nb ss → RL K off H σ' ss xs F
  | [], xs, F, h, _ => h
  | s :: ss, xs, F, h, n => by
    obtain ⟨x, r, G, G', e, e2, h1, h2⟩ := h
    exact ⟨x, r, G, G', e, e2, h1.sig (n s List.mem_cons_self), RL.sig h2 fun s hs => n s (List.mem_cons_of_mem _ hs)⟩
theorem RL.length : ∀ {ss : List Sl} {xs : List (Option V)} {F : List Addr}, RL K off H σ ss xs F → xs.length = ss.length
  | [], xs, F, h => by rw [h.1]; rfl
  | s :: ss, xs, F, h => by
    obtain ⟨x, r, G, G', rfl, e2, h1, h2⟩ := h
    rw [List.length_cons, List.length_cons, RL.length h2]
theorem RL.split : ∀ {ss ss' : List Sl} {xs : List (Option V)} {F : List Addr}, RL K off H σ (ss ++ ss') xs F → ∃ ys zs G G', xs = ys ++ zs ∧ F = G ++ G' ∧ RL K off H σ ss ys G ∧ RL K off H σ ss' zs G'
  | [], ss', xs, F, h => ⟨[], xs, [], F, rfl, rfl, ⟨rfl, rfl⟩, h⟩
  | s :: ss, ss', xs, F, h => by
    obtain ⟨x, r, G, G', rfl, rfl, h1, h2⟩ := h
    obtain ⟨ys, zs, J, J', rfl, rfl, k1, k2⟩ := RL.split h2
    exact ⟨x :: ys, zs, G ++ J, J', rfl, (List.append_assoc ..).symm, ⟨x, ys, G, J, rfl, rfl, h1, k1⟩, k2⟩
theorem RL.join : ∀ {ss ss' : List Sl} {ys zs : List (Option V)} {G G' : List Addr}, RL K off H σ ss ys G → RL K off H σ ss' zs G' → RL K off H σ (ss ++ ss') (ys ++ zs) (G ++ G')
  | [], ss', ys, zs, G, G', h, k => by rw [h.1, h.2]; exact k
  | s :: ss, ss', ys, zs, G, G', h, k => by
    obtain ⟨x, r, J, J', rfl, rfl, h1, h2⟩ := h
    exact ⟨x, r ++ zs, J, J' ++ G', rfl, List.append_assoc .., h1, RL.join h2 k⟩
/-- one slot in view, the others told what becomes of them -/
theorem RL.focus : ∀ {ss : List Sl} {xs : List (Option V)} {F : List Addr} {i : Nat} {s : Sl}, RL K off H σ ss xs F → ss[i]? = some s →
    ∃ x G R, xs[i]? = some x ∧ RS K off H σ s x G ∧ F.Perm (G ++ R) ∧ ∀ (off' : Addr → Prop) (H' : Hp) (s' : Sl) (x' : Option V) (G' : List Addr), RS K off' H' σ s' x' G' → TStay H H' → Go off H off' H' → (∀ a ∈ R, H' a = H a) →
      ∃ F', RL K off' H' σ (ss.set i s') (xs.set i x') F' ∧ F'.Perm (G' ++ R)
  | [], xs, F, i, s, h, e => by simp at e
  | s₀ :: ss, xs, F, 0, s, h, e => by
    obtain ⟨x, r, G, G', rfl, rfl, h1, h2⟩ := h
    simp at e
    subst e
    exact ⟨x, G, G', rfl, h1, .refl _, fun off' H' s' x' J q t g k => ⟨J ++ G', ⟨x', r, J, G', rfl, rfl, q, h2.tr t g k⟩, .refl _⟩⟩
  | s₀ :: ss, xs, F, i + 1, s, h, e => by
    obtain ⟨x, r, G, G', rfl, rfl, h1, h2⟩ := h
    simp at e
    obtain ⟨y, J, R, ey, hy, pm, fin⟩ := RL.focus h2 e
    refine ⟨y, J, G ++ R, by simpa using ey, hy, ?_, fun off' H' s' x' J' q t g k => ?_⟩
    · exact ((pm.append_left G).trans (by rw [← List.append_assoc, ← List.append_assoc]; exact (List.perm_append_comm (l₁ := G) (l₂ := J)).append_right R))
    · obtain ⟨F', q', pm'⟩ := fin off' H' s' x' J' q t g fun a ha => k a (List.mem_append_right _ ha)
      refine ⟨G ++ F', ⟨x, r.set i x', G, F', by simp, rfl, h1.tr t g fun a ha => k a (List.mem_append_left _ ha), q'⟩, ?_⟩
      exact ((pm'.append_left G).trans (by rw [← List.append_assoc, ← List.append_assoc]; exact (List.perm_append_comm (l₁ := G) (l₂ := J')).append_right R))

/-- what a frame and the values in hand show: off0 the callers' own, Hb the heap at the entry -/
structure Rep (K : PySem.W.Frag) (off0 : Addr → Prop) (Hb H : Hp) (ts : List Sl) (tv : List V) (en : En) (σ : L2.St) : Prop where
  ex : ∃ F, RL K (offs off0 F) H σ (ts ++ en) (tv.map some ++ σ) F ∧ F.Nodup ∧ ∀ a ∈ F, Hb a = none
  out : ∀ a, off0 a → ∃ o, Hb a = some o
  base : Same Hb H
  len : tv.length = ts.length
  nbe : nb en

theorem goOff {F F' : List Addr} (h : ∀ a ∈ F', a ∈ F) : Go (offs off0 F) H (offs off0 F') H := fun a o n e => ⟨fun z => n (z.imp (fun q => q) (h a)), e⟩
variable {ts : List Sl} {tv : List V} {en : En} {s : Sl} {v : V}
theorem Rep.elen (R : Rep K off0 Hb H ts tv en σ) : σ.length = en.length := by
  obtain ⟨F, h, _⟩ := R.ex
  have e := h.length
  have e2 := R.len
  simp only [List.length_append, List.length_map] at e
  omega
/-- a value dropped -/
theorem Rep.drop (R : Rep K off0 Hb H (s :: ts) (v :: tv) en σ) : Rep K off0 Hb H ts tv en σ := by
  obtain ⟨F, ⟨x, r, G, G', e, rfl, h1, h2⟩, nd, fr⟩ := R.ex
  obtain ⟨rfl, rfl⟩ : some v = x ∧ tv.map some ++ σ = r := by simpa using e
  exact ⟨⟨G', h2.tr .refl (goOff fun a ha => List.mem_append_right _ ha) fun _ _ => rfl, (List.nodup_append.mp nd).2.1, fun a ha => fr a (List.mem_append_right _ ha)⟩, R.out, R.base, by simpa using R.len, R.nbe⟩
/-- a value with nothing owned in it -/
theorem Rep.push (R : Rep K off0 Hb H ts tv en σ) (h : ∀ F, (∀ a ∈ F, Hb a = none) → (∀ a ∈ F, ∃ o, H a = some o) → RS K (offs off0 F) H σ s (some v) []) : Rep K off0 Hb H (s :: ts) (v :: tv) en σ := by
  obtain ⟨F, q, nd, fr⟩ := R.ex
  exact ⟨⟨F, ⟨some v, tv.map some ++ σ, [], F, rfl, rfl, h F fr q.there, q⟩, nd, fr⟩, R.out, R.base, by simp [R.len], R.nbe⟩
theorem Rep.const {d : D} (R : Rep K off0 Hb H ts tv en σ) (f : flat d = true) (h : RZ K off H d v) : Rep K off0 Hb H (.fz d :: ts) (v :: tv) en σ :=
  R.push fun F _ _ => ⟨rfl, v, rfl, h.off_flat f⟩
theorem get_env {i : Nat} {x : Option V} : (tv.map some ++ σ)[tv.length + i]? = σ[i]? := by
  rw [List.getElem?_append_right (by simp)]
  simp
theorem get_ts {i : Nat} : (ts ++ en)[ts.length + i]? = en[i]? := by
  rw [List.getElem?_append_right (by simp)]
  simp
theorem set_env {i : Nat} {x : Option V} : (tv.map some ++ σ).set (tv.length + i) x = tv.map some ++ σ.set i x := by
  rw [List.set_append_right _ _ (by simp)]
  simp
theorem set_ts {i : Nat} {s' : Sl} : (ts ++ en).set (ts.length + i) s' = ts ++ en.set i s' := by
  rw [List.set_append_right _ _ (by simp)]
  simp
/-- a name that is shared or the script -/
theorem Rep.copy {i : Nat} (R : Rep K off0 Hb H ts tv en σ) (e : en[i]? = some s) (c : (∃ d, s = .fz d) ∨ ∃ ns, s = .rd ns) : ∃ v, σ[i]? = some (some v) ∧ Rep K off0 Hb H (s :: ts) (v :: tv) en σ := by
  obtain ⟨F, q, nd, fr⟩ := R.ex
  obtain ⟨x, G, Q, ex, hs, pm, _⟩ := q.focus (i := ts.length + i) (s := s) (by rw [get_ts]; exact e)
  rw [← R.len, get_env (x := x)] at ex
  have key : ∃ v, x = some v ∧ RS K (offs off0 F) H σ s (some v) [] := by
    rcases c with ⟨d, rfl⟩ | ⟨ns, rfl⟩
    · obtain ⟨_, v, e2, r⟩ := hs; exact ⟨v, e2, rfl, v, rfl, r⟩
    · obtain ⟨_, a, e2, r⟩ := hs; exact ⟨.ref a, e2, rfl, a, rfl, r⟩
  obtain ⟨v, rfl, hv⟩ := key
  exact ⟨v, ex, ⟨F, ⟨some v, tv.map some ++ σ, [], F, rfl, rfl, hv, q⟩, nd, fr⟩, R.out, R.base, by simp [R.len], R.nbe⟩
theorem Rep.borrow {i : Nat} (R : Rep K off0 Hb H ts tv en σ) (e : en[i]? = some s) (c : (∃ d, s = .ow d) ∨ ∃ ds, s = .so ds) : ∃ v, σ[i]? = some (some v) ∧ Rep K off0 Hb H (.bw i :: ts) (v :: tv) en σ := by
  obtain ⟨F, q, nd, fr⟩ := R.ex
  obtain ⟨x, G, Q, ex, hs, pm, _⟩ := q.focus (i := ts.length + i) (s := s) (by rw [get_ts]; exact e)
  have key : ∃ v, x = some v := by
    rcases c with ⟨d, rfl⟩ | ⟨ds, rfl⟩
    · obtain ⟨v, e, _⟩ := hs; exact ⟨v, e⟩
    · obtain ⟨a, ws, e, _⟩ := hs; exact ⟨_, e⟩
  obtain ⟨v, rfl⟩ := key
  rw [← R.len, get_env (x := some v)] at ex
  exact ⟨v, ex, R.push fun F _ _ => ⟨rfl, v, rfl, ex⟩⟩
/-- what a value in hand is -/
def dref (en : En) : Sl → Option D
  | .fz d => some d
  | .ow d => some d
  | .bw i => match en[i]? with
    | some (.ow d) => some d
    | some (.so ds) => some (.lst ds)
    | _ => none
  | .rd _ => none
  | .none => none
  | .so _ => none
  | .mv _ _ => none
/-- it may be read -/
theorem Rep.read {d : D} (R : Rep K off0 Hb H (s :: ts) (v :: tv) en σ) (e : dref en s = some d) : RZ K (fun _ => False) H d v := by
  obtain ⟨F, ⟨x, r, G, G', e1, rfl, h1, h2⟩, nd, fr⟩ := R.ex
  obtain ⟨rfl, rfl⟩ : some v = x ∧ tv.map some ++ σ = r := by simpa using e1
  have wk : Go (offs off0 (G ++ G')) H (fun _ => False) H := fun a o n e => ⟨fun z => z, e⟩
  cases s with
  | none => simp [dref] at e
  | rd ns => simp [dref] at e
  | so ns => simp [dref] at e
  | mv _ _ => simp [dref] at e
  | fz d' =>
    obtain ⟨_, v', e2, q⟩ := h1
    cases e2
    have e : d' = d := by simpa [dref] using e
    subst e
    exact RZ.go .refl wk _ _ q
  | ow d' =>
    obtain ⟨v', e2, q⟩ := h1
    cases e2
    have e : d' = d := by simpa [dref] using e
    subst e
    exact RO.share _ _ _ q fun _ _ z => z
  | bw i =>
    obtain ⟨_, v', e2, q⟩ := h1
    cases e2
    cases he : en[i]? with
    | none => simp [dref, he] at e
    | some s' =>
      cases s' with
      | ow d' =>
        have e : d' = d := by simpa [dref, he] using e
        subst e
        have h2 : RL K (offs off0 (G ++ G')) H σ (ts ++ en) (List.map some tv ++ σ) G' := h2
        obtain ⟨x, J, Q, ex, ⟨w, rfl, hs⟩, pm, _⟩ := h2.focus (i := ts.length + i) (s := .ow d') (by rw [get_ts]; exact he)
        have el : tv.length = ts.length := by simpa using R.len
        rw [← el, get_env (x := some w), q] at ex
        cases ex
        exact RO.share _ _ _ hs fun _ _ z => z
      | so ds =>
        have e : D.lst ds = d := by simpa [dref, he] using e
        subst e
        have h2 : RL K (offs off0 (G ++ G')) H σ (ts ++ en) (List.map some tv ++ σ) G' := h2
        obtain ⟨x, J, Q, ex, ⟨a, ws, rfl, rfl, ha, hs⟩, pm, _⟩ := h2.focus (i := ts.length + i) (s := .so ds) (by rw [get_ts]; exact he)
        have el : tv.length = ts.length := by simpa using R.len
        rw [← el, get_env (x := some (.ref a)), q] at ex
        cases ex
        unfold RZ
        exact ⟨a, ws, rfl, fun z => z, ha, RZs.go .refl wk _ _ hs⟩
      | none => simp [dref, he] at e
      | fz d' => simp [dref, he] at e
      | rd d' => simp [dref, he] at e
      | bw d' => simp [dref, he] at e
      | mv _ _ => simp [dref, he] at e
/-- a heap that keeps all that is tracked -/
theorem sameT (h : Same H H') : TStay H H' := fun a xs e => h a _ e
theorem Rep.same (R : Rep K off0 Hb H ts tv en σ) (h : Same H H') : Rep K off0 Hb H' ts tv en σ := by
  obtain ⟨F, q, nd, fr⟩ := R.ex
  refine ⟨⟨F, q.tr (sameT h) (fun a o n e => ⟨n, h a o e⟩) (fun a ha => ?_), nd, fr⟩, R.out, R.base.trans h, R.len, R.nbe⟩
  obtain ⟨o, e⟩ := q.there a ha
  rw [e]
  exact h a o e
theorem same_new {p : Addr} {o : HO} (h : H p = none) : Same H (upd H p o) := fun b x e => by
  rw [upd_ne (ne_of_none e h)]
  exact e
/-- a new thing, owned, behind a step that keeps all that was tracked -/
theorem Rep.pushO {d : D} {J : List Addr} (R : Rep K off0 Hb H ts tv en σ) (sm : Same H H') (h : RO K H' d v J) (nd : J.Nodup) (fr : ∀ a ∈ J, H a = none) : Rep K off0 Hb H' (.ow d :: ts) (v :: tv) en σ := by
  obtain ⟨F, q, nd', fr'⟩ := R.ex
  have dj : ∀ a o, H a = some o → a ∉ J := fun a o e z => by rw [fr a z] at e; cases e
  refine ⟨⟨J ++ F, ⟨some v, tv.map some ++ σ, J, F, rfl, rfl, ⟨v, rfl, h⟩, q.tr (sameT sm) (fun a o n e => ⟨fun z => ?_, sm a o e⟩) fun a ha => ?_⟩, ?_, fun a ha => ?_⟩, R.out, R.base.trans sm, by simp [R.len], R.nbe⟩
  · rcases z with z | z
    · exact n (.inl z)
    · rcases List.mem_append.mp z with z | z
      · exact dj a o e z
      · exact n (.inr z)
  · obtain ⟨o, e⟩ := q.there a ha
    rw [e]
    exact sm a o e
  · refine List.nodup_append.mpr ⟨nd, nd', fun a ha b hb z => ?_⟩
    subst z
    obtain ⟨o, e⟩ := q.there a hb
    exact dj a o e ha
  · rcases List.mem_append.mp ha with ha | ha
    · exact R.base.free (fr a ha)
    · exact fr' a ha
/-- a new thing that is shared -/
theorem Rep.pushZ {d : D} (R : Rep K off0 Hb H ts tv en σ) (sm : Same H H') (h : ∀ off, (∀ a, off a → ∃ o, H a = some o) → RZ K off H' d v) : Rep K off0 Hb H' (.fz d :: ts) (v :: tv) en σ := by
  have R' := R.same sm
  obtain ⟨F, q, nd', fr'⟩ := R.ex
  obtain ⟨F2, q2, nd2, fr2⟩ := R'.ex
  refine ⟨⟨F, ⟨some v, tv.map some ++ σ, [], F, rfl, rfl, ⟨rfl, v, rfl, h _ fun a z => ?_⟩, q.tr (sameT sm) (fun a o n e => ⟨n, sm a o e⟩) fun a ha => ?_⟩, nd', fr'⟩, R.out, R'.base, by simp [R.len], R.nbe⟩
  · rcases z with z | z
    · obtain ⟨o, e⟩ := R.out a z
      exact ⟨o, R.base a o e⟩
    · exact q.there a z
  · obtain ⟨o, e⟩ := q.there a ha
    rw [e]
    exact sm a o e

/-! ### values gathered -/
/-- what may be owned -/
def own1 : Sl → Option D
  | .ow d => some d
  | .fz d => if flat d then some d else none
  | _ => none
def own : List Sl → Option (List D)
  | [] => some []
  | s :: ss => match own1 s, own ss with
    | some d, some ds => some (d :: ds)
    | _, _ => none
/-- what may be shared -/
def shr1 : Sl → Option D
  | .ow d => some d
  | .fz d => some d
  | _ => none
def shr : List Sl → Option (List D)
  | [] => some []
  | s :: ss => match shr1 s, shr ss with
    | some d, some ds => some (d :: ds)
    | _, _ => none
theorem own1_ro {d : D} {x : Option V} {F : List Addr} (h : RS K off H σ s x F) (e : own1 s = some d) : ∃ v, x = some v ∧ RO K H d v F := by
  cases s with
  | ow d' =>
    have e : d' = d := by simpa [own1] using e
    subst e
    exact h
  | fz d' =>
    have e : flat d' = true ∧ d' = d := by simpa [own1] using e
    obtain ⟨f, rfl⟩ := e
    obtain ⟨rfl, v, e2, q⟩ := h
    exact ⟨v, e2, RZ.own0 _ _ q f⟩
  | _ => simp [own1] at e
theorem own_ros : ∀ {ss : List Sl} {ds : List D} {xs : List (Option V)} {F : List Addr}, RL K off H σ ss xs F → own ss = some ds → ∃ vs, xs = vs.map some ∧ ROs K H ds vs F
  | [], ds, xs, F, h, e => by
    have e : ds = [] := by simpa [own] using e.symm
    subst e
    exact ⟨[], h.1, by unfold ROs; exact ⟨rfl, h.2⟩⟩
  | s :: ss, ds, xs, F, h, e => by
    obtain ⟨x, r, G, G', rfl, rfl, h1, h2⟩ := h
    unfold own at e
    cases e1 : own1 s with
    | none => simp [e1] at e
    | some d =>
      cases e2 : own ss with
      | none => simp [e1, e2] at e
      | some ds' =>
        have e : ds = d :: ds' := by simpa [e1, e2] using e.symm
        subst e
        obtain ⟨v, rfl, q1⟩ := own1_ro h1 e1
        obtain ⟨vs, rfl, q2⟩ := own_ros h2 e2
        refine ⟨v :: vs, rfl, ?_⟩
        unfold ROs
        exact ⟨v, vs, G, G', rfl, rfl, q1, q2⟩
theorem shr1_rz {d : D} {x : Option V} {F : List Addr} (h : RS K off H σ s x F) (e : shr1 s = some d) (g : Go off H off' H) (k : ∀ a ∈ F, ¬ off' a) : ∃ v, x = some v ∧ RZ K off' H d v := by
  cases s with
  | ow d' =>
    have e : d' = d := by simpa [shr1] using e
    subst e
    obtain ⟨v, e2, q⟩ := h
    exact ⟨v, e2, RO.share _ _ _ q k⟩
  | fz d' =>
    have e : d' = d := by simpa [shr1] using e
    subst e
    obtain ⟨rfl, v, e2, q⟩ := h
    exact ⟨v, e2, RZ.go .refl g _ _ q⟩
  | _ => simp [shr1] at e
theorem shr_rzs : ∀ {ss : List Sl} {ds : List D} {xs : List (Option V)} {F : List Addr}, RL K off H σ ss xs F → shr ss = some ds → Go off H off' H → (∀ a ∈ F, ¬ off' a) → ∃ vs, xs = vs.map some ∧ RZs K off' H ds vs
  | [], ds, xs, F, h, e, _, _ => by
    have e : ds = [] := by simpa [shr] using e.symm
    subst e
    exact ⟨[], h.1, by unfold RZs; rfl⟩
  | s :: ss, ds, xs, F, h, e, g, k => by
    obtain ⟨x, r, G, G', rfl, rfl, h1, h2⟩ := h
    unfold shr at e
    cases e1 : shr1 s with
    | none => simp [e1] at e
    | some d =>
      cases e2 : shr ss with
      | none => simp [e1, e2] at e
      | some ds' =>
        have e : ds = d :: ds' := by simpa [e1, e2] using e.symm
        subst e
        obtain ⟨v, rfl, q1⟩ := shr1_rz h1 e1 g fun a ha => k a (List.mem_append_left _ ha)
        obtain ⟨vs, rfl, q2⟩ := shr_rzs h2 e2 g fun a ha => k a (List.mem_append_right _ ha)
        exact ⟨v :: vs, rfl, RZs.cons q1 q2⟩
theorem RL.rev : ∀ {ss : List Sl} {xs : List (Option V)} {F : List Addr}, RL K off H σ ss xs F → ∃ G, RL K off H σ ss.reverse xs.reverse G ∧ G.Perm F
  | [], xs, F, h => ⟨[], by rw [h.1]; exact ⟨rfl, rfl⟩, by rw [h.2]⟩
  | s :: ss, xs, F, h => by
    obtain ⟨x, r, G, G', rfl, rfl, h1, h2⟩ := h
    obtain ⟨J, q, pm⟩ := RL.rev h2
    refine ⟨J ++ G, ?_, ?_⟩
    · rw [List.reverse_cons, List.reverse_cons]
      exact q.join ⟨x, [], G, [], rfl, by simp, h1, rfl, rfl⟩
    · exact List.perm_append_comm.trans (pm.append_left G)
/-- the first values in hand, split off -/
theorem Rep.cut {ss : List Sl} {vs : List V} (R : Rep K off0 Hb H (ss.reverse ++ ts) (vs.reverse ++ tv) en σ) (l : vs.length = ss.length) : ∃ G F, RL K (offs off0 (G ++ F)) H σ ss (vs.map some) G ∧ RL K (offs off0 (G ++ F)) H σ (ts ++ en) (tv.map some ++ σ) F ∧ (G ++ F).Nodup ∧ (∀ a ∈ G ++ F, Hb a = none) ∧ tv.length = ts.length := by
  obtain ⟨F, q, nd, fr⟩ := R.ex
  rw [List.append_assoc] at q
  obtain ⟨ys, zs, G, G', e, rfl, h1, h2⟩ := q.split
  have l1 := h1.length
  rw [List.map_append, List.append_assoc] at e
  have e2 := List.append_inj e (by simp [l1, l])
  obtain ⟨rfl, rfl⟩ := e2
  obtain ⟨J, q, pm⟩ := h1.rev
  rw [List.reverse_reverse, ← List.map_reverse, List.reverse_reverse] at q
  have pm2 : (J ++ G').Perm (G ++ G') := pm.append_right G'
  have go : Go (offs off0 (G ++ G')) H (offs off0 (J ++ G')) H := goOff fun a ha => pm2.mem_iff.mp ha
  refine ⟨J, G', q.tr .refl go fun _ _ => rfl, h2.tr .refl go fun _ _ => rfl, pm2.nodup_iff.mpr nd, fun a ha => fr a (pm2.mem_iff.mp ha), ?_⟩
  have := R.len
  simp at this
  omega
/-- a slot for a datum -/
def mkS (o : Bool) (d : D) : Sl := if flat d then .fz d else if o then .ow d else .fz d
theorem Rep.pushS {d : D} {J : List Addr} (R : Rep K off0 Hb H ts tv en σ) (sm : Same H H') (h : RO K H' d v J) (nd : J.Nodup) (fr : ∀ a ∈ J, H a = none) : Rep K off0 Hb H' (mkS true d :: ts) (v :: tv) en σ := by
  unfold mkS
  by_cases f : flat d = true
  · rw [if_pos f]
    have e := RO.nilF _ _ _ h f
    subst e
    exact (R.same sm).const f (off := fun _ => False) (RO.share _ _ _ h fun _ _ z => z)
  · rw [if_neg f, if_pos rfl]
    exact R.pushO sm h nd fr
end
end T
/-! T2b: values gathered into a new thing. -/
namespace T
open PySem PySem.Spec L2
section
variable {K : PySem.W.Frag} {off off' off0 : Addr → Prop} {H H' Hb : Hp} {σ σ' : L2.St} {ts : List Sl} {tv : List V} {en : En} {s : Sl} {v : V}
theorem Rep.mkZ {ss : List Sl} {ds : List D} {vs : List V} {d : D} (R : Rep K off0 Hb H (ss.reverse ++ ts) (vs.reverse ++ tv) en σ) (l : vs.length = ss.length) (e : shr ss = some ds) (sm : Same H H')
    (h : ∀ off, (∀ a, off a → ∃ o, H a = some o) → RZs K off H ds vs → RZ K off H' d v) : Rep K off0 Hb H' (.fz d :: ts) (v :: tv) en σ := by
  obtain ⟨G, F, q1, q2, nd, fr, ln⟩ := R.cut l
  have go : Go (offs off0 (G ++ F)) H (offs off0 F) H := goOff fun a ha => List.mem_append_right _ ha
  have dom : ∀ a, offs off0 F a → ∃ o, H a = some o := fun a z => by
    rcases z with z | z
    · obtain ⟨o, e⟩ := R.out a z
      exact ⟨o, R.base a o e⟩
    · exact q2.there a z
  obtain ⟨vs', e2, q⟩ := shr_rzs q1 e go fun a ha z => by
    rcases z with z | z
    · obtain ⟨o, e⟩ := R.out a z
      rw [fr a (List.mem_append_left _ ha)] at e
      cases e
    · exact (List.nodup_append.mp nd).2.2 a ha a z rfl
  have e3 : vs = vs' := List.map_inj_right (fun _ _ z => Option.some.inj z) |>.mp e2
  subst e3
  refine ⟨⟨F, ⟨some v, tv.map some ++ σ, [], F, rfl, rfl, ⟨rfl, v, rfl, h _ dom q⟩, q2.tr (sameT sm) (fun a o n e => ⟨fun z => n (z.imp (fun q => q) (List.mem_append_right _)), sm a o e⟩) fun a ha => ?_⟩, (List.nodup_append.mp nd).2.1, fun a ha => fr a (List.mem_append_right _ ha)⟩, R.out, R.base.trans sm, by simp [ln], R.nbe⟩
  obtain ⟨o, e⟩ := q2.there a ha
  rw [e]
  exact sm a o e
theorem Rep.mkO {ss : List Sl} {ds : List D} {vs : List V} {d : D} (R : Rep K off0 Hb H (ss.reverse ++ ts) (vs.reverse ++ tv) en σ) (l : vs.length = ss.length) (e : own ss = some ds) (sm : Same H H')
    (h : ∀ G, ROs K H ds vs G → ∃ J J', J.Nodup ∧ (∀ a ∈ J, H a = none) ∧ J'.Perm (J ++ G) ∧ RO K H' d v J') : Rep K off0 Hb H' (mkS true d :: ts) (v :: tv) en σ := by
  obtain ⟨G, F, q1, q2, nd, fr, ln⟩ := R.cut l
  obtain ⟨vs', e2, q⟩ := own_ros q1 e
  have e3 : vs = vs' := List.map_inj_right (fun _ _ z => Option.some.inj z) |>.mp e2
  subst e3
  obtain ⟨J, J', nJ, fJ, pm, ro⟩ := h G q
  have dj : ∀ a o, H a = some o → a ∉ J := fun a o e z => by rw [fJ a z] at e; cases e
  have memJ : ∀ a, a ∈ J' ↔ a ∈ J ∨ a ∈ G := fun a => by rw [pm.mem_iff, List.mem_append]
  have ndJ : (J' ++ F).Nodup := by
    refine List.nodup_append.mpr ⟨pm.nodup_iff.mpr (List.nodup_append.mpr ⟨nJ, (List.nodup_append.mp nd).1, fun a ha b hb z => ?_⟩), (List.nodup_append.mp nd).2.1, fun a ha b hb z => ?_⟩
    · subst z
      obtain ⟨o, e⟩ := q1.there a hb
      exact dj a o e ha
    · subst z
      rcases (memJ a).mp ha with ha | ha
      · obtain ⟨o, e⟩ := q2.there a hb
        exact dj a o e ha
      · exact (List.nodup_append.mp nd).2.2 a ha a hb rfl
  have frJ : ∀ a ∈ J' ++ F, Hb a = none := fun a ha => by
    rcases List.mem_append.mp ha with ha | ha
    · rcases (memJ a).mp ha with ha | ha
      · exact R.base.free (fJ a ha)
      · exact fr a (List.mem_append_left _ ha)
    · exact fr a (List.mem_append_right _ ha)
  have rest : RL K (offs off0 (J' ++ F)) H' σ (ts ++ en) (tv.map some ++ σ) F := by
    refine q2.tr (sameT sm) (fun a o n e => ⟨fun z => ?_, sm a o e⟩) fun a ha => ?_
    · rcases z with z | z
      · exact n (.inl z)
      · rcases List.mem_append.mp z with z | z
        · rcases (memJ a).mp z with z | z
          · exact dj a o e z
          · exact n (.inr (List.mem_append_left _ z))
        · exact n (.inr (List.mem_append_right _ z))
    · obtain ⟨o, e⟩ := q2.there a ha
      rw [e]
      exact sm a o e
  unfold mkS
  by_cases f : flat d = true
  · rw [if_pos f]
    have e := RO.nilF _ _ _ ro f
    subst e
    exact ⟨⟨F, ⟨some v, tv.map some ++ σ, [], F, rfl, rfl, ⟨rfl, v, rfl, RO.share _ _ _ ro fun _ z => nomatch z⟩, rest⟩, (List.nodup_append.mp nd).2.1, fun a ha => fr a (List.mem_append_right _ ha)⟩, R.out, R.base.trans sm, by simp [ln], R.nbe⟩
  · rw [if_neg f, if_pos rfl]
    exact ⟨⟨J' ++ F, ⟨some v, tv.map some ++ σ, J', F, rfl, rfl, ⟨v, rfl, ro⟩, rest⟩, ndJ, frJ⟩, R.out, R.base.trans sm, by simp [ln], R.nbe⟩
/-- a value that may be shared, seen as the frame sees it -/
theorem Rep.expose {d0 : D} {x : V} (R : Rep K off0 Hb H (s :: ts) (x :: tv) en σ) (e : shr1 s = some d0) : ∃ off, (∀ a, off a → ∃ o, H a = some o) ∧ RZ K off H d0 x ∧ ∀ H' d v, Same H H' → RZ K off H' d v → Rep K off0 Hb H' (.fz d :: ts) (v :: tv) en σ := by
  obtain ⟨G, F, q1, q2, nd, fr, ln⟩ := Rep.cut (ss := [s]) (vs := [x]) R rfl
  have go : Go (offs off0 (G ++ F)) H (offs off0 F) H := goOff fun a ha => List.mem_append_right _ ha
  have dom : ∀ a, offs off0 F a → ∃ o, H a = some o := fun a z => by
    rcases z with z | z
    · obtain ⟨o, e⟩ := R.out a z
      exact ⟨o, R.base a o e⟩
    · exact q2.there a z
  obtain ⟨vs', e2, q⟩ := shr_rzs (ds := [d0]) q1 (by simp [shr, e]) go fun a ha z => by
    rcases z with z | z
    · obtain ⟨o, e⟩ := R.out a z
      rw [fr a (List.mem_append_left _ ha)] at e
      cases e
    · exact (List.nodup_append.mp nd).2.2 a ha a z rfl
  unfold RZs RZs at q
  obtain ⟨v1, r1, rfl, z1, rfl⟩ := q
  have e2 : x = v1 := by simpa using e2
  subst e2
  refine ⟨_, dom, z1, fun H' d v sm h => ⟨⟨F, ⟨some v, tv.map some ++ σ, [], F, rfl, rfl, ⟨rfl, v, rfl, h⟩, q2.tr (sameT sm) (fun a o n e => ⟨fun z => n (z.imp (fun q => q) (List.mem_append_right _)), sm a o e⟩) fun a ha => ?_⟩, (List.nodup_append.mp nd).2.1, fun a ha => fr a (List.mem_append_right _ ha)⟩, R.out, R.base.trans sm, by simp [ln], R.nbe⟩⟩
  obtain ⟨o, e⟩ := q2.there a ha
  rw [e]
  exact sm a o e
end
end T
/-! T3: what an expression computes on data; the frame of all rules. -/
namespace T
open PySem PySem.Spec L2

inductive Rs (α : Type) where
  | ok (a : α) (en : En) | ex (c : Str) (en : En) | no
def Rs.bind {α β : Type} (r : Rs α) (k : α → En → Rs β) : Rs β := match r with
  | .ok a en => k a en
  | .ex c en => .ex c en
  | .no => .no
theorem Rs.bind_ok {α β : Type} {a : α} {en : En} {k : α → En → Rs β} : (Rs.ok a en).bind k = k a en := rfl
theorem Rs.bind_ex {α β : Type} {c : Str} {en : En} {k : α → En → Rs β} : (Rs.ex c en).bind k = .ex c en := rfl
theorem Rs.bind_no {α β : Type} {k : α → En → Rs β} : (Rs.no : Rs α).bind k = .no := rfl
theorem Rs.bind_assoc {α β γ : Type} (r : Rs α) (k : α → En → Rs β) (l : β → En → Rs γ) : (r.bind k).bind l = r.bind fun a e => (k a e).bind l := by
  cases r <;> rfl
abbrev Ev := En → Rs Sl
abbrev EvT := En → Rs Bool
abbrev EvA := En → Rs (List Sl)

/-- the world of a def: the written part, the error classes by name, what is wanted of an error -/
structure Cv where
  K : PySem.W.Frag
  cv : Str → Value
  W : L2.WX

def Post (C : Cv) (off0 : Addr → Prop) (Hb : Hp) (ts : List Sl) (tv : List V) (σ : L2.St) (Q : VK) : Rs Sl → Prop
  | .ok s en => ∀ H v, Rep C.K off0 Hb H (s :: ts) (v :: tv) en σ → Q v H
  | .ex c en => ∀ H, Rep C.K off0 Hb H ts tv en σ → C.W (C.cv c) none σ H
  | .no => False
def PostT (C : Cv) (off0 : Addr → Prop) (Hb : Hp) (ts : List Sl) (tv : List V) (σ : L2.St) (Q : Bool → Hp → Prop) : Rs Bool → Prop
  | .ok b en => ∀ H, Rep C.K off0 Hb H ts tv en σ → Q b H
  | .ex c en => ∀ H, Rep C.K off0 Hb H ts tv en σ → C.W (C.cv c) none σ H
  | .no => False
def PostA (C : Cv) (off0 : Addr → Prop) (Hb : Hp) (ts : List Sl) (tv : List V) (σ : L2.St) (Q : List V → Hp → Prop) : Rs (List Sl) → Prop
  | .ok ss en => ∀ H vs, vs.length = ss.length → Rep C.K off0 Hb H (ss.reverse ++ ts) (vs.reverse ++ tv) en σ → Q vs H
  | .ex c en => ∀ H, Rep C.K off0 Hb H ts tv en σ → C.W (C.cv c) none σ H
  | .no => False
def tD (C : Cv) (f : Ev) : TE := fun σ H Q => ∃ off0 Hb ts tv en, Rep C.K off0 Hb H ts tv en σ ∧ Post C off0 Hb ts tv σ Q (f en)
def tDT (C : Cv) (f : EvT) : TT := fun σ H Q => ∃ off0 Hb ts tv en, Rep C.K off0 Hb H ts tv en σ ∧ PostT C off0 Hb ts tv σ Q (f en)
def tDA (C : Cv) (f : EvA) : TA := fun σ H Q => ∃ off0 Hb ts tv en, Rep C.K off0 Hb H ts tv en σ ∧ PostA C off0 Hb ts tv σ Q (f en)

theorem PEimp {X : Cx} {e : Expr} {t t' : TE} (h : PE X e t) (i : ∀ σ H Q, t' σ H Q → t σ H Q) : PE X e t' := ⟨fun pins s σ H Q I q => h.run pins s σ H Q I (i σ H Q q)⟩
theorem PTimp {X : Cx} {e : Expr} {t t' : TT} (h : PT X e t) (i : ∀ σ H Q, t' σ H Q → t σ H Q) : PT X e t' := ⟨fun pins s σ H Q I q => h.run pins s σ H Q I (i σ H Q q)⟩
theorem PWimp {X : Cx} {e : Expr} {t t' : TT} (h : PW X e t) (i : ∀ σ H Q, t' σ H Q → t σ H Q) : PW X e t' := ⟨fun w pins s σ H Q I q => h.run w pins s σ H Q I (i σ H Q q)⟩
theorem PAimp {X : Cx} {e : List Expr} {t t' : TA} (h : PA X e t) (i : ∀ σ H Q, t' σ H Q → t σ H Q) : PA X e t' := ⟨fun p pins s σ H Q I q => h.run p pins s σ H Q I (i σ H Q q)⟩

section
variable {C : Cv} {off0 : Addr → Prop} {Hb H : Hp} {ts : List Sl} {tv : List V} {en : En} {σ : L2.St}
/-- one value, then what is done with it -/
theorem tD.step {f : Ev} {k : Sl → En → Rs Sl} {Q : VK} {Q' : VK} (R : Rep C.K off0 Hb H ts tv en σ) (q : Post C off0 Hb ts tv σ Q ((f en).bind k))
    (h : ∀ s en' H' v, f en = .ok s en' → Rep C.K off0 Hb H' (s :: ts) (v :: tv) en' σ → Post C off0 Hb ts tv σ Q (k s en') → Q' v H') : tD C f σ H Q' := by
  refine ⟨off0, Hb, ts, tv, en, R, ?_⟩
  cases e : f en with
  | no => rw [e] at q; exact q
  | ex c en' => rw [e] at q; exact q
  | ok s en' => rw [e] at q; exact fun H' v R' => h s en' H' v e R' q
theorem tD.stepT {f : Ev} {k : Sl → En → Rs Bool} {Q : Bool → Hp → Prop} {Q' : VK} (R : Rep C.K off0 Hb H ts tv en σ) (q : PostT C off0 Hb ts tv σ Q ((f en).bind k))
    (h : ∀ s en' H' v, f en = .ok s en' → Rep C.K off0 Hb H' (s :: ts) (v :: tv) en' σ → PostT C off0 Hb ts tv σ Q (k s en') → Q' v H') : tD C f σ H Q' := by
  refine ⟨off0, Hb, ts, tv, en, R, ?_⟩
  cases e : f en with
  | no => rw [e] at q; exact q
  | ex c en' => rw [e] at q; exact q
  | ok s en' => rw [e] at q; exact fun H' v R' => h s en' H' v e R' q
/-- under a value in hand -/
theorem Post.under {s : Sl} {v : V} {r : Rs Sl} {k : Sl → En → Rs Sl} {Q Q' : VK} (q : Post C off0 Hb ts tv σ Q (r.bind k))
    (h : ∀ t en' H' y, r = .ok t en' → Rep C.K off0 Hb H' (t :: s :: ts) (y :: v :: tv) en' σ → Post C off0 Hb ts tv σ Q (k t en') → Q' y H') : Post C off0 Hb (s :: ts) (v :: tv) σ Q' r := by
  cases r with
  | no => exact q
  | ex c en' => exact fun H' R' => q H' R'.drop
  | ok t en' => exact fun H' y R' => h t en' H' y rfl R' q
theorem Post.underT {s : Sl} {v : V} {r : Rs Sl} {k : Sl → En → Rs Bool} {Q : Bool → Hp → Prop} {Q' : VK} (q : PostT C off0 Hb ts tv σ Q (r.bind k))
    (h : ∀ t en' H' y, r = .ok t en' → Rep C.K off0 Hb H' (t :: s :: ts) (y :: v :: tv) en' σ → PostT C off0 Hb ts tv σ Q (k t en') → Q' y H') : Post C off0 Hb (s :: ts) (v :: tv) σ Q' r := by
  cases r with
  | no => exact q
  | ex c en' => exact fun H' R' => q H' R'.drop
  | ok t en' => exact fun H' y R' => h t en' H' y rfl R' q
theorem Rep.dropN : ∀ {ss : List Sl} {vs : List V} {tv : List V}, Rep C.K off0 Hb H (ss ++ ts) (vs ++ tv) en σ → vs.length = ss.length → Rep C.K off0 Hb H ts tv en σ
  | [], [], tv, R, _ => R
  | [], v :: vs, tv, R, h => by simp at h
  | s :: ss, [], tv, R, h => by simp at h
  | s :: ss, v :: vs, tv, R, h => Rep.dropN (ss := ss) (vs := vs) (Rep.drop R) (by simpa using h)

/-! ### two values, one value -/
def v2 (fa fb : Ev) (g : Sl → Sl → En → Rs Sl) : Ev := fun en => (fa en).bind fun s e1 => (fb e1).bind fun t e2 => g s t e2
def v1 (fa : Ev) (g : Sl → En → Rs Sl) : Ev := fun en => (fa en).bind fun s e1 => g s e1
/-- a step by values shows what g says -/
def Lift2 (C : Cv) (r : R2) (g : Sl → Sl → En → Rs Sl) : Prop := ∀ (off0 : Addr → Prop) (Hb H : Hp) (ts : List Sl) (tv : List V) (en : En) (σ : L2.St) (s t : Sl) (x y : V) (Q : VK),
  Rep C.K off0 Hb H (t :: s :: ts) (y :: x :: tv) en σ → Post C off0 Hb ts tv σ Q (g s t en) → r x y H Q
def Lift1 (C : Cv) (r : V → Hp → VK → Prop) (g : Sl → En → Rs Sl) : Prop := ∀ (off0 : Addr → Prop) (Hb H : Hp) (ts : List Sl) (tv : List V) (en : En) (σ : L2.St) (s : Sl) (x : V) (Q : VK),
  Rep C.K off0 Hb H (s :: ts) (x :: tv) en σ → Post C off0 Hb ts tv σ Q (g s en) → r x H Q
theorem lift2 {r : R2} {g : Sl → Sl → En → Rs Sl} {fa fb : Ev} (L : Lift2 C r g) : ∀ σ H Q, tD C (v2 fa fb g) σ H Q → tOp r (tD C fa) (tD C fb) σ H Q := by
  rintro σ H Q ⟨off0, Hb, ts, tv, en, R, q⟩
  refine tD.step R q fun s en' H' v _ R' q' => ⟨off0, Hb, s :: ts, v :: tv, en', R', q'.under fun t e2 H2 y _ R2 q2 => ?_⟩
  exact L off0 Hb H2 ts tv e2 σ s t v y Q R2 q2
theorem lift1 {r : V → Hp → VK → Prop} {g : Sl → En → Rs Sl} {fa : Ev} (L : Lift1 C r g) : ∀ σ H Q, tD C (v1 fa g) σ H Q → tUn r (tD C fa) σ H Q := by
  rintro σ H Q ⟨off0, Hb, ts, tv, en, R, q⟩
  exact tD.step R q fun s en' H' v _ R' q' => L off0 Hb H' ts tv en' σ s v Q R' q'
/-- tests by value -/
def t1 (fa : Ev) : EvT := fun en => (fa en).bind fun s e1 => match s with
  | .fz (.bl b) => .ok b e1
  | _ => .no
theorem liftT {fa : Ev} : ∀ σ H Q, tDT C (t1 fa) σ H Q → tB (tD C fa) σ H Q := by
  rintro σ H Q ⟨off0, Hb, ts, tv, en, R, q⟩
  refine tD.stepT R q fun s en' H' v _ R' q' => ?_
  have key : ∀ b, s = .fz (.bl b) → ∃ c, v = .bl c ∧ Q c H' := fun b e => by
    subst e
    have z := R'.read (d := .bl b) rfl
    unfold RZ at z
    exact ⟨b, z, q' H' R'.drop⟩
  cases s with
  | fz d =>
    cases d with
    | bl b => exact key b rfl
    | _ => exact q'.elim
  | _ => exact q'.elim

/-! ### names, constants -/
def vName (i : Nat) : Ev := fun en => match en[i]? with
  | some (.fz d) => .ok (.fz d) en
  | some (.rd ns) => .ok (.rd ns) en
  | some (.ow _) => .ok (.bw i) en
  | some (.so _) => .ok (.bw i) en
  | _ => .no
variable {X : Cx} {pos : Pos}
theorem d_name {i : Nat} {x : Str} (h : PE X (.Name x pos) (tVar i)) : PE X (.Name x pos) (tD C (vName i)) := by
  refine PEimp h ?_
  rintro σ H Q ⟨off0, Hb, ts, tv, en, R, q⟩
  unfold vName at q
  cases e : en[i]? with
  | none => rw [e] at q; exact q.elim
  | some s =>
    rw [e] at q
    cases s with
    | fz d => obtain ⟨v, ev, R'⟩ := R.copy e (.inl ⟨d, rfl⟩); exact ⟨v, ev, q H v R'⟩
    | rd d => obtain ⟨v, ev, R'⟩ := R.copy e (.inr ⟨d, rfl⟩); exact ⟨v, ev, q H v R'⟩
    | ow d => obtain ⟨v, ev, R'⟩ := R.borrow e (.inl ⟨_, rfl⟩); exact ⟨v, ev, q H v R'⟩
    | so d => obtain ⟨v, ev, R'⟩ := R.borrow e (.inr ⟨_, rfl⟩); exact ⟨v, ev, q H v R'⟩
    | _ => exact q.elim
def vC (d : D) : Ev := fun en => .ok (.fz d) en
theorem d_const {e : Expr} {v : V} {d : D} (h : PE X e (tC v)) (f : flat d = true) (r : ∀ H, RZ C.K (fun _ => False) H d v) : PE X e (tD C (vC d)) := by
  refine PEimp h ?_
  rintro σ H Q ⟨off0, Hb, ts, tv, en, R, q⟩
  exact q H v (R.const f (r H))
theorem d_int {i j} : PE X (.Constant (.int i) j pos) (tD C (vC (.int i))) := d_const pe_int rfl fun H => by unfold RZ; rfl
theorem d_bl {b j} : PE X (.Constant (.bool b) j pos) (tD C (vC (.bl b))) := d_const pe_bl rfl fun H => by unfold RZ; rfl
theorem d_non {j} : PE X (.Constant .none j pos) (tD C (vC .non)) := d_const pe_non rfl fun H => by unfold RZ; rfl
theorem d_str {x j} (h : PyData.strOk x = true := by decide +kernel) : PE X (.Constant (.str x) j pos) (tD C (vC (.str x))) := d_const pe_str rfl fun H => by unfold RZ; exact ⟨rfl, h⟩

/-! ### operators -/
variable {a b : Expr} {fa fb : Ev}
theorem d_op {op : Operator} {r : R2} {g : Sl → Sl → En → Rs Sl} (ho : OpR X (binaryOp op) r) (L : Lift2 C r g) (ha : PE X a (tD C fa)) (hb : PE X b (tD C fb)) : PE X (.BinOp a op b pos) (tD C (v2 fa fb g)) :=
  PEimp (pe_op ho ha hb) (lift2 L)
theorem d_un {op : UnaryOp} {r : V → Hp → VK → Prop} {g : Sl → En → Rs Sl} (ho : UnR X (unaryOp op) r) (L : Lift1 C r g) (ha : PE X a (tD C fa)) : PE X (.UnaryOp op a pos) (tD C (v1 fa g)) :=
  PEimp (pe_un ho ha) (lift1 L)
theorem d_cmp {op : CmpOp} {r : R2} {g : Sl → Sl → En → Rs Sl} (ho : OpR X (compareOp op) r) (L : Lift2 C r g) (ha : PE X a (tD C fa)) (hb : PE X b (tD C fb)) (hm : behindInMarks op b = false) : PE X (.Compare a [op] [b] pos) (tD C (v2 fa fb g)) :=
  PEimp (pe_cmpR ho ha hb hm) (lift2 L)
theorem dt_cmp {op : CmpOp} {r : R2} {g : Sl → Sl → En → Rs Sl} (ho : OpR X (compareOp op) r) (L : Lift2 C r g) (ha : PE X a (tD C fa)) (hb : PE X b (tD C fb)) (hm : behindInMarks op b = false) : PT X (.Compare a [op] [b] pos) (tDT C (t1 (v2 fa fb g))) := by
  refine PTimp (pt_cmpR ho ha hb hm) ?_
  rintro σ H Q ⟨off0, Hb, ts, tv, en, R, q⟩
  have q : PostT C off0 Hb ts tv σ Q ((fa en).bind fun s e1 => (fb e1).bind fun t e2 => (g s t e2).bind fun u e3 => match u with
    | .fz (.bl b) => .ok b e3
    | _ => .no) := by
    have e : (t1 (v2 fa fb g)) en = ((fa en).bind fun s e1 => (fb e1).bind fun t e2 => (g s t e2).bind fun u e3 => match u with
      | .fz (.bl b) => .ok b e3
      | _ => .no) := by
      unfold t1 v2
      simp only [Rs.bind_assoc]
    rw [e] at q
    exact q
  show tOp r (tD C fa) (tD C fb) σ H _
  refine tD.stepT R q fun s en' H' v _ R' q' => ⟨off0, Hb, s :: ts, v :: tv, en', R', Post.underT q' fun t e2 H2 y _ R2 q2 => ?_⟩
  refine L off0 Hb H2 ts tv e2 σ s t v y _ R2 ?_
  cases hg : g s t e2 with
  | no => rw [hg] at q2; exact q2
  | ex c e3 => rw [hg] at q2; exact q2
  | ok u e3 =>
    rw [hg] at q2
    intro H3 z R3
    cases u with
    | fz d =>
      cases d with
      | bl b =>
        have zz := R3.read (d := .bl b) rfl
        unfold RZ at zz
        exact ⟨b, zz, q2 H3 R3.drop⟩
      | _ => exact q2.elim
    | _ => exact q2.elim
theorem dt_val (ha : PE X a (tD C fa)) (he : ∀ whole, isTrue a X.env whole = (do let v ← whole; standAt a.pos; holding [v] (truthy v)) := by intro _; rfl) : PT X a (tDT C (t1 fa)) :=
  PTimp (pt_val ha he) liftT

/-! ### and, or, not -/
def tAnd2 (f g : EvT) : EvT := fun en => (f en).bind fun b e => if b then g e else .ok false e
def tOr2 (f g : EvT) : EvT := fun en => (f en).bind fun b e => if b then .ok true e else g e
def tNot1 (f : EvT) : EvT := fun en => (f en).bind fun b e => .ok (!b) e
theorem tDT.step {f : EvT} {k : Bool → En → Rs Bool} {Q Q' : Bool → Hp → Prop} (R : Rep C.K off0 Hb H ts tv en σ) (q : PostT C off0 Hb ts tv σ Q ((f en).bind k))
    (h : ∀ b en' H', f en = .ok b en' → Rep C.K off0 Hb H' ts tv en' σ → PostT C off0 Hb ts tv σ Q (k b en') → Q' b H') : tDT C f σ H Q' := by
  refine ⟨off0, Hb, ts, tv, en, R, ?_⟩
  cases e : f en with
  | no => rw [e] at q; exact q
  | ex c en' => rw [e] at q; exact q
  | ok s en' => rw [e] at q; exact fun H' R' => h s en' H' e R' q
theorem tDT.stepE {f : EvT} {k : Bool → En → Rs Sl} {Q : VK} {Q' : Bool → Hp → Prop} (R : Rep C.K off0 Hb H ts tv en σ) (q : Post C off0 Hb ts tv σ Q ((f en).bind k))
    (h : ∀ b en' H', f en = .ok b en' → Rep C.K off0 Hb H' ts tv en' σ → Post C off0 Hb ts tv σ Q (k b en') → Q' b H') : tDT C f σ H Q' := by
  refine ⟨off0, Hb, ts, tv, en, R, ?_⟩
  cases e : f en with
  | no => rw [e] at q; exact q
  | ex c en' => rw [e] at q; exact q
  | ok s en' => rw [e] at q; exact fun H' R' => h s en' H' e R' q
variable {ft gt : EvT} {rest : List Expr}
theorem dw_and1 (ha : PT X a (tDT C ft)) : PW X (.BoolOp .And [a] pos) (tDT C ft) := pw_and1 ha
theorem dw_or1 (ha : PT X a (tDT C ft)) : PW X (.BoolOp .Or [a] pos) (tDT C ft) := pw_or1 ha
theorem dw_and (ha : PT X a (tDT C ft)) (hb : PW X (.BoolOp .And (b :: rest) pos) (tDT C gt)) : PW X (.BoolOp .And (a :: b :: rest) pos) (tDT C (tAnd2 ft gt)) := by
  refine PWimp (pw_and ha hb) ?_
  rintro σ H Q ⟨off0, Hb, ts, tv, en, R, q⟩
  refine tDT.step R q fun c en' H' _ R' q' => ?_
  cases c with
  | true => rw [if_pos rfl]; exact ⟨off0, Hb, ts, tv, en', R', q'⟩
  | false => rw [if_neg Bool.false_ne_true]; exact q' H' R'
theorem dw_or (ha : PT X a (tDT C ft)) (hb : PW X (.BoolOp .Or (b :: rest) pos) (tDT C gt)) : PW X (.BoolOp .Or (a :: b :: rest) pos) (tDT C (tOr2 ft gt)) := by
  refine PWimp (pw_or ha hb) ?_
  rintro σ H Q ⟨off0, Hb, ts, tv, en, R, q⟩
  refine tDT.step R q fun c en' H' _ R' q' => ?_
  cases c with
  | true => rw [if_pos rfl]; exact q' H' R'
  | false => rw [if_neg Bool.false_ne_true]; exact ⟨off0, Hb, ts, tv, en', R', q'⟩
theorem dt_not (ha : PT X a (tDT C ft)) : PT X (.UnaryOp .Not a pos) (tDT C (tNot1 ft)) := by
  refine PTimp (pt_not ha) ?_
  rintro σ H Q ⟨off0, Hb, ts, tv, en, R, q⟩
  exact tDT.step R q fun c en' H' _ R' q' => q' H' R'
/-- .. as values: all but the last True or False -/
def vBool (s : Sl) : Option Bool := match s with
  | .fz (.bl b) => some b
  | _ => none
def vAnd2 (f g : Ev) : Ev := fun en => (f en).bind fun s e => match vBool s with
  | some true => g e
  | some false => .ok (.fz (.bl false)) e
  | none => .no
def vOr2 (f g : Ev) : Ev := fun en => (f en).bind fun s e => match vBool s with
  | some true => .ok (.fz (.bl true)) e
  | some false => g e
  | none => .no
def vNot1 (f : Ev) : Ev := fun en => (f en).bind fun s e => match vBool s with
  | some b => .ok (.fz (.bl (!b))) e
  | none => .no
theorem vBool_read {s : Sl} {c : Bool} {v : V} (R : Rep C.K off0 Hb H (s :: ts) (v :: tv) en σ) (e : vBool s = some c) : v = .bl c := by
  cases s with
  | fz d =>
    cases d with
    | bl b =>
      have e : b = c := by simpa [vBool] using e
      subst e
      have z := R.read (d := .bl b) rfl
      unfold RZ at z
      exact z
    | _ => simp [vBool] at e
  | _ => simp [vBool] at e
theorem d_one {op} (h : PE X a (tD C fa)) : PE X (.BoolOp op [a] pos) (tD C fa) := pe_one h
theorem rzbl {K : PySem.W.Frag} {off : Addr → Prop} {H : Hp} {b : Bool} : RZ K off H (.bl b) (.bl b) := by unfold RZ; rfl
theorem rzint {K : PySem.W.Frag} {off : Addr → Prop} {H : Hp} {b : Int} : RZ K off H (.int b) (.int b) := by unfold RZ; rfl
theorem d_and (ha : PE X a (tD C fa)) (hb : PE X (.BoolOp .And (b :: rest) pos) (tD C fb)) : PE X (.BoolOp .And (a :: b :: rest) pos) (tD C (vAnd2 fa fb)) := by
  refine PEimp (pe_and ha hb) ?_
  rintro σ H Q ⟨off0, Hb, ts, tv, en, R, q⟩
  refine tD.step R q fun s en' H' v _ R' q' => ?_
  cases e : vBool s with
  | none => rw [e] at q'; exact q'.elim
  | some c =>
    rw [e] at q'
    refine ⟨c, vBool_read R' e, ?_⟩
    cases c with
    | true => rw [if_pos rfl]; exact ⟨off0, Hb, ts, tv, en', R'.drop, q'⟩
    | false => rw [if_neg Bool.false_ne_true]; exact q' H' _ (R'.drop.const rfl (off := fun _ => False) rzbl)
theorem d_or (ha : PE X a (tD C fa)) (hb : PE X (.BoolOp .Or (b :: rest) pos) (tD C fb)) : PE X (.BoolOp .Or (a :: b :: rest) pos) (tD C (vOr2 fa fb)) := by
  refine PEimp (pe_or ha hb) ?_
  rintro σ H Q ⟨off0, Hb, ts, tv, en, R, q⟩
  refine tD.step R q fun s en' H' v _ R' q' => ?_
  cases e : vBool s with
  | none => rw [e] at q'; exact q'.elim
  | some c =>
    rw [e] at q'
    refine ⟨c, vBool_read R' e, ?_⟩
    cases c with
    | false => rw [if_neg Bool.false_ne_true]; exact ⟨off0, Hb, ts, tv, en', R'.drop, q'⟩
    | true => rw [if_pos rfl]; exact q' H' _ (R'.drop.const rfl (off := fun _ => False) rzbl)
theorem d_not (ha : PE X a (tD C fa)) : PE X (.UnaryOp .Not a pos) (tD C (vNot1 fa)) := by
  refine PEimp (pe_not ha) ?_
  rintro σ H Q ⟨off0, Hb, ts, tv, en, R, q⟩
  refine tD.step R q fun s en' H' v _ R' q' => ?_
  cases e : vBool s with
  | none => rw [e] at q'; exact q'.elim
  | some c =>
    rw [e] at q'
    exact ⟨c, vBool_read R' e, q' H' _ (R'.drop.const rfl (off := fun _ => False) rzbl)⟩
/-- a if t else b -/
def vIf (t : EvT) (f g : Ev) : Ev := fun en => (t en).bind fun b e => if b then f e else g e
theorem d_if {c : Expr} (hc : PT X c (tDT C ft)) (ha : PE X a (tD C fa)) (hb : PE X b (tD C fb)) : PE X (.IfExp c a b pos) (tD C (vIf ft fa fb)) := by
  refine PEimp (pe_ifExp hc ha hb) ?_
  rintro σ H Q ⟨off0, Hb, ts, tv, en, R, q⟩
  refine tDT.stepE R q fun c en' H' _ R' q' => ?_
  cases c with
  | true => rw [if_pos rfl]; exact ⟨off0, Hb, ts, tv, en', R', q'⟩
  | false => rw [if_neg Bool.false_ne_true]; exact ⟨off0, Hb, ts, tv, en', R', q'⟩
end
end T
/-! T4: operators on data. -/
namespace T
open PySem PySem.Spec L2
section
variable {C : Cv} {off0 : Addr → Prop} {Hb H H' : Hp} {ts : List Sl} {tv : List V} {en : En} {σ : L2.St} {X : Cx}

/-! ### plain values in hand -/
theorem Rep.int {s : Sl} {x : V} {i : Int} (R : Rep C.K off0 Hb H (s :: ts) (x :: tv) en σ) (e : dref en s = some (.int i)) : x = .int i := by
  have z := R.read e
  unfold RZ at z
  exact z
theorem Rep.bl {s : Sl} {x : V} {i : Bool} (R : Rep C.K off0 Hb H (s :: ts) (x :: tv) en σ) (e : dref en s = some (.bl i)) : x = .bl i := by
  have z := R.read e
  unfold RZ at z
  exact z
theorem Rep.str {s : Sl} {x : V} {i : Str} (R : Rep C.K off0 Hb H (s :: ts) (x :: tv) en σ) (e : dref en s = some (.str i)) : x = .str i ∧ PyData.strOk i = true := by
  have z := R.read e
  unfold RZ at z
  exact z
theorem Rep.non {s : Sl} {x : V} (R : Rep C.K off0 Hb H (s :: ts) (x :: tv) en σ) (e : dref en s = some .non) : x = .non := by
  have z := R.read e
  unfold RZ at z
  exact z
theorem Rep.lst {s : Sl} {x : V} {ds : List D} (R : Rep C.K off0 Hb H (s :: ts) (x :: tv) en σ) (e : dref en s = some (.lst ds)) : ∃ a vs, x = .ref a ∧ H a = some (.lst vs) ∧ RZs C.K (fun _ => False) H ds vs := by
  have z := R.read e
  unfold RZ at z
  obtain ⟨a, vs, e, _, q, r⟩ := z
  exact ⟨a, vs, e, q, r⟩
theorem Rep.tup {s : Sl} {x : V} {ds : List D} (R : Rep C.K off0 Hb H (s :: ts) (x :: tv) en σ) (e : dref en s = some (.tup ds)) : ∃ a vs, x = .ref a ∧ TupAt C.K H a vs ∧ RZs C.K (fun _ => False) H ds vs := by
  have z := R.read e
  unfold RZ at z
  exact z
/-- under the top value, heaps and frame the same -/
theorem Rep.below {s t : Sl} {x y : V} (R : Rep C.K off0 Hb H (t :: s :: ts) (y :: x :: tv) en σ) : Rep C.K off0 Hb H (s :: ts) (x :: tv) en σ := R.drop
theorem Rep.pushI {i : Int} (R : Rep C.K off0 Hb H ts tv en σ) : Rep C.K off0 Hb H (.fz (.int i) :: ts) (.int i :: tv) en σ := R.const rfl (off := fun _ => False) rzint
theorem Rep.pushB {i : Bool} (R : Rep C.K off0 Hb H ts tv en σ) : Rep C.K off0 Hb H (.fz (.bl i) :: ts) (.bl i :: tv) en σ := R.const rfl (off := fun _ => False) rzbl
theorem Rep.pushT {i : Str} (R : Rep C.K off0 Hb H ts tv en σ) (h : PyData.strOk i = true) : Rep C.K off0 Hb H (.fz (.str i) :: ts) (.str i :: tv) en σ := R.const rfl (off := fun _ => False) (by unfold RZ; exact ⟨rfl, h⟩)
theorem Rep.pushN (R : Rep C.K off0 Hb H ts tv en σ) : Rep C.K off0 Hb H (.fz .non :: ts) (.non :: tv) en σ := R.const rfl (off := fun _ => False) (by unfold RZ; rfl)
theorem strOk_app {x y : Str} (h : PyData.strOk x = true) (k : PyData.strOk y = true) : PyData.strOk (x ++ y) = true := by
  show (x.cps ++ y.cps).all _ = true
  simp only [PyData.strOk] at h k
  rw [Array.all_append, h, k]
  rfl

/-! ### ints -/
def gII (f : Int → Int → D) (c : Int → Int → Bool) (s t : Sl) (en : En) : Rs Sl := match dref en s, dref en t with
  | some (.int i), some (.int j) => if c i j then .ok (.fz (f i j)) en else .no
  | _, _ => .no
theorem gII_inv {f : Int → Int → D} {c : Int → Int → Bool} {s t : Sl} {Q : Rs Sl → Prop} (q : Q (gII f c s t en)) (n : ¬ Q .no) : ∃ i j, dref en s = some (.int i) ∧ dref en t = some (.int j) ∧ c i j = true ∧ Q (.ok (.fz (f i j)) en) := by
  unfold gII at q
  split at q
  · rename_i i j h1 h2
    by_cases hc : c i j = true
    · rw [if_pos hc] at q
      exact ⟨i, j, h1, h2, hc, q⟩
    · rw [if_neg hc] at q
      exact absurd q n
  · exact absurd q n
theorem post_no {Q : VK} : ¬ Post C off0 Hb ts tv σ Q .no := fun h => h
/-- an operator on two ints -/
theorem liftII {P : Int → Int → Prop} {g : Int → Int → V} {f : Int → Int → D} {c : Int → Int → Bool} (hc : ∀ i j, c i j = true → P i j) (hf : ∀ i j, flat (f i j) = true) (hg : ∀ i j H, RZ C.K (fun _ => False) H (f i j) (g i j)) : Lift2 C (rI P g) (gII f c) := by
  intro off0 Hb H ts tv en σ s t x y Q R q
  obtain ⟨i, j, e1, e2, ec, q⟩ := gII_inv q post_no
  exact ⟨i, j, R.below.int e1, R.int e2, hc i j ec, q H _ (R.below.drop.const (hf i j) (hg i j H))⟩
theorem liftII0 {g : Int → Int → V} {f : Int → Int → D} (hf : ∀ i j, flat (f i j) = true) (hg : ∀ i j H, RZ C.K (fun _ => False) H (f i j) (g i j)) : Lift2 C (rI0 g) (gII f fun _ _ => true) := by
  intro off0 Hb H ts tv en σ s t x y Q R q
  obtain ⟨i, j, e1, e2, ec, q⟩ := gII_inv q post_no
  exact ⟨i, j, R.below.int e1, R.int e2, q H _ (R.below.drop.const (hf i j) (hg i j H))⟩
def gSub : Sl → Sl → En → Rs Sl := gII (fun i j => .int (i - j)) fun _ _ => true
def gLt : Sl → Sl → En → Rs Sl := gII (fun i j => .bl (decide (i < j))) fun _ _ => true
def gLe : Sl → Sl → En → Rs Sl := gII (fun i j => .bl (decide (i ≤ j))) fun _ _ => true
def gGt : Sl → Sl → En → Rs Sl := gII (fun i j => .bl (decide (j < i))) fun _ _ => true
def gGe : Sl → Sl → En → Rs Sl := gII (fun i j => .bl (decide (j ≤ i))) fun _ _ => true
def cDiv (i j : Int) : Bool := decide (0 < j ∧ j < 1073741824)
def gDiv : Sl → Sl → En → Rs Sl := gII (fun i j => .int (i / j)) cDiv
def gMod : Sl → Sl → En → Rs Sl := gII (fun i j => .int (i % j)) fun _ j => decide (0 < j)
def cPow (i j : Int) : Bool := decide (0 ≤ j ∧ j ≤ 1000000 ∧ i.natAbs < 2 ^ 64)
def gPow : Sl → Sl → En → Rs Sl := gII (fun i j => .int (i ^ j.toNat)) cPow
theorem l_sub : Lift2 C (rI0 fun i j => .int (i - j)) gSub := liftII0 (fun _ _ => rfl) fun _ _ _ => rzint
theorem l_lt : Lift2 C (rI0 fun i j => .bl (decide (i < j))) gLt := liftII0 (fun _ _ => rfl) fun _ _ _ => rzbl
theorem l_le : Lift2 C (rI0 fun i j => .bl (decide (i ≤ j))) gLe := liftII0 (fun _ _ => rfl) fun _ _ _ => rzbl
theorem l_gt : Lift2 C (rI0 fun i j => .bl (decide (j < i))) gGt := liftII0 (fun _ _ => rfl) fun _ _ _ => rzbl
theorem l_ge : Lift2 C (rI0 fun i j => .bl (decide (j ≤ i))) gGe := liftII0 (fun _ _ => rfl) fun _ _ _ => rzbl
theorem l_div : Lift2 C (rI CDiv fun i j => .int (i / j)) gDiv := liftII (fun i j h => by first | exact of_decide_eq_true h | (unfold CDiv; exact of_decide_eq_true h) | (unfold CPow; exact of_decide_eq_true h)) (fun _ _ => rfl) fun _ _ _ => rzint
theorem l_mod : Lift2 C (rI (fun _ j => 0 < j) fun i j => .int (i % j)) gMod := liftII (fun i j h => by first | exact of_decide_eq_true h | (unfold CDiv; exact of_decide_eq_true h) | (unfold CPow; exact of_decide_eq_true h)) (fun _ _ => rfl) fun _ _ _ => rzint
theorem l_pow : Lift2 C (rI CPow fun i j => .int (i ^ j.toNat)) gPow := liftII (fun i j h => by first | exact of_decide_eq_true h | (unfold CDiv; exact of_decide_eq_true h) | (unfold CPow; exact of_decide_eq_true h)) (fun _ _ => rfl) fun _ _ _ => rzint
def gNeg : Sl → En → Rs Sl := fun s en => match dref en s with
  | some (.int i) => .ok (.fz (.int (-i))) en
  | _ => .no
theorem l_neg : Lift1 C (rU fun i => .int (-i)) gNeg := by
  intro off0 Hb H ts tv en σ s x Q R q
  unfold gNeg at q
  split at q
  · rename_i i e
    exact ⟨i, R.int e, q H _ R.drop.pushI⟩
  · exact q.elim

/-! ### + : ints, texts, lists, tuples -/
def gAdd (s t : Sl) (en : En) : Rs Sl := match dref en s, dref en t with
  | some (.int i), some (.int j) => .ok (.fz (.int (i + j))) en
  | some (.str x), some (.str y) => if x.length + y.length ≤ sizeLine then .ok (.fz (.str (x ++ y))) en else .no
  | some (.lst xs), some (.lst ys) => if xs.length + ys.length ≤ sizeLine then
      (if flats xs && flats ys then .ok (.ow (.lst (xs ++ ys))) en else match shr [s, t] with
        | some _ => .ok (.fz (.lst (xs ++ ys))) en
        | none => .no)
    else .no
  | some (.tup xs), some (.tup ys) => if xs.length + ys.length ≤ sizeLine ∧ flats xs = true ∧ flats ys = true then .ok (.fz (.tup (xs ++ ys))) en else .no
  | _, _ => .no
theorem flats_app : ∀ {xs ys : List D}, flats (xs ++ ys) = (flats xs && flats ys)
  | [], ys => by simp [flats]
  | x :: xs, ys => by simp [flats, flats_app (xs := xs) (ys := ys), Bool.and_assoc]
theorem Rep.newL {ds : List D} {vs : List V} {p : Addr} (R : Rep C.K off0 Hb H ts tv en σ) (np : H p = none) (f : flats ds = true) (r : RZs C.K (fun _ => False) H ds vs) : Rep C.K off0 Hb (upd H p (.lst vs)) (.ow (.lst ds) :: ts) (.ref p :: tv) en σ := by
  refine R.pushO (J := [p]) (same_new np) ?_ (by simp) (fun a ha => by rw [List.mem_singleton.mp ha]; exact np)
  unfold RO
  exact ⟨p, vs, [], rfl, rfl, upd_same, ROs.stay (sameT (same_new np)) _ _ _ (RZs.own0 _ _ r f) fun _ z => nomatch z⟩
theorem Rep.newT {ds : List D} {vs : List V} {p : Addr} (R : Rep C.K off0 Hb H ts tv en σ) (np : H p = none) (f : flats ds = true) (r : RZs C.K (fun _ => False) H ds vs) : Rep C.K off0 Hb (upd H p (.tup vs)) (.fz (.tup ds) :: ts) (.ref p :: tv) en σ := by
  refine (R.same (same_new np)).const (off := fun _ => False) (by unfold flat; exact f) ?_
  unfold RZ
  exact ⟨p, vs, rfl, .inl upd_same, RZs.go (sameT (same_new np)) (fun a o _ e => ⟨fun z => z, same_new np a o e⟩) _ _ r⟩
theorem shr_two {s t : Sl} {ws : List D} {d e : D} (h : shr [s, t] = some ws) (e1 : dref en s = some d) (e2 : dref en t = some e) : ws = [d, e] := by
  have key : ∀ {s : Sl} {d d' : D}, shr1 s = some d' → dref en s = some d → d' = d := fun {s d d'} a b => by
    cases s with
    | fz _ => simp [shr1] at a; simp [dref] at b; rw [← a, b]
    | ow _ => simp [shr1] at a; simp [dref] at b; rw [← a, b]
    | _ => simp [shr1] at a
  unfold shr shr shr at h
  cases h1 : shr1 s with
  | none => simp [h1] at h
  | some d' =>
    cases h2 : shr1 t with
    | none => simp [h1, h2] at h
    | some e' =>
      have h : ws = [d', e'] := by simpa [h1, h2] using h.symm
      rw [h, key h1 e1, key h2 e2]
theorem shr_one {s : Sl} {ws : List D} {d : D} (h : shr [s] = some ws) (e1 : dref en s = some d) : ws = [d] := by
  have key : ∀ {s : Sl} {d d' : D}, shr1 s = some d' → dref en s = some d → d' = d := fun {s d d'} a b => by
    cases s with
    | fz _ => simp [shr1] at a; simp [dref] at b; rw [← a, b]
    | ow _ => simp [shr1] at a; simp [dref] at b; rw [← a, b]
    | _ => simp [shr1] at a
  unfold shr shr at h
  cases h1 : shr1 s with
  | none => simp [h1] at h
  | some d' =>
    have h : ws = [d'] := by simpa [h1] using h.symm
    rw [h, key h1 e1]
theorem rzs_lst {off : Addr → Prop} {xs : List D} {a : Addr} {vs : List V} (h : RZ C.K off H (.lst xs) (.ref a)) (e : H a = some (.lst vs)) : RZs C.K off H xs vs := by
  unfold RZ at h
  obtain ⟨b, ws, e1, _, q, r⟩ := h
  cases e1
  rw [e] at q
  cases q
  exact r
def rAddAll (K : PySem.W.Frag) : R2 := fun x y H Q => rI0 (fun i j => .int (i + j)) x y H Q ∨ (∃ i j, x = .str i ∧ y = .str j ∧ i.length + j.length ≤ sizeLine ∧ Q (.str (i ++ j)) H) ∨ rCat x y H Q ∨ rCatA K x y H Q
theorem op_addAll : OpR X (binaryOp .Add) (rAddAll X.K) := op_add.or (op_add_str.or (op_cat.or op_catA))
theorem l_add : Lift2 C (rAddAll C.K) gAdd := by
  intro off0 Hb H ts tv en σ s t x y Q R q
  unfold gAdd at q
  split at q
  · rename_i i j e1 e2
    exact .inl ⟨i, j, R.below.int e1, R.int e2, q H _ R.below.drop.pushI⟩
  · rename_i i j e1 e2
    split at q
    · rename_i hl
      obtain ⟨h1, k1⟩ := R.below.str e1
      obtain ⟨h2, k2⟩ := R.str e2
      exact .inr (.inl ⟨i, j, h1, h2, hl, q H _ (R.below.drop.pushT (strOk_app k1 k2))⟩)
    · exact q.elim
  · rename_i xs ys e1 e2
    split at q
    · rename_i hl
      obtain ⟨a, vs, rfl, ha, ra⟩ := R.below.lst e1
      obtain ⟨b, ws, rfl, hb, rb⟩ := R.lst e2
      refine .inr (.inr (.inl ⟨a, b, vs, ws, rfl, rfl, ha, hb, by rw [ra.length, rb.length]; exact hl, fun p np => ?_⟩))
      split at q
      · rename_i f
        have f : flats xs = true ∧ flats ys = true := by simpa using f
        exact q _ _ (R.below.drop.newL np (by rw [flats_app, f.1, f.2]; rfl) (ra.append rb))
      · split at q
        · rename_i wz ew
          have e3 := shr_two ew e1 e2
          subst e3
          refine q _ _ (Rep.mkZ (ss := [s, t]) (vs := [.ref a, .ref b]) R rfl ew (same_new np) fun off dom h => ?_)
          unfold RZs RZs RZs at h
          obtain ⟨v1, r1, er, z1, v2, r2, er2, z2, e3⟩ := h
          cases er
          cases er2
          unfold RZ
          exact ⟨p, _, rfl, fun z => (by obtain ⟨o, e⟩ := dom p z; rw [np] at e; cases e), upd_same, RZs.go (sameT (same_new np)) (fun a o n e => ⟨n, same_new np a o e⟩) _ _ ((rzs_lst z1 ha).append (rzs_lst z2 hb))⟩
        · exact q.elim
    · exact q.elim
  · rename_i xs ys e1 e2
    split at q
    · rename_i hl
      obtain ⟨hl, f1, f2⟩ := hl
      obtain ⟨a, vs, rfl, ha, ra⟩ := R.below.tup e1
      obtain ⟨b, ws, rfl, hb, rb⟩ := R.tup e2
      have fa : flats (xs ++ ys) = true := by rw [flats_app, f1, f2]; rfl
      refine .inr (.inr (.inr ⟨a, b, vs, ws, rfl, rfl, ha.sq, hb.sq, by rw [ra.length, rb.length]; exact hl, fun z => ?_, fun _ z => ?_, fun _ _ p np => ?_⟩))
      · have e : xs = [] := by have := ra.length; rw [z] at this; exact List.eq_nil_of_length_eq_zero this.symm
        subst e
        refine q _ _ (R.below.drop.const fa (off := fun _ => False) ?_)
        unfold RZ
        exact ⟨b, ws, rfl, hb, rb⟩
      · have e : ys = [] := by have := rb.length; rw [z] at this; exact List.eq_nil_of_length_eq_zero this.symm
        subst e
        rw [List.append_nil] at q fa
        refine q _ _ (R.below.drop.const fa (off := fun _ => False) ?_)
        unfold RZ
        exact ⟨a, vs, rfl, ha, ra⟩
      · exact q _ _ (R.below.drop.newT np fa (ra.append rb))
    · exact q.elim
  · exact q.elim

/-! ### list * int, int * int -/
def cMul (i j : Int) : Bool := decide ((-(2 ^ 64) < i ∧ i < 2 ^ 64) ∨ (-(2 ^ 64) < j ∧ j < 2 ^ 64))
def gMul (s t : Sl) (en : En) : Rs Sl := match dref en s, dref en t with
  | some (.int i), some (.int j) => if cMul i j then .ok (.fz (.int (i * j))) en else .no
  | some (.lst xs), some (.int k) => if -(2 ^ 63) ≤ k ∧ k < 2 ^ 63 ∧ xs.length * k.toNat ≤ sizeLine then
      (if flats xs then .ok (.ow (.lst (List.replicate k.toNat xs).flatten)) en else match shr [s] with
        | some _ => .ok (.fz (.lst (List.replicate k.toNat xs).flatten)) en
        | none => .no)
    else .no
  | _, _ => .no
def rMulAll : R2 := fun x y H Q => rI CMul (fun i j => .int (i * j)) x y H Q ∨ rRep x y H Q
theorem op_mulAll : OpR X (binaryOp .Mult) rMulAll := op_mul.or op_rep
theorem RZs.rep {K : PySem.W.Frag} {off : Addr → Prop} {H : Hp} {ds : List D} {vs : List V} (h : RZs K off H ds vs) : ∀ k : Nat, RZs K off H (List.replicate k ds).flatten (List.replicate k vs).flatten
  | 0 => by simp [RZs]
  | k + 1 => by
    rw [List.replicate_succ, List.replicate_succ, List.flatten_cons, List.flatten_cons]
    exact h.append (RZs.rep h k)
theorem flats_rep {ds : List D} (h : flats ds = true) : ∀ k : Nat, flats (List.replicate k ds).flatten = true
  | 0 => by simp [flats]
  | k + 1 => by
    rw [List.replicate_succ, List.flatten_cons, flats_app, h, flats_rep h k]
    rfl
theorem l_mul : Lift2 C rMulAll gMul := by
  intro off0 Hb H ts tv en σ s t x y Q R q
  unfold gMul at q
  split at q
  · rename_i i j e1 e2
    split at q
    · rename_i h
      exact .inl ⟨i, j, R.below.int e1, R.int e2, (by unfold CMul; exact of_decide_eq_true h), q H _ R.below.drop.pushI⟩
    · exact q.elim
  · rename_i xs k e1 e2
    split at q
    · rename_i hl
      obtain ⟨h1, h2, h3⟩ := hl
      obtain ⟨a, vs, rfl, ha, ra⟩ := R.below.lst e1
      refine .inr ⟨a, k, vs, rfl, R.int e2, ha, h1, h2, by rw [ra.length]; exact h3, fun p np => ?_⟩
      split at q
      · rename_i f
        exact q _ _ (R.below.drop.newL np (flats_rep f _) (ra.rep _))
      · split at q
        · rename_i wz ew
          have e3 := shr_one ew e1
          subst e3
          refine q _ _ (Rep.mkZ (ss := [s]) (vs := [.ref a]) R.drop rfl ew (same_new np) fun off dom h => ?_)
          unfold RZs RZs at h
          obtain ⟨v1, r1, er, z1, e3⟩ := h
          cases er
          unfold RZ
          exact ⟨p, _, rfl, fun z => (by obtain ⟨o, e⟩ := dom p z; rw [np] at e; cases e), upd_same, RZs.go (sameT (same_new np)) (fun a o n e => ⟨n, same_new np a o e⟩) _ _ ((rzs_lst z1 ha).rep _)⟩
        · exact q.elim
    · exact q.elim
  · exact q.elim

/-! ### ==, !=, in, not in, is None -/
def deq (d e : D) : Bool := PyData.eqv (toP d) (toP e)
def gEq (s t : Sl) (en : En) : Rs Sl := match dref en s, dref en t with
  | some d, some e => if nod d = true ∧ nod e = true ∧ min (dep d) (dep e) ≤ 150 then .ok (.fz (.bl (deq d e))) en else .no
  | _, _ => .no
def gNe (s t : Sl) (en : En) : Rs Sl := match dref en s, dref en t with
  | some d, some e => if nod d = true ∧ nod e = true ∧ min (dep d) (dep e) ≤ 150 then .ok (.fz (.bl (!deq d e))) en else .no
  | _, _ => .no
def rEqT (K : PySem.W.Frag) (n : Bool) : R2 := fun x y H Q => ∃ d e, RZ K (fun _ => False) H d x ∧ RZ K (fun _ => False) H e y ∧ nod d = true ∧ nod e = true ∧ min (dep d) (dep e) ≤ 150 ∧ Q (.bl (if n then !deq d e else deq d e)) H
theorem dep_of {d : D} (h : nod d = true) : (toP d).depth ≤ dep d := by
  rcases dep_toP d with k | k
  · exact k
  · rw [h] at k; cases k
theorem op_eqT (hu : X.A.units + 200 < cLine) : OpR X (compareOp .Eq) (rEqT X.K false) := by
  intro pins s σ H x y v u Q I rx ry h
  obtain ⟨d, e, hd, he, nd, ne, hm, q⟩ := h
  obtain ⟨as, r1⟩ := Dp.reads I (toP d) x v (RZ.dp _ _ hd nd) rx
  obtain ⟨bs, r2⟩ := Dp.reads I (toP e) y u (RZ.dp _ _ he ne) ry
  have := dep_of nd
  have := dep_of ne
  exact SeqAt.compareEq_reads r1 r2 (RZ.lay _ _ hd nd) (RZ.lay _ _ he ne) (by omega) ⟨.bl _, H, I, rfl, q⟩
theorem op_neT (hu : X.A.units + 200 < cLine) : OpR X (compareOp .NotEq) (rEqT X.K true) := by
  intro pins s σ H x y v u Q I rx ry h
  obtain ⟨d, e, hd, he, nd, ne, hm, q⟩ := h
  obtain ⟨as, r1⟩ := Dp.reads I (toP d) x v (RZ.dp _ _ hd nd) rx
  obtain ⟨bs, r2⟩ := Dp.reads I (toP e) y u (RZ.dp _ _ he ne) ry
  have := dep_of nd
  have := dep_of ne
  exact SeqAt.compareNe_reads r1 r2 (RZ.lay _ _ hd nd) (RZ.lay _ _ he ne) (by omega) ⟨.bl _, H, I, rfl, q⟩
theorem l_eq : Lift2 C (rEqT C.K false) gEq := by
  intro off0 Hb H ts tv en σ s t x y Q R q
  unfold gEq at q
  split at q
  · rename_i d e e1 e2
    split at q
    · rename_i h
      exact ⟨d, e, R.below.read e1, R.read e2, h.1, h.2.1, h.2.2, q H _ R.below.drop.pushB⟩
    · exact q.elim
  · exact q.elim
theorem l_ne : Lift2 C (rEqT C.K true) gNe := by
  intro off0 Hb H ts tv en σ s t x y Q R q
  unfold gNe at q
  split at q
  · rename_i d e e1 e2
    split at q
    · rename_i h
      exact ⟨d, e, R.below.read e1, R.read e2, h.1, h.2.1, h.2.2, q H _ R.below.drop.pushB⟩
    · exact q.elim
  · exact q.elim
/-- in: a sign in a text; a datum in a list or a tuple -/
def inDs (d : D) (ds : List D) : Option Bool := if nod d = true ∧ nods ds = true ∧ min (deps ds) (dep d) ≤ 150 then some (ds.any fun z => deq z d) else none
def inDt (d : D) : D → Option Bool
  | .str z => match d with
    | .str ⟨⟨[c]⟩⟩ => some (decide (c ∈ z.cps.toList))
    | _ => none
  | .lst ds => inDs d ds
  | .tup ds => inDs d ds
  | _ => none
def inD (en : En) (s t : Sl) : Option Bool := match dref en s, dref en t with
  | some d, some e => inDt d e
  | _, _ => none
def gIn (s t : Sl) (en : En) : Rs Sl := match inD en s t with
  | some b => .ok (.fz (.bl b)) en
  | none => .no
def gNotIn (s t : Sl) (en : En) : Rs Sl := match inD en s t with
  | some b => .ok (.fz (.bl (!b))) en
  | none => .no
def rInT (K : PySem.W.Frag) (n : Bool) : R2 := fun x y H Q => ∃ d ds, RZ K (fun _ => False) H d x ∧ (RZ K (fun _ => False) H (.lst ds) y ∨ RZ K (fun _ => False) H (.tup ds) y) ∧ nod d = true ∧ nods ds = true ∧ min (deps ds) (dep d) ≤ 150 ∧ Q (.bl (if n then !(ds.any fun z => deq z d) else ds.any fun z => deq z d)) H
theorem any_toPs (d : D) : ∀ ds : List D, ((toPs ds).any fun y => PyData.eqv y (toP d)) = ds.any fun z => deq z d
  | [] => by simp [toPs]
  | e :: ds => by simp only [toPs, List.any_cons, any_toPs d ds]; rfl
theorem deps_of {d : List D} (h : nods d = true) : PyData.depthAll (toPs d) ≤ deps d := by
  rcases deps_toPs d with k | k
  · exact k
  · rw [h] at k; cases k
theorem op_inT (hu : X.A.units + 200 < cLine) : OpR X (compareOp .In) (rInT X.K false) := by
  intro pins s σ H x y v u Q I rx ry h
  obtain ⟨d, ds, hd, he, nd, ne, hm, q⟩ := h
  obtain ⟨as, r1⟩ := Dp.reads I (toP d) x v (RZ.dp _ _ hd nd) rx
  have := dep_of nd
  have := deps_of ne
  have q : Q (.bl (ds.any fun z => deq z d)) H := q
  rw [← any_toPs] at q
  rcases he with he | he
  · obtain ⟨bs, r2⟩ := Dp.reads I (toP (.lst ds)) y u (RZ.dp _ _ he (by simpa [nod] using ne)) ry
    have ly : PyData.canLayAll0 (toPs ds) = true := by have := RZ.lay _ _ he (by simpa [nod] using ne); simpa [toP, PyData.canLay0] using this
    exact SeqAt.in_list_reads (xs := toPs ds) r2 r1 ly (RZ.lay _ _ hd nd) (by omega) ⟨.bl _, H, I, rfl, q⟩
  · obtain ⟨bs, r2⟩ := Dp.reads I (toP (.tup ds)) y u (RZ.dp _ _ he (by simpa [nod] using ne)) ry
    have ly : PyData.canLayAll0 (toPs ds) = true := by have := RZ.lay _ _ he (by simpa [nod] using ne); simpa [toP, PyData.canLay0] using this
    exact SeqAt.in_tuple_reads (xs := toPs ds) r2 r1 ly (RZ.lay _ _ hd nd) (by omega) ⟨.bl _, H, I, rfl, q⟩
theorem op_notInT (hu : X.A.units + 200 < cLine) : OpR X (compareOp .NotIn) (rInT X.K true) := by
  intro pins s σ H x y v u Q I rx ry h
  obtain ⟨d, ds, hd, he, nd, ne, hm, q⟩ := h
  obtain ⟨as, r1⟩ := Dp.reads I (toP d) x v (RZ.dp _ _ hd nd) rx
  have := dep_of nd
  have := deps_of ne
  have q : Q (.bl (!(ds.any fun z => deq z d))) H := q
  rw [← any_toPs] at q
  rcases he with he | he
  · obtain ⟨bs, r2⟩ := Dp.reads I (toP (.lst ds)) y u (RZ.dp _ _ he (by simpa [nod] using ne)) ry
    have ly : PyData.canLayAll0 (toPs ds) = true := by have := RZ.lay _ _ he (by simpa [nod] using ne); simpa [toP, PyData.canLay0] using this
    exact SeqAt.notIn_list_reads (xs := toPs ds) r2 r1 ly (RZ.lay _ _ hd nd) (by omega) ⟨.bl _, H, I, rfl, q⟩
  · obtain ⟨bs, r2⟩ := Dp.reads I (toP (.tup ds)) y u (RZ.dp _ _ he (by simpa [nod] using ne)) ry
    have ly : PyData.canLayAll0 (toPs ds) = true := by have := RZ.lay _ _ he (by simpa [nod] using ne); simpa [toP, PyData.canLay0] using this
    exact SeqAt.notIn_tuple_reads (xs := toPs ds) r2 r1 ly (RZ.lay _ _ hd nd) (by omega) ⟨.bl _, H, I, rfl, q⟩
def rInSign (n : Bool) : R2 := fun x y H Q => ∃ (c : Nat) (z : Str), x = .str ⟨#[c]⟩ ∧ y = .str z ∧ Q (.bl (if n then !decide (c ∈ z.cps.toList) else decide (c ∈ z.cps.toList))) H
theorem op_inAll (hu : X.A.units + 200 < cLine) : OpR X (compareOp .In) (fun x y H Q => rInSign false x y H Q ∨ rInT X.K false x y H Q) := OpR.or (r := rInSign false) op_in_sign (op_inT hu)
theorem op_notInAll (hu : X.A.units + 200 < cLine) : OpR X (compareOp .NotIn) (fun x y H Q => rInSign true x y H Q ∨ rInT X.K true x y H Q) := OpR.or (r := rInSign true) op_notIn_sign (op_notInT hu)
theorem l_inG {n : Bool} {s t : Sl} {x y : V} {b : Bool} {Q : VK} (R : Rep C.K off0 Hb H (t :: s :: ts) (y :: x :: tv) en σ) (e : inD en s t = some b) (q : Q (.bl (if n then !b else b)) H) : rInSign n x y H Q ∨ rInT C.K n x y H Q := by
  unfold inD at e
  split at e
  · rename_i d e' e1 e2
    cases e' with
    | str z =>
      unfold inDt at e
      dsimp only at e
      split at e
      · rename_i c
        have e : decide (c ∈ z.cps.toList) = b := by simpa using e
        subst e
        exact .inl ⟨c, z, (R.below.str e1).1, (R.str e2).1, q⟩
      · cases e
    | lst ds =>
      unfold inDt inDs at e
      dsimp only at e
      split at e
      · rename_i h
        have e : (ds.any fun z => deq z d) = b := by simpa using e
        subst e
        exact .inr ⟨d, ds, R.below.read e1, .inl (R.read e2), h.1, h.2.1, h.2.2, q⟩
      · cases e
    | tup ds =>
      unfold inDt inDs at e
      dsimp only at e
      split at e
      · rename_i h
        have e : (ds.any fun z => deq z d) = b := by simpa using e
        subst e
        exact .inr ⟨d, ds, R.below.read e1, .inr (R.read e2), h.1, h.2.1, h.2.2, q⟩
      · cases e
    | _ => simp [inDt] at e
  · cases e
theorem l_in : Lift2 C (fun x y H Q => rInSign false x y H Q ∨ rInT C.K false x y H Q) gIn := by
  intro off0 Hb H ts tv en σ s t x y Q R q
  unfold gIn at q
  split at q
  · rename_i b e
    exact l_inG (n := false) R e (q H _ R.below.drop.pushB)
  · exact q.elim
theorem l_notIn : Lift2 C (fun x y H Q => rInSign true x y H Q ∨ rInT C.K true x y H Q) gNotIn := by
  intro off0 Hb H ts tv en σ s t x y Q R q
  unfold gNotIn at q
  split at q
  · rename_i b e
    exact l_inG (n := true) R e (q H _ R.below.drop.pushB)
  · exact q.elim
def isNon : D → Bool
  | .non => true
  | _ => false
theorem isNon_iff {off : Addr → Prop} {d : D} {v : V} (h : RZ C.K off H d v) : decide (v = .non) = isNon d := by
  cases d with
  | non => unfold RZ at h; rw [h]; rfl
  | bl b => unfold RZ at h; rw [h]; rfl
  | int b => unfold RZ at h; rw [h]; rfl
  | str b => unfold RZ at h; rw [h.1]; rfl
  | tup b => unfold RZ at h; obtain ⟨a, vs, rfl, _⟩ := h; rfl
  | lst b => unfold RZ at h; obtain ⟨a, vs, rfl, _⟩ := h; rfl
  | dct b e => unfold RZ at h; obtain ⟨a, vs, rfl, _⟩ := h; rfl
def gIs (s t : Sl) (en : En) : Rs Sl := match dref en s, dref en t with
  | some d, some .non => .ok (.fz (.bl (isNon d))) en
  | _, _ => .no
def gIsNot (s t : Sl) (en : En) : Rs Sl := match dref en s, dref en t with
  | some d, some .non => .ok (.fz (.bl (!isNon d))) en
  | _, _ => .no
theorem l_is : Lift2 C (fun x y H Q => y = .non ∧ Q (.bl (decide (x = .non))) H) gIs := by
  intro off0 Hb H ts tv en σ s t x y Q R q
  unfold gIs at q
  split at q
  · rename_i d e1 e2
    refine ⟨R.non e2, ?_⟩
    rw [isNon_iff (R.below.read e1)]
    exact q H _ R.below.drop.pushB
  · exact q.elim
theorem l_isNot : Lift2 C (fun x y H Q => y = .non ∧ Q (.bl (!decide (x = .non))) H) gIsNot := by
  intro off0 Hb H ts tv en σ s t x y Q R q
  unfold gIsNot at q
  split at q
  · rename_i d e1 e2
    refine ⟨R.non e2, ?_⟩
    rw [isNon_iff (R.below.read e1)]
    exact q H _ R.below.drop.pushB
  · exact q.elim
end
end T
/-! T5: argument lists, displays, items, slices, built-ins, calls of defs. -/
namespace T
open PySem PySem.Spec L2
section
variable {C : Cv} {off0 : Addr → Prop} {Hb H H' : Hp} {ts : List Sl} {tv : List V} {en : En} {σ : L2.St} {X : Cx} {a b e : Expr} {es : List Expr} {pos : Pos} {f fa fb : Ev} {r : EvA}

/-! ### argument lists -/
def aNil : EvA := fun en => .ok [] en
def aCons (f : Ev) (r : EvA) : EvA := fun en => (f en).bind fun s e => (r e).bind fun ss e2 => .ok (s :: ss) e2
theorem da_nil : PA X [] (tDA C aNil) := PAimp pa_nil fun σ H Q ⟨off0, Hb, ts, tv, en, R, q⟩ => q H [] rfl R
theorem da_cons (he : PE X e (tD C f)) (hr : PA X es (tDA C r)) (hs : starEach (e :: es) X.env = (false, eval e X.env) :: starEach es X.env := by rfl) : PA X (e :: es) (tDA C (aCons f r)) := by
  refine PAimp (pa_cons he hr hs) ?_
  rintro σ H Q ⟨off0, Hb, ts, tv, en, R, q⟩
  unfold aCons at q
  refine ⟨off0, Hb, ts, tv, en, R, ?_⟩
  cases e1 : f en with
  | no => rw [e1] at q; exact q
  | ex c en' => rw [e1] at q; exact q
  | ok s en' =>
    rw [e1] at q
    have q : PostA C off0 Hb ts tv σ Q ((r en').bind fun ss e2 => .ok (s :: ss) e2) := q
    refine fun H' v R' => ⟨off0, Hb, s :: ts, v :: tv, en', R', ?_⟩
    cases e2 : r en' with
    | no => rw [e2] at q; exact q
    | ex c e3 => rw [e2] at q; exact fun H2 R2 => q H2 R2.drop
    | ok ss e3 =>
      rw [e2] at q
      intro H2 vs l R2
      refine q H2 (v :: vs) (by simp [l]) ?_
      simpa using R2
def vA (fa : EvA) (g : List Sl → En → Rs Sl) : Ev := fun en => (fa en).bind fun ss e1 => g ss e1
def LiftA (C : Cv) (r : List V → Hp → VK → Prop) (g : List Sl → En → Rs Sl) : Prop := ∀ (off0 : Addr → Prop) (Hb H : Hp) (ts : List Sl) (tv : List V) (en : En) (σ : L2.St) (ss : List Sl) (vs : List V) (Q : VK),
  vs.length = ss.length → Rep C.K off0 Hb H (ss.reverse ++ ts) (vs.reverse ++ tv) en σ → Post C off0 Hb ts tv σ Q (g ss en) → r vs H Q
theorem tDA.step {f : EvA} {k : List Sl → En → Rs Sl} {Q : VK} {Q' : List V → Hp → Prop} (R : Rep C.K off0 Hb H ts tv en σ) (q : Post C off0 Hb ts tv σ Q ((f en).bind k))
    (h : ∀ ss en' H' vs, f en = .ok ss en' → vs.length = ss.length → Rep C.K off0 Hb H' (ss.reverse ++ ts) (vs.reverse ++ tv) en' σ → Post C off0 Hb ts tv σ Q (k ss en') → Q' vs H') : tDA C f σ H Q' := by
  refine ⟨off0, Hb, ts, tv, en, R, ?_⟩
  cases e : f en with
  | no => rw [e] at q; exact q
  | ex c en' => rw [e] at q; exact q
  | ok s en' => rw [e] at q; exact fun H' v l R' => h s en' H' v e l R' q
theorem liftA {r : List V → Hp → VK → Prop} {g : List Sl → En → Rs Sl} {fa : EvA} (L : LiftA C r g) : ∀ σ H Q, tD C (vA fa g) σ H Q → tCB r (tDA C fa) σ H Q := by
  rintro σ H Q ⟨off0, Hb, ts, tv, en, R, q⟩
  exact tDA.step R q fun ss en' H' vs _ l R' q' => L off0 Hb H' ts tv en' σ ss vs Q l R' q'
theorem Rep.dropA {ss : List Sl} {vs : List V} (R : Rep C.K off0 Hb H (ss.reverse ++ ts) (vs.reverse ++ tv) en σ) (l : vs.length = ss.length) : Rep C.K off0 Hb H ts tv en σ := R.dropN (by simp [l])
theorem len1 {s : Sl} {vs : List V} (l : vs.length = [s].length) : ∃ v, vs = [v] := by
  cases vs with
  | nil => simp at l
  | cons v r => cases r with
    | nil => exact ⟨v, rfl⟩
    | cons _ _ => simp at l
theorem len2 {s t : Sl} {vs : List V} (l : vs.length = [s, t].length) : ∃ v w, vs = [v, w] := by
  cases vs with
  | nil => simp at l
  | cons v r => cases r with
    | nil => simp at l
    | cons w r => cases r with
      | nil => exact ⟨v, w, rfl⟩
      | cons _ _ => simp at l
/-- a step of one argument -/
theorem LiftA.one {r : List V → Hp → VK → Prop} {g : Sl → En → Rs Sl} (h : Lift1 C (fun x H Q => r [x] H Q) g) : LiftA C r (fun ss en => match ss with
    | [s] => g s en
    | _ => .no) := by
  intro off0 Hb H ts tv en σ ss vs Q l R q
  match ss, l, R, q with
  | [s], l, R, q =>
    obtain ⟨v, rfl⟩ := len1 l
    exact h off0 Hb H ts tv en σ s v Q R q
  | [], _, _, q => exact q.elim
  | _ :: _ :: _, _, _, q => exact q.elim
theorem LiftA.two {r : List V → Hp → VK → Prop} {g : Sl → Sl → En → Rs Sl} (h : Lift2 C (fun x y H Q => r [x, y] H Q) g) : LiftA C r (fun ss en => match ss with
    | [s, t] => g s t en
    | _ => .no) := by
  intro off0 Hb H ts tv en σ ss vs Q l R q
  match ss, l, R, q with
  | [s, t], l, R, q =>
    obtain ⟨v, w, rfl⟩ := len2 l
    exact h off0 Hb H ts tv en σ s t v w Q R q
  | [], _, _, q => exact q.elim
  | [_], _, _, q => exact q.elim
  | _ :: _ :: _ :: _, _, _, q => exact q.elim
def g1 (g : Sl → En → Rs Sl) (ss : List Sl) (en : En) : Rs Sl := match ss with
  | [s] => g s en
  | _ => .no
def g2 (g : Sl → Sl → En → Rs Sl) (ss : List Sl) (en : En) : Rs Sl := match ss with
  | [s, t] => g s t en
  | _ => .no
theorem lift_g1 {r : List V → Hp → VK → Prop} {g : Sl → En → Rs Sl} (h : Lift1 C (fun x H Q => r [x] H Q) g) : LiftA C r (g1 g) := LiftA.one h
theorem lift_g2 {r : List V → Hp → VK → Prop} {g : Sl → Sl → En → Rs Sl} (h : Lift2 C (fun x y H Q => r [x, y] H Q) g) : LiftA C r (g2 g) := LiftA.two h

/-! ### displays -/
def gTup (ss : List Sl) (en : En) : Rs Sl := if ss.length ≤ sizeLine then (match own ss with
    | some ds => .ok (mkS true (.tup ds)) en
    | none => match shr ss with
      | some ds => .ok (.fz (.tup ds)) en
      | none => .no) else .no
def gLst (ss : List Sl) (en : En) : Rs Sl := if ss.length ≤ sizeLine then (match own ss with
    | some ds => .ok (.ow (.lst ds)) en
    | none => match shr ss with
      | some ds => .ok (.fz (.lst ds)) en
      | none => .no) else .no
theorem mkS_lst {o : Bool} {ds : List D} : mkS o (.lst ds) = if o then .ow (.lst ds) else .fz (.lst ds) := by
  unfold mkS flat
  rw [if_neg Bool.false_ne_true]
theorem goNew {off : Addr → Prop} {p : Addr} {o : HO} (np : H p = none) : Go off H off (upd H p o) := fun a x n e => ⟨n, same_new np a x e⟩
theorem l_tup : LiftA C (fun xs H Q => xs.length ≤ sizeLine ∧ ∀ p, H p = none → Q (.ref p) (upd H p (.tup xs))) gTup := by
  intro off0 Hb H ts tv en σ ss vs Q l R q
  unfold T.gTup at q
  split at q
  · rename_i hz
    refine ⟨by rw [l]; exact hz, fun p np => ?_⟩
    split at q
    · rename_i ds e
      refine q _ _ (R.mkO l e (same_new np) fun G h => ⟨[], G, List.nodup_nil, (fun _ z => nomatch z), .refl _, ?_⟩)
      unfold RO
      exact ⟨p, vs, rfl, .inl upd_same, ROs.stay (sameT (same_new np)) _ _ _ h fun a ha => (by obtain ⟨o, e⟩ := ROs.there _ _ _ h a ha; rw [upd_ne (ne_of_none e np)])⟩
    · split at q
      · rename_i ds e
        refine q _ _ (R.mkZ l e (same_new np) fun off dom h => ?_)
        unfold RZ
        exact ⟨p, vs, rfl, .inl upd_same, RZs.go (sameT (same_new np)) (goNew np) _ _ h⟩
      · exact q.elim
  · exact q.elim
theorem l_lst : LiftA C (fun xs H Q => xs.length ≤ sizeLine ∧ ∀ p, H p = none → Q (.ref p) (upd H p (.lst xs))) gLst := by
  intro off0 Hb H ts tv en σ ss vs Q l R q
  unfold gLst at q
  split at q
  · rename_i hz
    refine ⟨by rw [l]; exact hz, fun p np => ?_⟩
    split at q
    · rename_i ds e
      have z := R.mkO (v := .ref p) (d := .lst ds) l e (same_new (o := .lst vs) np) fun G h => ⟨[p], p :: G, by simp, (fun a ha => by rw [List.mem_singleton.mp ha]; exact np), .refl _, by
        unfold RO
        exact ⟨p, vs, G, rfl, rfl, upd_same, ROs.stay (sameT (same_new np)) _ _ _ h fun a ha => (by obtain ⟨o, e⟩ := ROs.there _ _ _ h a ha; rw [upd_ne (ne_of_none e np)])⟩⟩
      rw [mkS_lst] at z
      exact q _ _ z
    · split at q
      · rename_i ds e
        refine q _ _ (R.mkZ l e (same_new np) fun off dom h => ?_)
        unfold RZ
        exact ⟨p, vs, rfl, fun z => (by obtain ⟨o, e⟩ := dom p z; rw [np] at e; cases e), upd_same, RZs.go (sameT (same_new np)) (goNew np) _ _ h⟩
      · exact q.elim
  · exact q.elim
theorem d_tup {x1} {fs : EvA} (h : PA X es (tDA C fs)) : PE X (.Tuple es x1 pos) (tD C (vA fs gTup)) := PEimp (pe_tup h) (liftA l_tup)
theorem d_lst {fs : EvA} (h : PA X es (tDA C fs)) : PE X (.List es pos) (tD C (vA fs gLst)) := PEimp (pe_lst h) (liftA l_lst)

/-! ### items -/
theorem Rep.mk1 {s : Sl} {x v : V} {d d0 : D} (R : Rep C.K off0 Hb H (s :: ts) (x :: tv) en σ) (e : shr1 s = some d0) (sm : Same H H') (h : ∀ off, (∀ a, off a → ∃ o, H a = some o) → RZ C.K off H d0 x → RZ C.K off H' d v) : Rep C.K off0 Hb H' (.fz d :: ts) (v :: tv) en σ := by
  refine Rep.mkZ (ss := [s]) (vs := [x]) (ds := [d0]) R rfl (by simp [shr, e]) sm fun off dom z => ?_
  unfold RZs RZs at z
  obtain ⟨v1, r1, er, z1, _⟩ := z
  cases er
  exact h off dom z1
theorem rzs_tup {off : Addr → Prop} {xs : List D} {a : Addr} (h : RZ C.K off H (.tup xs) (.ref a)) : ∃ vs, TupAt C.K H a vs ∧ RZs C.K off H xs vs := by
  unfold RZ at h
  obtain ⟨b, ws, e1, q, r⟩ := h
  cases e1
  exact ⟨ws, q, r⟩
theorem rzs_at {off : Addr → Prop} {ds : List D} {vs : List V} {i : Int} {d : D} (h : RZs C.K off H ds vs) (e : atI ds i = some d) : ∃ v, atI vs i = some v ∧ RZ C.K off H d v := by
  unfold atI at e ⊢
  rw [h.length]
  cases hi : ixN ds.length i with
  | none => rw [hi] at e; cases e
  | some j =>
    rw [hi] at e
    obtain ⟨v, h1, h2⟩ := h.get (show ds[j]? = some d from e)
    exact ⟨v, h1, h2⟩
theorem shr1_dref {s : Sl} {d d0 : D} (e : shr1 s = some d0) (e1 : dref en s = some d) : d0 = d := by
  cases s with
  | fz _ => simp [shr1] at e; simp [dref] at e1; rw [← e, e1]
  | ow _ => simp [shr1] at e; simp [dref] at e1; rw [← e, e1]
  | _ => simp [shr1] at e
/-- a part of a value in hand -/
def part (s : Sl) (d : D) (en : En) : Rs Sl := if flat d then .ok (.fz d) en else match shr1 s with
  | some _ => .ok (.fz d) en
  | none => .no
def gIx (s t : Sl) (en : En) : Rs Sl := match s, dref en t with
  | .rd ns, some (.int i) => match atI ns i with
    | some n => .ok (.fz (.int n)) en
    | none => .no
  | s, some (.int i) => match dref en s with
    | some (.lst ds) => match atI ds i with
      | some d => part s d en
      | none => .no
    | some (.tup ds) => match atI ds i with
      | some d => part s d en
      | none => .no
    | some (.str z) => if z.length ≤ sizeLine then (match atI z.cps.toList i with
        | some c => .ok (.fz (.str ⟨#[c]⟩)) en
        | none => .no) else .no
    | _ => .no
  | _, _ => .no
theorem atI_map {α β : Type} (f : α → β) {xs : List α} {i : Int} {x : α} (h : atI xs i = some x) : atI (xs.map f) i = some (f x) := by
  unfold atI at h ⊢
  rw [List.length_map]
  cases hi : ixN xs.length i with
  | none => rw [hi] at h; cases h
  | some j =>
    rw [hi] at h
    have h : xs[j]? = some x := h
    show (xs.map f)[j]? = _
    rw [List.getElem?_map, h]
    rfl
theorem Rep.rdAt {s : Sl} {x : V} {ns : List Int} (R : Rep C.K off0 Hb H (.rd ns :: ts) (x :: tv) en σ) : ∃ a, x = .ref a ∧ SqL C.K H a (ns.map V.int) := by
  obtain ⟨F, ⟨y, r, G, G', e1, rfl, h1, h2⟩, _⟩ := R.ex
  obtain ⟨rfl, rfl⟩ : some x = y ∧ tv.map some ++ σ = r := by simpa using e1
  obtain ⟨_, a, e, q⟩ := h1
  cases e
  exact ⟨a, rfl, q.sq⟩
theorem strOk_at {z : Str} {i : Int} {c : Nat} (h : PyData.strOk z = true) (e : atI z.cps.toList i = some c) : PyData.strOk ⟨#[c]⟩ = true := by
  obtain ⟨j, _, hj, _⟩ := atI_get e
  have hm : c ∈ z.cps := by simpa using List.mem_of_getElem? hj
  have hc := Array.all_eq_true_iff_forall_mem.mp h c hm
  show (#[c] : Array Nat).all _ = true
  simpa using hc
theorem part_src {s : Sl} {x : V} {d d0 : D} {Q : VK} (R : Rep C.K off0 Hb H (s :: ts) (x :: tv) en σ) (q : Post C off0 Hb ts tv σ Q (part s d en)) (e : dref en s = some d0) : ∃ off, RZ C.K off H d0 x ∧ ∀ v, RZ C.K off H d v → Q v H := by
  unfold part at q
  split at q
  · rename_i f
    exact ⟨_, R.read e, fun v h => q _ _ (R.drop.const f h)⟩
  · split at q
    · rename_i d' e'
      have := shr1_dref e' e
      subst this
      obtain ⟨off, _, h1, h2⟩ := R.expose e'
      exact ⟨off, h1, fun v h => q _ _ (h2 H d v (fun _ _ z => z) h)⟩
    · exact q.elim
theorem l_ix : Lift2 C (rIx C.K) gIx := by
  intro off0 Hb H ts tv en σ s t x y Q R q
  unfold gIx at q
  split at q
  · rename_i ns i e
    split at q
    · rename_i n en'
      obtain ⟨a, rfl, hs⟩ := R.below.rdAt (s := .none)
      exact .inl ⟨a, _, i, .int n, rfl, R.int e, hs, atI_map V.int en', q _ _ R.below.drop.pushI⟩
    · exact q.elim
  · rename_i i _ e
    split at q
    · rename_i ds e1
      split at q
      · rename_i d e2
        obtain ⟨off, h1, h2⟩ := part_src R.below q e1
        unfold RZ at h1
        obtain ⟨a, vs, rfl, _, ha, ra⟩ := h1
        obtain ⟨v, hv, z⟩ := rzs_at ra e2
        exact .inl ⟨a, vs, i, v, rfl, R.int e, .of ha, hv, h2 v z⟩
      · exact q.elim
    · rename_i ds e1
      split at q
      · rename_i d e2
        obtain ⟨off, h1, h2⟩ := part_src R.below q e1
        unfold RZ at h1
        obtain ⟨a, vs, rfl, ha, ra⟩ := h1
        obtain ⟨v, hv, z⟩ := rzs_at ra e2
        exact .inr (.inl ⟨a, vs, i, v, rfl, R.int e, ha.sq, hv, h2 v z⟩)
      · exact q.elim
    · rename_i z e1
      split at q
      · rename_i hz
        split at q
        · rename_i c e2
          obtain ⟨rfl, k⟩ := R.below.str e1
          exact .inr (.inr ⟨z, i, c, rfl, R.int e, hz, e2, q _ _ (R.below.drop.pushT (strOk_at k e2))⟩)
        · exact q.elim
      · exact q.elim
    · exact q.elim
  · exact q.elim
theorem d_ix (ha : PE X a (tD C fa)) (hb : PE X b (tD C fb)) (hK : C.K = X.K) (hs : PlainIx b := by exact fun _ _ => rfl) : PE X (.Subscript a b pos) (tD C (v2 fa fb gIx)) :=
  PEimp (pe_ix ix_seq ha hb hs) (by rw [← hK]; exact lift2 l_ix)
end
end T
/-! T6: slices, built-ins, methods, calls of defs. -/
namespace T
open PySem PySem.Spec L2
section
variable {C : Cv} {off0 : Addr → Prop} {Hb H H' : Hp} {ts : List Sl} {tv : List V} {en : En} {σ : L2.St} {X : Cx} {a b e : Expr} {es : List Expr} {pos : Pos} {f fa fb : Ev} {r : EvA}

/-! ### slices -/
def cutL {α : Type} (xs : List α) (lo hi : Option Int) : List α := (xs.drop (HT.sIx xs.length 0 lo)).take (HT.sIx xs.length xs.length hi - HT.sIx xs.length 0 lo)
def oPart (o : Option Ev) (en : En) : Rs (Option Int) := match o with
  | none => .ok none en
  | some f => (f en).bind fun s e => match dref e s with
    | some (.int i) => .ok (some i) e
    | _ => .no
def gSl (s : Sl) (lo hi : Option Int) (en : En) : Rs Sl := match s with
  | .rd ns => .ok (.ow (.lst ((cutL ns lo hi).map .int))) en
  | s => match dref en s with
    | some (.lst ds) => if flats ds then .ok (.ow (.lst (cutL ds lo hi))) en else (match shr1 s with
      | some _ => .ok (.fz (.lst (cutL ds lo hi))) en
      | none => .no)
    | some (.tup ds) => if flats ds then .ok (.fz (.tup (cutL ds lo hi))) en else .no
    | some (.str z) => if z.length ≤ sizeLine then .ok (.fz (.str (cutS z lo hi))) en else .no
    | _ => .no
def vSl (f : Ev) (lo hi : Option Ev) : Ev := fun en => (f en).bind fun s e1 => (oPart lo e1).bind fun l e2 => (oPart hi e2).bind fun h e3 => gSl s l h e3
theorem flats_take : ∀ {ds : List D} (n : Nat), flats ds = true → flats (ds.take n) = true
  | _, 0, _ => by simp [flats]
  | [], n + 1, _ => by simp [flats]
  | d :: ds, n + 1, h => by
    have h : flat d = true ∧ flats ds = true := by simpa [flats] using h
    simp [flats, h.1, flats_take n h.2]
theorem flats_drop : ∀ {ds : List D} (n : Nat), flats ds = true → flats (ds.drop n) = true
  | _, 0, h => h
  | [], n + 1, _ => by simp [flats]
  | d :: ds, n + 1, h => by
    have h : flat d = true ∧ flats ds = true := by simpa [flats] using h
    exact flats_drop n h.2
theorem flats_cut {ds : List D} {lo hi : Option Int} (h : flats ds = true) : flats (cutL ds lo hi) = true := flats_take _ (flats_drop _ h)
theorem RZs.cut {K : PySem.W.Frag} {off : Addr → Prop} {ds : List D} {vs : List V} {lo hi : Option Int} (h : RZs K off H ds vs) : RZs K off H (cutL ds lo hi) (cutV vs lo hi) := by
  unfold cutL cutV
  rw [h.length]
  exact (h.drop _).take _
theorem cutL_map {α β : Type} (f : α → β) (xs : List α) (lo hi : Option Int) : cutL (xs.map f) lo hi = (cutL xs lo hi).map f := by
  unfold cutL
  rw [List.length_map, List.map_take, List.map_drop]
theorem flats_ints : ∀ ns : List Int, flats (ns.map D.int) = true
  | [] => by simp [flats]
  | n :: ns => by simp [flats, flat, flats_ints ns]
theorem rzs_ints {K : PySem.W.Frag} {off : Addr → Prop} : ∀ ns : List Int, RZs K off H (ns.map D.int) (ns.map V.int)
  | [] => .nil
  | n :: ns => .cons rzint (rzs_ints ns)
theorem strOk_sub {z : Str} {l : List Nat} (h : PyData.strOk z = true) (s : ∀ c ∈ l, c ∈ z.cps.toList) : PyData.strOk ⟨l.toArray⟩ = true := by
  refine Array.all_eq_true_iff_forall_mem.mpr fun c hc => ?_
  have hm : c ∈ z.cps := by simpa using s c (by simpa using hc)
  exact Array.all_eq_true_iff_forall_mem.mp h c hm
theorem strOk_cut {z : Str} {lo hi : Option Int} (h : PyData.strOk z = true) : PyData.strOk (cutS z lo hi) = true :=
  strOk_sub h fun c hc => List.mem_of_mem_drop (List.mem_of_mem_take hc)
def rSlAll (K : PySem.W.Frag) : V → Option Int → Option Int → Hp → VK → Prop := fun x lo hi H Q => rSlL K x lo hi H Q ∨ rSlA K x lo hi H Q ∨ rSlS x lo hi H Q
theorem sl_all : SlR X (rSlAll X.K) := sl_list.or (sl_tupA.or sl_str)
theorem cut_whole {α : Type} {xs : List α} {lo hi : Option Int} (h : HT.sIx xs.length 0 lo = 0 ∧ HT.sIx xs.length xs.length hi = xs.length) : cutL xs lo hi = xs := by
  unfold cutL
  rw [h.1, h.2]
  simp
theorem l_sl {s : Sl} {x : V} {lo hi : Option Int} {Q : VK} (R : Rep C.K off0 Hb H (s :: ts) (x :: tv) en σ) (q : Post C off0 Hb ts tv σ Q (gSl s lo hi en)) : rSlAll C.K x lo hi H Q := by
  unfold gSl at q
  split at q
  · rename_i ns
    obtain ⟨a, rfl, hs⟩ := R.rdAt (s := .none)
    refine .inl ⟨a, _, rfl, hs, fun p np => ?_⟩
    refine q _ _ (R.drop.newL np (flats_ints _) ?_)
    have e : cutV (ns.map V.int) lo hi = (cutL ns lo hi).map V.int := cutL_map V.int ns lo hi
    rw [e]
    exact rzs_ints _
  · split at q
    · rename_i ds e1
      split at q
      · rename_i fl
        obtain ⟨a, vs, rfl, ha, ra⟩ := R.lst e1
        exact .inl ⟨a, vs, rfl, .of ha, fun p np => q _ _ (R.drop.newL np (flats_cut fl) ra.cut)⟩
      · split at q
        · rename_i d' e'
          have := shr1_dref e' e1
          subst this
          obtain ⟨a, vs, rfl, ha, ra⟩ := R.lst e1
          refine .inl ⟨a, vs, rfl, .of ha, fun p np => q _ _ (R.mk1 e' (same_new np) fun off dom z => ?_)⟩
          have z' := rzs_lst z ha
          unfold RZ
          exact ⟨p, _, rfl, fun w => (by obtain ⟨o, e⟩ := dom p w; rw [np] at e; cases e), upd_same, RZs.go (sameT (same_new np)) (goNew np) _ _ z'.cut⟩
        · exact q.elim
    · rename_i ds e1
      split at q
      · rename_i fl
        obtain ⟨a, vs, rfl, ha, ra⟩ := R.tup e1
        refine .inr (.inl ⟨a, vs, rfl, ha.sq, fun w => ?_, fun w p np => q _ _ (R.drop.newT np (flats_cut fl) ra.cut)⟩)
        have e : cutL ds lo hi = ds := cut_whole (by rw [← ra.length]; exact w)
        rw [e] at q
        refine q _ _ (R.drop.const (by unfold flat; exact fl) (off := fun _ => False) ?_)
        unfold RZ
        exact ⟨a, vs, rfl, ha, ra⟩
      · exact q.elim
    · rename_i z e1
      split at q
      · rename_i hz
        obtain ⟨rfl, k⟩ := R.str e1
        exact .inr (.inr ⟨z, rfl, hz, q _ _ (R.drop.pushT (strOk_cut k))⟩)
      · exact q.elim
    · exact q.elim
def tDO (C : Cv) (o : Option Ev) : TO := match o with
  | none => tNoPart
  | some f => tPart (tD C f)
theorem do_none : PO X none (tDO C none) := po_none
theorem do_some (h : PE X e (tD C f)) : PO X (some e) (tDO C (some f)) := po_some h
theorem tDO.step {s : Sl} {v : V} {o : Option Ev} {k : Option Int → En → Rs Sl} {Q : VK} {Q' : Option Int → Hp → Prop} (R : Rep C.K off0 Hb H (s :: ts) (v :: tv) en σ) (q : Post C off0 Hb ts tv σ Q ((oPart o en).bind k))
    (h : ∀ l en' H', Rep C.K off0 Hb H' (s :: ts) (v :: tv) en' σ → Post C off0 Hb ts tv σ Q (k l en') → Q' l H') : tDO C o σ H Q' := by
  cases o with
  | none => exact h none en H R q
  | some f =>
    have q : Post C off0 Hb ts tv σ Q ((f en).bind fun s e => Rs.bind (match dref e s with
      | some (.int i) => .ok (some i) e
      | _ => .no) k) := by
      unfold oPart at q
      rw [Rs.bind_assoc] at q
      exact q
    refine ⟨off0, Hb, s :: ts, v :: tv, en, R, Post.under q fun t en' H' y _ R' q' => ?_⟩
    split at q'
    · rename_i i e
      exact ⟨i, R'.int e, h (some i) en' H' R'.drop q'⟩
    · exact q'.elim
theorem d_sl {lo hi : Option Expr} {p2 : Pos} {ol oh : Option Ev} (he : PE X e (tD C f)) (hl : PO X lo (tDO C ol)) (hh : PO X hi (tDO C oh)) (hK : C.K = X.K) : PE X (.Subscript e (.Slice lo hi none p2) pos) (tD C (vSl f ol oh)) := by
  refine PEimp (pe_slice sl_all he hl hh) ?_
  rintro σ H Q ⟨off0, Hb, ts, tv, en, R, q⟩
  refine tD.step R q fun s e1 H1 v _ R1 q1 => tDO.step R1 q1 fun l e2 H2 R2 q2 => tDO.step R2 q2 fun h e3 H3 R3 q3 => ?_
  rw [← hK]
  exact l_sl R3 q3

/-! ### len, list, tuple, int, isinstance -/
def lenD : D → Option Nat
  | .lst ds => some ds.length
  | .tup ds => some ds.length
  | .str z => if z.length ≤ sizeLine then some z.length else none
  | _ => none
def gLen (s : Sl) (en : En) : Rs Sl := match s with
  | .rd ns => .ok (.fz (.int ns.length)) en
  | s => match dref en s with
    | some d => match lenD d with
      | some n => .ok (.fz (.int n)) en
      | none => .no
    | none => .no
theorem l_len : Lift1 C (fun x H Q => ∃ y n, [x] = [y] ∧ LenV C.K y H n ∧ Q (.int n) H) gLen := by
  intro off0 Hb H ts tv en σ s x Q R q
  unfold gLen at q
  split at q
  · rename_i ns
    obtain ⟨a, rfl, hs⟩ := R.rdAt (s := .none)
    exact ⟨_, _, rfl, .inl ⟨_, hs, by rw [List.length_map]⟩, q _ _ R.drop.pushI⟩
  · split at q
    · rename_i d e
      cases d with
      | lst ds =>
        obtain ⟨a, vs, rfl, ha, ra⟩ := R.lst e
        exact ⟨_, _, rfl, .inl ⟨_, .of ha, ra.length.symm⟩, q _ _ R.drop.pushI⟩
      | tup ds =>
        obtain ⟨a, vs, rfl, ha, ra⟩ := R.tup e
        exact ⟨_, _, rfl, .inr ⟨_, ha.sq, ra.length.symm⟩, q _ _ R.drop.pushI⟩
      | str z =>
        unfold lenD at q
        dsimp only at q
        by_cases hz : z.length ≤ sizeLine
        · rw [if_pos hz] at q
          obtain ⟨rfl, k⟩ := R.str e
          exact ⟨_, _, rfl, ⟨hz, rfl⟩, q _ _ R.drop.pushI⟩
        · rw [if_neg hz] at q
          exact q.elim
      | _ => exact q.elim
    · exact q.elim
/-- a copy as a list -/
def gList (s : Sl) (en : En) : Rs Sl := match s with
  | .rd ns => .ok (.ow (.lst (ns.map .int))) en
  | s => match dref en s with
    | some (.lst ds) => if flats ds then .ok (.ow (.lst ds)) en else (match shr1 s with
      | some _ => .ok (.fz (.lst ds)) en
      | none => .no)
    | some (.tup ds) => if flats ds then .ok (.ow (.lst ds)) en else (match shr1 s with
      | some _ => .ok (.fz (.lst ds)) en
      | none => .no)
    | _ => .no
theorem l_list : Lift1 C (fun x H Q => ∃ p ys, [x] = [.ref p] ∧ (SqL C.K H p ys ∨ SqT C.K H p ys) ∧ ∀ l, H l = none → Q (.ref l) (upd H l (.lst ys))) gList := by
  intro off0 Hb H ts tv en σ s x Q R q
  unfold gList at q
  split at q
  · rename_i ns
    obtain ⟨a, rfl, hs⟩ := R.rdAt (s := .none)
    exact ⟨_, _, rfl, .inl hs, fun p np => q _ _ (R.drop.newL np (flats_ints _) (rzs_ints _))⟩
  · split at q
    · rename_i ds e1
      split at q
      · rename_i fl
        obtain ⟨a, vs, rfl, ha, ra⟩ := R.lst e1
        exact ⟨a, vs, rfl, .inl (.of ha), fun p np => q _ _ (R.drop.newL np fl ra)⟩
      · split at q
        · rename_i d' e'
          have := shr1_dref e' e1
          subst this
          obtain ⟨a, vs, rfl, ha, ra⟩ := R.lst e1
          refine ⟨a, vs, rfl, .inl (.of ha), fun p np => q _ _ (R.mk1 e' (same_new np) fun off dom z => ?_)⟩
          have z' := rzs_lst z ha
          unfold RZ
          exact ⟨p, _, rfl, fun w => (by obtain ⟨o, e⟩ := dom p w; rw [np] at e; cases e), upd_same, RZs.go (sameT (same_new np)) (goNew np) _ _ z'⟩
        · exact q.elim
    · rename_i ds e1
      split at q
      · rename_i fl
        obtain ⟨a, vs, rfl, ha, ra⟩ := R.tup e1
        exact ⟨a, vs, rfl, .inr ha.sq, fun p np => q _ _ (R.drop.newL np fl ra)⟩
      · split at q
        · rename_i d' e'
          have := shr1_dref e' e1
          subst this
          obtain ⟨off, dom, z, fin⟩ := R.expose e'
          unfold RZ at z
          obtain ⟨a, vs, rfl, ha, ra⟩ := z
          refine ⟨a, vs, rfl, .inr ha.sq, fun p np => q _ _ (fin _ _ _ (same_new np) ?_)⟩
          unfold RZ
          exact ⟨p, _, rfl, fun w => (by obtain ⟨o, e⟩ := dom p w; rw [np] at e; cases e), upd_same, RZs.go (sameT (same_new np)) (goNew np) _ _ ra⟩
        · exact q.elim
    · exact q.elim
/-- as a tuple -/
def gTupOf (s : Sl) (en : En) : Rs Sl := match dref en s with
  | some (.lst ds) => if flats ds then .ok (.fz (.tup ds)) en else (match shr1 s with
    | some _ => .ok (.fz (.tup ds)) en
    | none => .no)
  | some (.tup ds) => if flats ds then .ok (.fz (.tup ds)) en else .no
  | _ => .no
theorem l_tupOf : Lift1 C (fun x H Q => ∃ p ys, [x] = [.ref p] ∧ ((SqL C.K H p ys ∧ ∀ l, H l = none → Q (.ref l) (upd H l (.tup ys))) ∨ (SqT C.K H p ys ∧ Q (.ref p) H))) gTupOf := by
  intro off0 Hb H ts tv en σ s x Q R q
  unfold gTupOf at q
  split at q
  · rename_i ds e1
    split at q
    · rename_i fl
      obtain ⟨a, vs, rfl, ha, ra⟩ := R.lst e1
      exact ⟨a, vs, rfl, .inl ⟨.of ha, fun p np => q _ _ (R.drop.newT np fl ra)⟩⟩
    · split at q
      · rename_i d' e'
        have := shr1_dref e' e1
        subst this
        obtain ⟨a, vs, rfl, ha, ra⟩ := R.lst e1
        refine ⟨a, vs, rfl, .inl ⟨.of ha, fun p np => q _ _ (R.mk1 e' (same_new np) fun off dom z => ?_)⟩⟩
        have z' := rzs_lst z ha
        unfold RZ
        exact ⟨p, _, rfl, .inl upd_same, RZs.go (sameT (same_new np)) (goNew np) _ _ z'⟩
      · exact q.elim
  · rename_i ds e1
    split at q
    · rename_i fl
      obtain ⟨a, vs, rfl, ha, ra⟩ := R.tup e1
      refine ⟨a, vs, rfl, .inr ⟨ha.sq, q _ _ (R.drop.const (by unfold flat; exact fl) (off := fun _ => False) ?_)⟩⟩
      unfold RZ
      exact ⟨a, vs, rfl, ha, ra⟩
    · exact q.elim
  · exact q.elim
def gInt (s : Sl) (en : En) : Rs Sl := match dref en s with
  | some (.int i) => .ok (.fz (.int i)) en
  | some (.bl b) => .ok (.fz (.int (if b then 1 else 0))) en
  | _ => .no
theorem l_int : Lift1 C (fun x H Q => (∃ i, [x] = [.int i] ∧ Q (.int i) H) ∨ ∃ k, [x] = [.bl k] ∧ Q (.int (if k then 1 else 0)) H) gInt := by
  intro off0 Hb H ts tv en σ s x Q R q
  unfold gInt at q
  split at q
  · rename_i i e
    exact .inl ⟨i, by rw [R.int e], q _ _ R.drop.pushI⟩
  · rename_i i e
    exact .inr ⟨i, by rw [R.bl e], q _ _ R.drop.pushI⟩
  · exact q.elim
def gStr (s : Sl) (en : En) : Rs Sl := match dref en s with
  | some (.int i) => if i.natAbs.log2 < 1920 ∧ PyData.strOk (toString i) = true then .ok (.fz (.str (toString i))) en else .no
  | _ => .no
theorem l_str : Lift1 C (fun x H Q => ∃ i : Int, [x] = [.int i] ∧ i.natAbs.log2 < 1920 ∧ Q (.str (toString i)) H) gStr := by
  intro off0 Hb H ts tv en σ s x Q R q
  unfold gStr at q
  split at q
  · rename_i i e
    split at q
    · rename_i h
      exact ⟨i, by rw [R.int e], h.1, q _ _ (R.drop.pushT h.2)⟩
    · exact q.elim
  · exact q.elim
inductive Ty where
  | int | bool | str | list | tuple | dict
def Ty.nm : Ty → String
  | .int => "int" | .bool => "bool" | .str => "str" | .list => "list" | .tuple => "tuple" | .dict => "dict"
def isA : D → Ty → Bool
  | .int _, .int => true
  | .bl _, .int => true
  | .bl _, .bool => true
  | .str _, .str => true
  | .lst _, .list => true
  | .tup _, .tuple => true
  | .dct _ _, .dict => true
  | _, _ => false
def tyN : D → String
  | .non => "NoneType" | .bl _ => "bool" | .int _ => "int" | .str _ => "str" | .tup _ => "tuple" | .lst _ => "list" | .dct _ _ => "dict"
theorem kitB_is (d : D) (T : Ty) : kitB (tyN d) T.nm = some (isA d T) := by
  cases d <;> cases T <;> rfl
theorem tyx_of {off : Addr → Prop} {d : D} {v : V} {K : PySem.W.Frag} (h : RZ K off H d v) : TyX K H v (.type (tyN d)) := by
  cases d with
  | non => unfold RZ at h; rw [h]; exact .base .non
  | bl b => unfold RZ at h; rw [h]; exact .base (.bl _)
  | int b => unfold RZ at h; rw [h]; exact .base (.int _)
  | str b => unfold RZ at h; rw [h.1]; exact .base (.str _)
  | tup b =>
    unfold RZ at h
    obtain ⟨a, vs, rfl, q | ⟨o, its, n, e, c, _⟩, _⟩ := h
    · exact .base (.tup q)
    · exact .kTuple e c
  | lst b => unfold RZ at h; obtain ⟨a, vs, rfl, _, q, _⟩ := h; exact .base (.lst q)
  | dct b e => unfold RZ at h; obtain ⟨a, vs, rfl, _, q, _⟩ := h; exact .base (.dK q.2)
def vIsi (f : Ev) (U : Ty) : Ev := fun en => (f en).bind fun s e => match s with
  | .rd _ => .ok (.fz (.bl (isA (.lst []) U))) e
  | s => match dref e s with
    | some d => .ok (.fz (.bl (isA d U))) e
    | none => .no
theorem d_isi {U : Ty} {tn : Str} {p p1 : Pos} (hg : Gl X "isinstance") (hm : X.mg "isinstance" = none) (he : PE X e (tD C f)) (ht : PE X (.Name tn p1) (tC (.ty U.nm))) (hK : C.K = X.K)
    (hs : starEach [e, .Name tn p1] X.env = (false, eval e X.env) :: starEach [.Name tn p1] X.env := by rfl) (hs2 : starEach [Expr.Name tn p1] X.env = (false, eval (.Name tn p1) X.env) :: starEach [] X.env := by rfl)
    (hpl : (backTo pos (starEach [Expr.Name tn p1] X.env)).any (·.1) = false := by rfl) :
    PE X (.Call (.Name "isinstance" p) [e, .Name tn p1] [] pos) (tD C (vIsi f U)) := by
  refine PEimp (pe_callB call_isi hg hm (by decide +kernel) (pa_cons he (pa_cons ht pa_nil hs2) hs) (by decide) (by decide) hs hpl) ?_
  rintro σ H Q ⟨off0, Hb, ts, tv, en, R, q⟩
  refine tD.step R q fun s e1 H1 v _ R1 q1 => ?_
  show rIsi X.K [v, .ty U.nm] H1 Q
  rw [← hK]
  split at q1
  · rename_i ns
    obtain ⟨a, rfl, hs⟩ := R1.rdAt (s := .none)
    have q2 := q1 _ _ R1.drop.pushB
    have ty : TyX C.K H1 (.ref a) (.type "list") := by
      rcases hs with (hs | ⟨o, hs⟩) | ⟨o, _, _, hs, c, _⟩
      · exact .base (.lst hs)
      · exact .base (.frz hs)
      · exact .kList hs c
    exact ⟨_, _, _, _, _, rfl, .ty _, ty, kit_ty (kitB_is (.lst []) U), q2⟩
  · split at q1
    · rename_i d ed
      have z := R1.read ed
      exact ⟨_, _, _, _, _, rfl, .ty _, tyx_of z, kit_ty (kitB_is d U), q1 _ _ R1.drop.pushB⟩
    · exact q1.elim
def gAbs (s : Sl) (en : En) : Rs Sl := match dref en s with
  | some (.int i) => .ok (.fz (.int (if i < 0 then -i else i))) en
  | _ => .no
theorem l_abs : Lift1 C (fun x H Q => ∃ i, [x] = [.int i] ∧ Q (.int (if i < 0 then -i else i)) H) gAbs := by
  intro off0 Hb H ts tv en σ s x Q R q
  unfold gAbs at q
  split at q
  · rename_i i e
    exact ⟨i, by rw [R.int e], q _ _ R.drop.pushI⟩
  · exact q.elim
def gMax : Sl → Sl → En → Rs Sl := gII (fun i j => .int (if j > i then j else i)) fun _ _ => true
def gMin : Sl → Sl → En → Rs Sl := gII (fun i j => .int (if j < i then j else i)) fun _ _ => true
theorem l_max : Lift2 C (fun x y H Q => ∃ i j, [x, y] = [.int i, .int j] ∧ Q (.int (if j > i then j else i)) H) gMax := by
  intro off0 Hb H ts tv en σ s t x y Q R q
  obtain ⟨i, j, e1, e2, _, q⟩ := gII_inv q post_no
  exact ⟨i, j, by rw [R.below.int e1, R.int e2], q _ _ R.below.drop.pushI⟩
theorem l_min : Lift2 C (fun x y H Q => ∃ i j, [x, y] = [.int i, .int j] ∧ Q (.int (if j < i then j else i)) H) gMin := by
  intro off0 Hb H ts tv en σ s t x y Q R q
  obtain ⟨i, j, e1, e2, _, q⟩ := gII_inv q post_no
  exact ⟨i, j, by rw [R.below.int e1, R.int e2], q _ _ R.below.drop.pushI⟩
/-- a built-in called -/
theorem d_blt {id : String} {x : Str} {p : Pos} {r : List V → Hp → VK → Prop} {g : List Sl → En → Rs Sl} {fs : EvA} (hc : CallR X (.builtin id) r) (L : LiftA C r g) (hg : Gl X x) (hm : X.mg x = none) (ha : PA X (e :: es) (tDA C fs)) (hv : bootBuiltins x = some (.builtin id) := by decide +kernel)
    (hn : x ≠ "__name__" := by decide) (hdb : (x == ("__debug__" : Str)) = false := by decide)
    (he : starEach (e :: es) X.env = (false, eval e X.env) :: starEach es X.env := by rfl) (hpl : (backTo pos (starEach es X.env)).any (·.1) = false := by rfl) : PE X (.Call (.Name x p) (e :: es) [] pos) (tD C (vA fs g)) :=
  PEimp (pe_callB hc hg hm hv ha hn hdb he hpl) (liftA L)
theorem d_bty {U : String} {x : Str} {p : Pos} {r : List V → Hp → VK → Prop} {g : List Sl → En → Rs Sl} {fs : EvA} (hc : CallR X (.type U) r) (L : LiftA C r g) (hg : Gl X x) (hm : X.mg x = none) (ha : PA X (e :: es) (tDA C fs)) (hv : bootBuiltins x = some (.type U) := by decide +kernel)
    (hn : x ≠ "__name__" := by decide) (hdb : (x == ("__debug__" : Str)) = false := by decide)
    (he : starEach (e :: es) X.env = (false, eval e X.env) :: starEach es X.env := by rfl) (hpl : (backTo pos (starEach es X.env)).any (·.1) = false := by rfl) : PE X (.Call (.Name x p) (e :: es) [] pos) (tD C (vA fs g)) :=
  PEimp (pe_callTy hc hg hm hv ha hn hdb he hpl) (liftA L)

/-! ### methods of values -/
def vM (f : Ev) (fa : EvA) (g : Sl → List Sl → En → Rs Sl) : Ev := fun en => (f en).bind fun s e1 => (fa e1).bind fun ss e2 => g s ss e2
def LiftM (C : Cv) (U : String) (r : V → List V → Hp → VK → Prop) (g : Sl → List Sl → En → Rs Sl) : Prop := ∀ (off0 : Addr → Prop) (Hb H : Hp) (ts : List Sl) (tv : List V) (en : En) (σ : L2.St) (s : Sl) (ss : List Sl) (v : V) (vs : List V) (Q : VK),
  vs.length = ss.length → Rep C.K off0 Hb H (ss.reverse ++ s :: ts) (vs.reverse ++ v :: tv) en σ → Post C off0 Hb ts tv σ Q (g s ss en) → r v vs H Q
/-- the receiver is of the type -/
def tyS (U : String) (s : Sl) (en : En) : Bool := match dref en s with
  | some (.lst _) => U == "list"
  | some (.str _) => U == "str"
  | some (.dct _ _) => U == "dict"
  | _ => false
theorem tyV_of {U : String} {s : Sl} {x : V} (R : Rep C.K off0 Hb H (s :: ts) (x :: tv) en σ) (h : tyS U s en = true) : tyV C.K U x H := by
  unfold tyS at h
  split at h
  · rename_i ds e
    have h : U = "list" := by simpa using h
    obtain ⟨a, vs, rfl, ha, _⟩ := R.lst e
    exact .inl ⟨h, vs, .of ha⟩
  · rename_i z e
    have h : U = "str" := by simpa using h
    rw [(R.str e).1]
    exact h
  · rename_i ks ds e
    have h : U = "dict" := by simpa using h
    have z := R.read e
    unfold RZ at z
    obtain ⟨a, vs, rfl, _, q, _⟩ := z
    exact .inr (.inr (.inl ⟨h, .inl ⟨_, q.2⟩⟩))
  · cases h
def vMt (U : String) (f : Ev) (fa : EvA) (g : Sl → List Sl → En → Rs Sl) : Ev := fun en => (f en).bind fun s e1 => if tyS U s e1 then (fa e1).bind fun ss e2 => g s ss e2 else .no
theorem d_mt {U id : String} {name : Str} {apos : Pos} {o : Expr} {fo : Ev} {fs : EvA} {r : V → List V → Hp → VK → Prop} {g : Sl → List Sl → En → Rs Sl} (pa : PlainAttrs U) (slot : Slot U name id) (hty : typeOf (.builtin id) = pure (.type "method_descriptor")) (hm : MtR X id r) (L : LiftM C U r g) (ho : PE X o (tD C fo)) (ha : PA X (e :: es) (tDA C fs)) (hK : C.K = X.K)
    (hbase : attributeBase o name X.env (eval o X.env) = eval o X.env := by rfl)
    (hfew : ((backTo pos (starEach (e :: es) X.env)).all (fun x => !x.1) && (backToKw pos (keywordEach [] X.env)).all (fun x => x.1.isSome)
      && decide ((e :: es).length + ([] : List Keyword).length + (if ([] : List Keyword).isEmpty then 0 else 1) < 30)) = true := by rfl)
    (hline : (apos.endLine == pos.line) = true := by rfl) (hs : starEach (e :: es) X.env = (false, eval e X.env) :: starEach es X.env := by rfl) (hplain : (backTo pos (starEach es X.env)).any (·.1) = false := by rfl) :
    PE X (.Call (.Attribute o name apos) (e :: es) [] pos) (tD C (vMt U fo fs g)) := by
  refine PEimp (pe_bm pa slot hty hm ho ha hbase hfew hline hs hplain) ?_
  rintro σ H Q ⟨off0, Hb, ts, tv, en, R, q⟩
  refine tD.step R q fun s e1 H1 v _ R1 q1 => ?_
  by_cases ty : tyS U s e1 = true
  · rw [if_pos ty] at q1
    rw [← hK]
    refine ⟨tyV_of R1 ty, ⟨off0, Hb, s :: ts, v :: tv, e1, R1, ?_⟩⟩
    cases e2 : fs e1 with
    | no => rw [e2] at q1; exact q1
    | ex c e3 => rw [e2] at q1; exact fun H2 R2 => q1 H2 R2.drop
    | ok ss e3 => rw [e2] at q1; exact fun H2 vs l R2 => L off0 Hb H2 ts tv e3 σ s ss v vs Q l R2 q1
  · rw [if_neg ty] at q1
    exact q1.elim
/-- .. without arguments -/
def vMt0 (U : String) (f : Ev) (g : Sl → En → Rs Sl) : Ev := fun en => (f en).bind fun s e1 => if tyS U s e1 then g s e1 else .no
theorem d_mt0 {U id : String} {name : Str} {apos : Pos} {o : Expr} {fo : Ev} {r : V → List V → Hp → VK → Prop} {g : Sl → En → Rs Sl} (pa : PlainAttrs U) (slot : Slot U name id) (hty : typeOf (.builtin id) = pure (.type "method_descriptor")) (hm : MtR X id r) (L : Lift1 C (fun x H Q => r x [] H Q) g) (ho : PE X o (tD C fo)) (hK : C.K = X.K)
    (hbase : attributeBase o name X.env (eval o X.env) = eval o X.env := by rfl) (hline : (apos.endLine == pos.line) = true := by rfl) : PE X (.Call (.Attribute o name apos) [] [] pos) (tD C (vMt0 U fo g)) := by
  refine PEimp (pe_bm0 pa slot hty hm ho hbase hline) ?_
  rintro σ H Q ⟨off0, Hb, ts, tv, en, R, q⟩
  refine tD.step R q fun s e1 H1 v _ R1 q1 => ?_
  by_cases ty : tyS U s e1 = true
  · rw [if_pos ty] at q1
    rw [← hK]
    exact ⟨tyV_of R1 ty, L off0 Hb H1 ts tv e1 σ s v Q R1 q1⟩
  · rw [if_neg ty] at q1
    exact q1.elim
end
end T
/-! T7: what changes an owned list; calls of defs. -/
namespace T
open PySem PySem.Spec L2
section
variable {K : PySem.W.Frag} {C : Cv} {off0 off off' : Addr → Prop} {Hb H H' : Hp} {ts : List Sl} {tv : List V} {en : En} {σ : L2.St} {X : Cx} {a b e : Expr} {es : List Expr} {pos : Pos} {f fa fb : Ev} {r : EvA}
theorem Rep.drop2 {s t : Sl} {x y : V} (R : Rep K off0 Hb H (s :: t :: ts) (x :: y :: tv) en σ) : Rep K off0 Hb H (s :: ts) (x :: tv) en σ := by
  obtain ⟨F, ⟨x', r, G, G', e, rfl, h1, ⟨y', r', J, J', e', rfl, h2, h3⟩⟩, nd, fr⟩ := R.ex
  obtain ⟨rfl, rfl⟩ : some x = x' ∧ some y :: (tv.map some ++ σ) = r := by simpa using e
  obtain ⟨rfl, rfl⟩ : some y = y' ∧ tv.map some ++ σ = r' := by simpa using e'
  have sub : ∀ a ∈ G ++ J', a ∈ G ++ (J ++ J') := fun a ha => by
    rcases List.mem_append.mp ha with z | z
    · exact List.mem_append_left _ z
    · exact List.mem_append_right _ (List.mem_append_right _ z)
  refine ⟨⟨G ++ J', ⟨some x, _, G, J', rfl, rfl, h1.tr .refl (goOff sub) (fun _ _ => rfl), h3.tr .refl (goOff sub) fun _ _ => rfl⟩, ?_, fun a ha => fr a (sub a ha)⟩, R.out, R.base, by have := R.len; simpa using this, R.nbe⟩
  have n2 := List.nodup_append.mp nd
  exact List.nodup_append.mpr ⟨n2.1, (List.nodup_append.mp n2.2.1).2.1, fun a ha b hb => n2.2.2 a ha b (List.mem_append_right _ hb)⟩
theorem Rep.bwAt {i : Nat} {v : V} (R : Rep K off0 Hb H (.bw i :: ts) (v :: tv) en σ) : σ[i]? = some (some v) := by
  obtain ⟨F, ⟨x', r, G, G', e, rfl, h1, h2⟩, nd, fr⟩ := R.ex
  obtain ⟨rfl, rfl⟩ : some v = x' ∧ tv.map some ++ σ = r := by simpa using e
  obtain ⟨_, w, e, h⟩ := h1
  cases e
  exact h
theorem nb_set {i : Nat} {s : Sl} (h : nb en) (k : nb1 s = true) : nb (en.set i s) := fun t ht => by
  rcases List.mem_or_eq_of_mem_set ht with z | z
  · exact h t z
  · rw [z]; exact k
/-- a slot, and what may become of it -/
theorem Rep.slotK {i : Nat} {s : Sl} (R : Rep K off0 Hb H ts tv en σ) (e : en[i]? = some s) : ∃ x F G Q, σ[i]? = some x ∧ RS K (offs off0 F) H σ s x G ∧ F.Perm (G ++ Q) ∧ F.Nodup ∧ (∀ a ∈ F, Hb a = none) ∧ RL K (offs off0 F) H σ (ts ++ en) (tv.map some ++ σ) F ∧
    ∀ (H' : Hp) (s' : Sl) (G' : List Addr), nb1 s' = true → RS K (offs off0 (G' ++ Q)) H' σ s' x G' → TStay H H' → (∀ a ∈ G', a ∈ G) → G'.Nodup → (∀ b o, b ∉ G → H b = some o → H' b = some o) → Rep K off0 Hb H' ts tv (en.set i s') σ := by
  obtain ⟨F, q, nd, fr⟩ := R.ex
  obtain ⟨x, G, Q, ex, hs, pm, fin⟩ := q.focus (i := ts.length + i) (s := s) (by rw [get_ts]; exact e)
  rw [← R.len, get_env (x := x)] at ex
  have nd2 := List.nodup_append.mp (pm.nodup_iff.mp nd)
  have inF : ∀ a, a ∈ G → a ∈ F := fun a ha => pm.mem_iff.mpr (List.mem_append_left _ ha)
  refine ⟨x, F, G, Q, ex, hs, pm, nd, fr, q, fun H' s' G' n1 ro tst sub ndG keep => ?_⟩
  have offF : ∀ (F' : List Addr), (∀ a ∈ F', a ∈ G' ++ Q) → Go (offs off0 F) H (offs off0 F') H' := fun F' hF a o n e => by
    have na : a ∉ G := fun z => n (.inr (inF a z))
    refine ⟨fun z => ?_, keep a o na e⟩
    rcases z with z | z
    · exact n (.inl z)
    · rcases List.mem_append.mp (hF a z) with z | z
      · exact na (sub a z)
      · exact n (.inr (pm.mem_iff.mpr (List.mem_append_right _ z)))
  obtain ⟨F', q', pm'⟩ := fin (offs off0 (G' ++ Q)) H' s' x G' ro tst (offF _ fun a ha => ha) fun a ha => by
    obtain ⟨o, e⟩ := q.there a (pm.mem_iff.mpr (List.mem_append_right _ ha))
    rw [e]
    exact keep a o (fun z => nd2.2.2 a z a ha rfl) e
  have q'' : RL K (offs off0 F') H' σ (ts ++ en.set i s') (tv.map some ++ σ) F' := by
    have l : (tv.map some ++ σ).set (ts.length + i) x = tv.map some ++ σ := by
      rw [← R.len, set_env]
      congr 1
      obtain ⟨h1, h2⟩ := List.getElem?_eq_some_iff.mp ex
      rw [← h2]
      exact List.set_getElem_self h1
    rw [set_ts, l] at q'
    exact q'.tr .refl (fun a o n e => ⟨fun z => n (z.imp (fun q => q) fun z => pm'.mem_iff.mp z), e⟩) fun _ _ => rfl
  have subF : ∀ a ∈ F', a ∈ F := fun a ha => by
    rcases List.mem_append.mp (pm'.mem_iff.mp ha) with z | z
    · exact inF a (sub a z)
    · exact pm.mem_iff.mpr (List.mem_append_right _ z)
  refine ⟨⟨F', q'', pm'.nodup_iff.mpr (List.nodup_append.mpr ⟨ndG, nd2.2.1, fun a ha b hb => nd2.2.2 a (sub a ha) b hb⟩), fun a ha => fr a (subF a ha)⟩, R.out, fun b o e => ?_, R.len, nb_set R.nbe n1⟩
  exact keep b o (fun z => by rw [fr b (inF b z)] at e; cases e) (R.base b o e)
/-- a slot, and what may become of it -/
theorem Rep.slot {i : Nat} {s : Sl} (R : Rep K off0 Hb H ts tv en σ) (e : en[i]? = some s) : ∃ x F G Q, σ[i]? = some x ∧ RS K (offs off0 F) H σ s x G ∧ F.Perm (G ++ Q) ∧ F.Nodup ∧ (∀ a ∈ F, Hb a = none) ∧ RL K (offs off0 F) H σ (ts ++ en) (tv.map some ++ σ) F ∧
    ∀ (H' : Hp) (s' : Sl) (G' : List Addr), nb1 s' = true → RS K (offs off0 (G' ++ Q)) H' σ s' x G' → TStay H H' → (∀ a ∈ G', a ∈ G) → G'.Nodup → (∀ b, b ∉ G → H' b = H b) → Rep K off0 Hb H' ts tv (en.set i s') σ := by
  obtain ⟨x, F, G, Q, e1, rs, pm, nd, fr, q, fin⟩ := R.slotK e
  exact ⟨x, F, G, Q, e1, rs, pm, nd, fr, q, fun H' s' G' n1 r t m g k => fin H' s' G' n1 r t m g fun b o hb e => by rw [k b hb]; exact e⟩
theorem tstay_lst {p : Addr} {xs : List V} {o : HO} (h : H p = some (.lst xs)) : TStay H (upd H p o) := fun a ys e => by
  rw [upd_ne (ne_of e h (by intro z; cases z))]
  exact e
/-- a list that is owned, its top at least -/
def soOf : Sl → Option (List D)
  | .so ds => some ds
  | .ow (.lst ds) => some ds
  | _ => none
def soMk (ds : List D) : Sl := if flats ds then .ow (.lst ds) else .so ds
theorem setset {i : Nat} {s s' : Sl} : (en.set i s).set i s' = en.set i s' := List.set_set ..
theorem Rep.toSo {i : Nat} {s : Sl} {ds : List D} (R : Rep K off0 Hb H ts tv en σ) (e : en[i]? = some s) (es : soOf s = some ds) : Rep K off0 Hb H ts tv (en.set i (.so ds)) σ := by
  obtain ⟨x, F, G, Q, e1, rs, pm, nd, fr, q, fin⟩ := R.slot e
  have nd2 := List.nodup_append.mp (pm.nodup_iff.mp nd)
  have h : i < en.length := (List.getElem?_eq_some_iff.mp e).1
  cases s with
  | so ds0 =>
    have es : ds0 = ds := by simpa [soOf] using es
    subst es
    have z : en.set i (.so ds0) = en := by
      obtain ⟨h1, h2⟩ := List.getElem?_eq_some_iff.mp e
      rw [← h2]
      exact List.set_getElem_self h1
    rw [z]
    exact R
  | ow d =>
    cases d with
    | lst ds0 =>
      have es : ds0 = ds := by simpa [soOf] using es
      subst es
      obtain ⟨v, rfl, ro⟩ := rs
      unfold RO at ro
      obtain ⟨a, ws, G1, rfl, rfl, ha, rs⟩ := ro
      have ndG := List.nodup_cons.mp nd2.1
      refine fin H (.so ds0) [a] rfl ⟨a, ws, rfl, rfl, ha, ROs.share _ _ _ rs fun b hb z => ?_⟩ .refl (fun b hb => by rw [List.mem_singleton.mp hb]; exact List.mem_cons_self) (by simp) fun _ _ => rfl
      rcases z with z | z
      · obtain ⟨o, e⟩ := R.out b z
        rw [fr b (pm.mem_iff.mpr (List.mem_append_left _ (List.mem_cons_of_mem _ hb)))] at e
        cases e
      · have z : b = a ∨ b ∈ Q := by simpa using z
        rcases z with z | z
        · subst z
          exact ndG.1 hb
        · exact nd2.2.2 b (List.mem_cons_of_mem _ hb) b z rfl
    | _ => simp [soOf] at es
  | _ => simp [soOf] at es
theorem Rep.toOw {i : Nat} {ds : List D} (R : Rep K off0 Hb H ts tv en σ) (e : en[i]? = some (.so ds)) : Rep K off0 Hb H ts tv (en.set i (soMk ds)) σ := by
  obtain ⟨x, F, G, Q, e1, ⟨a, ws, rfl, rfl, ha, r⟩, pm, nd, fr, q, fin⟩ := R.slot e
  unfold soMk
  by_cases f : flats ds = true
  · rw [if_pos f]
    refine fin H (.ow (.lst ds)) [a] rfl ⟨.ref a, rfl, ?_⟩ .refl (fun b hb => hb) (by simp) fun _ _ => rfl
    unfold RO
    exact ⟨a, ws, [], rfl, rfl, ha, RZs.own0 _ _ r f⟩
  · rw [if_neg f]
    have z : en.set i (.so ds) = en := by
      obtain ⟨h1, h2⟩ := List.getElem?_eq_some_iff.mp e
      rw [← h2]
      exact List.set_getElem_self h1
    rw [z]
    exact R
theorem Rep.items {i : Nat} {ds : List D} (R : Rep K off0 Hb H ts tv en σ) (e : en[i]? = some (.so ds)) : ∃ a ws, σ[i]? = some (some (.ref a)) ∧ H a = some (.lst ws) ∧ RZs K (fun _ => False) H ds ws ∧
    ∀ d x, (∀ off, RZs K off H ds ws → RZ K off H d x) → Rep K off0 Hb H (.fz d :: ts) (x :: tv) en σ := by
  obtain ⟨x, F, G, Q, e1, ⟨a, ws, rfl, rfl, ha, r⟩, pm, nd, fr, q, fin⟩ := R.slot e
  exact ⟨a, ws, e1, ha, RZs.go .refl (fun a o n e => ⟨fun z => z, e⟩) _ _ r, fun d x h => ⟨⟨F, ⟨some x, _, [], F, rfl, rfl, ⟨rfl, x, rfl, h _ r⟩, q⟩, nd, fr⟩, R.out, R.base, by simp [R.len], R.nbe⟩⟩
theorem Rep.altT {i : Nat} {ds : List D} {a : Addr} {ws : List V} {d : D} {y : V} (R : Rep K off0 Hb H (.fz d :: ts) (y :: tv) en σ) (e : en[i]? = some (.so ds)) (hs : σ[i]? = some (some (.ref a))) (ha : H a = some (.lst ws))
    (ds' : List D) (ws' : List V) (h : ∀ off, RZs K off H ds ws → RZ K off H d y → RZs K off H ds' ws') : Rep K off0 Hb (upd H a (.lst ws')) ts tv (en.set i (.so ds')) σ := by
  obtain ⟨x, F, G, Q, e1, ⟨a', ws0, rfl, rfl, ha', r⟩, pm, nd, fr, q, fin⟩ := R.slot e
  rw [hs] at e1
  cases e1
  rw [ha] at ha'
  cases ha'
  obtain ⟨x', r', G, G', e', rfl, h1, h2⟩ := q
  obtain ⟨rfl, rfl⟩ : some y = x' ∧ tv.map some ++ σ = r' := by simpa using e'
  obtain ⟨rfl, y', e2, hd⟩ := h1
  cases e2
  have mvo : Go (offs off0 ([] ++ G')) H (offs off0 ([a] ++ Q)) (upd H a (.lst ws')) := fun b u n e =>
    ⟨fun z => n (z.imp (fun q => q) fun z => pm.mem_iff.mpr z), by rw [upd_ne fun z => n (.inr (by rw [z]; exact pm.mem_iff.mpr (List.mem_append_left _ (List.mem_singleton.mpr rfl))))]; exact e⟩
  exact (fin (upd H a (.lst ws')) (.so ds') [a] rfl ⟨a, ws', rfl, rfl, upd_same, RZs.go (tstay_lst ha) mvo _ _ (h _ r hd)⟩ (tstay_lst ha) (fun b hb => hb) (by simp) fun b hb => upd_ne (by simpa using hb)).drop
theorem Rep.alt {i : Nat} {ds : List D} {a : Addr} {ws : List V} (R : Rep K off0 Hb H ts tv en σ) (e : en[i]? = some (.so ds)) (hs : σ[i]? = some (some (.ref a))) (ha : H a = some (.lst ws))
    (ds' : List D) (ws' : List V) (h : ∀ off, RZs K off H ds ws → RZs K off H ds' ws') : Rep K off0 Hb (upd H a (.lst ws')) ts tv (en.set i (.so ds')) σ :=
  Rep.altT (d := .non) (y := .non) (R.const rfl (off := fun _ => False) (by unfold RZ; rfl)) e hs ha ds' ws' fun off r _ => h off r
theorem Rep.share1 {s : Sl} {d : D} {x : V} (R : Rep K off0 Hb H (s :: ts) (x :: tv) en σ) (e : shr1 s = some d) : Rep K off0 Hb H (.fz d :: ts) (x :: tv) en σ := by
  obtain ⟨off, dom, z, fin⟩ := R.expose e
  exact fin H d x (fun _ _ z => z) z
theorem get_set {i : Nat} {s : Sl} (h : i < en.length) : (en.set i s)[i]? = some s := List.getElem?_set_self h
theorem lt_of {i : Nat} {s : Sl} (e : en[i]? = some s) : i < en.length := (List.getElem?_eq_some_iff.mp e).1
theorem ROs.append : ∀ {ds es : List D} {vs ws : List V} {G J : List Addr}, ROs K H ds vs G → ROs K H es ws J → ROs K H (ds ++ es) (vs ++ ws) (G ++ J)
  | [], es, vs, ws, G, J, h, k => by unfold ROs at h; rw [h.1, h.2]; exact k
  | d :: ds, es, vs, ws, G, J, h, k => by
    unfold ROs at h
    obtain ⟨v, r, G1, G2, rfl, rfl, h1, h2⟩ := h
    show ROs K H (d :: (ds ++ es)) (v :: (r ++ ws)) _
    unfold ROs
    exact ⟨v, _, G1, G2 ++ J, rfl, List.append_assoc .., h1, ROs.append h2 k⟩
theorem ROs.one {d : D} {v : V} {G : List Addr} (h : RO K H d v G) : ROs K H [d] [v] G := by
  unfold ROs ROs
  exact ⟨v, [], G, [], rfl, by simp, h, rfl, rfl⟩
/-- an owned thing put behind an owned list -/
theorem Rep.grow {i : Nat} {ds : List D} {s : Sl} {x : V} {d : D} (R : Rep K off0 Hb H (s :: ts) (x :: tv) en σ) (e : en[i]? = some (.ow (.lst ds))) (es : own1 s = some d) : ∃ a ws, σ[i]? = some (some (.ref a)) ∧ H a = some (.lst ws) ∧ ws.length = ds.length ∧
    Rep K off0 Hb (upd H a (.lst (ws ++ [x]))) ts tv (en.set i (.ow (.lst (ds ++ [d])))) σ := by
  obtain ⟨F, ⟨x', r, G2, F', e', rfl, h1, q⟩, nd, fr⟩ := R.ex
  obtain ⟨rfl, rfl⟩ : some x = x' ∧ tv.map some ++ σ = r := by simpa using e'
  obtain ⟨x2, e2, rx⟩ := own1_ro h1 es
  cases e2
  have q : RL K (offs off0 (G2 ++ F')) H σ (ts ++ en) (tv.map some ++ σ) F' := q
  have ln : tv.length = ts.length := by simpa using R.len
  obtain ⟨y, G, Q, ex, ⟨v, rfl, hs⟩, pm, fin⟩ := q.focus (i := ts.length + i) (s := .ow (.lst ds)) (by rw [get_ts]; exact e)
  rw [← ln, get_env (x := some v)] at ex
  unfold RO at hs
  obtain ⟨a, ws, G1, rfl, rfl, ha, rs⟩ := hs
  have ndA := List.nodup_append.mp nd
  have ndF := List.nodup_append.mp (pm.nodup_iff.mp ndA.2.1)
  have ndG := List.nodup_cons.mp ndF.1
  have inF : ∀ b, b ∈ a :: G1 → b ∈ F' := fun b hb => pm.mem_iff.mpr (List.mem_append_left _ hb)
  have aG2 : a ∉ G2 := fun z => ndA.2.2 a z a (inF a List.mem_cons_self) rfl
  have hlen : ws.length = ds.length := (ROs.share (off := fun _ => False) _ _ _ rs fun _ _ z => z).length
  refine ⟨a, ws, ex, ha, hlen, ?_⟩
  have hne : ∀ b, b ≠ a → (upd H a (.lst (ws ++ [x]))) b = H b := fun b hb => upd_ne hb
  have tst : TStay H (upd H a (.lst (ws ++ [x]))) := tstay_lst ha
  have ro' : RO K (upd H a (.lst (ws ++ [x]))) (.lst (ds ++ [d])) (.ref a) (a :: (G1 ++ G2)) := by
    unfold RO
    refine ⟨a, _, _, rfl, rfl, upd_same, ROs.stay tst _ _ _ (rs.append (.one rx)) fun b hb => hne b fun z => ?_⟩
    subst z
    rcases List.mem_append.mp hb with z | z
    · exact ndG.1 z
    · exact aG2 z
  have mem : ∀ b, b ∈ a :: (G1 ++ G2) ++ Q ↔ b ∈ G2 ++ F' := fun b => by
    rw [List.mem_append (s := G2), pm.mem_iff]
    simp only [List.mem_append, List.mem_cons]
    constructor
    · rintro ((h | h | h) | h)
      · exact .inr (.inl (.inl h))
      · exact .inr (.inl (.inr h))
      · exact .inl h
      · exact .inr (.inr h)
    · rintro (h | (h | h) | h)
      · exact .inl (.inr (.inr h))
      · exact .inl (.inl h)
      · exact .inl (.inr (.inl h))
      · exact .inr h
  obtain ⟨F2, q', pm'⟩ := fin (offs off0 (G2 ++ F')) (upd H a (.lst (ws ++ [x]))) (.ow (.lst (ds ++ [d]))) (some (.ref a)) _ ⟨_, rfl, ro'⟩ tst (fun b o n e => ⟨n, by rw [hne b fun z => n (.inr (by rw [z]; exact List.mem_append_right _ (inF a List.mem_cons_self)))]; exact e⟩) fun b hb => hne b fun z => by
    subst z
    exact ndF.2.2 b List.mem_cons_self b hb rfl
  have q'' : RL K (offs off0 F2) (upd H a (.lst (ws ++ [x]))) σ (ts ++ en.set i (.ow (.lst (ds ++ [d])))) (tv.map some ++ σ) F2 := by
    have l : (tv.map some ++ σ).set (ts.length + i) (some (.ref a)) = tv.map some ++ σ := by
      rw [← ln, set_env]
      congr 1
      obtain ⟨h1, h2⟩ := List.getElem?_eq_some_iff.mp ex
      rw [← h2]
      exact List.set_getElem_self h1
    rw [set_ts, l] at q'
    exact q'.tr .refl (fun b o n e => ⟨fun z => n (z.imp (fun q => q) fun z => (mem b).mp (pm'.mem_iff.mp z)), e⟩) fun _ _ => rfl
  refine ⟨⟨F2, q'', pm'.nodup_iff.mpr ?_, fun b hb => fr b ((mem b).mp (pm'.mem_iff.mp hb))⟩, R.out, fun b o e => ?_, ln, nb_set R.nbe rfl⟩
  · refine List.nodup_append.mpr ⟨List.nodup_cons.mpr ⟨fun z => ?_, List.nodup_append.mpr ⟨ndG.2, ndA.1, fun b hb c hc z => ?_⟩⟩, ndF.2.1, fun b hb c hc z => ?_⟩
    · rcases List.mem_append.mp z with z | z
      · exact ndG.1 z
      · exact aG2 z
    · subst z
      exact ndA.2.2 b hc b (inF b (List.mem_cons_of_mem _ hb)) rfl
    · subst z
      rcases List.mem_cons.mp hb with hb | hb
      · subst hb
        exact ndF.2.2 b List.mem_cons_self b hc rfl
      · rcases List.mem_append.mp hb with hb | hb
        · exact ndF.2.2 b (List.mem_cons_of_mem _ hb) b hc rfl
        · exact ndA.2.2 b hb b (pm.mem_iff.mpr (List.mem_append_right _ hc)) rfl
  · rw [hne b fun z => by subst z; rw [fr b (List.mem_append_right _ (inF b List.mem_cons_self))] at e; cases e]
    exact R.base b o e
theorem rzs_flat_last {ds : List D} {ws : List V} {d : D} (h : RZs K off H ds ws) (e : ds.getLast? = some d) : ∃ v, ws[ws.length - 1]? = some v ∧ RZ K off H d v := by
  rw [List.getLast?_eq_getElem?] at e
  rw [h.length]
  exact h.get e
theorem RZs.dropLast {ds : List D} {ws : List V} (h : RZs K off H ds ws) : RZs K off H ds.dropLast ws.dropLast := by
  rw [List.dropLast_eq_take, List.dropLast_eq_take, h.length]
  exact h.take _

/-! ### append, extend, pop, clear, insert, x[i] = e -/
/-- the list of a slot -/
def soAt (en : En) (i : Nat) : Option (List D) := match en[i]? with
  | some s => soOf s
  | none => none
theorem soAt_inv {i : Nat} {ds : List D} (e : soAt en i = some ds) : ∃ s, en[i]? = some s ∧ soOf s = some ds := by
  unfold soAt at e
  cases h : en[i]? with
  | none => rw [h] at e; cases e
  | some s => rw [h] at e; exact ⟨s, rfl, e⟩
def gAppend (s : Sl) (ss : List Sl) (en : En) : Rs Sl := match s, ss with
  | .bw i, [t] => match en[i]?, own1 t with
    | some (.ow (.lst ds)), some d => if ds.length < sizeLine then .ok (.fz .non) (en.set i (.ow (.lst (ds ++ [d])))) else .no
    | _, _ => match soAt en i, shr1 t with
      | some ds, some d => if ds.length < sizeLine then .ok (.fz .non) (en.set i (soMk (ds ++ [d]))) else .no
      | _, _ => .no
  | _, _ => .no
/-- one thing put into such a list -/
theorem Rep.put1 {i : Nat} {t : Sl} {ds : List D} {d : D} {x v : V} (R : Rep K off0 Hb H (t :: .bw i :: ts) (x :: v :: tv) en σ) (e1 : soAt en i = some ds) (e2 : shr1 t = some d) : ∃ a ws, v = .ref a ∧ H a = some (.lst ws) ∧ ws.length = ds.length ∧
    ∀ ds' ws', (∀ off, RZs K off H ds ws → RZ K off H d x → RZs K off H ds' ws') → Rep K off0 Hb (upd H a (.lst ws')) ts tv (en.set i (soMk ds')) σ := by
  obtain ⟨s, h1, h2⟩ := soAt_inv e1
  have hv := R.drop.bwAt
  have li := lt_of h1
  have R1 := (R.drop2.share1 e2).toSo h1 h2
  obtain ⟨a, ws, e3, ha, rz, _⟩ := R1.items (get_set li)
  rw [hv] at e3
  cases e3
  refine ⟨a, ws, rfl, ha, rz.length, fun ds' ws' h => ?_⟩
  have R2 := (R1.altT (get_set li) hv ha ds' ws' h).toOw (by rw [setset]; exact get_set li)
  rw [setset, setset] at R2
  exact R2
theorem Rep.put0 {i : Nat} {ds : List D} {v : V} (R : Rep K off0 Hb H (.bw i :: ts) (v :: tv) en σ) (e1 : soAt en i = some ds) : ∃ a ws, v = .ref a ∧ H a = some (.lst ws) ∧ RZs K (fun _ => False) H ds ws ∧
    (∀ ds' ws', (∀ off, RZs K off H ds ws → RZs K off H ds' ws') → Rep K off0 Hb (upd H a (.lst ws')) ts tv (en.set i (soMk ds')) σ) ∧
    (∀ d x ds' ws', (∀ off, RZs K off H ds ws → RZ K off H d x) → (∀ off, RZs K off H ds ws → RZs K off H ds' ws') → Rep K off0 Hb (upd H a (.lst ws')) (.fz d :: ts) (x :: tv) (en.set i (soMk ds')) σ) := by
  obtain ⟨s, h1, h2⟩ := soAt_inv e1
  have hv := R.bwAt
  have li := lt_of h1
  have R1 := R.drop.toSo h1 h2
  obtain ⟨a, ws, e3, ha, rz, push⟩ := R1.items (get_set li)
  rw [hv] at e3
  cases e3
  refine ⟨a, ws, rfl, ha, rz, fun ds' ws' h => ?_, fun d x ds' ws' hd h => ?_⟩
  · have R2 := (R1.alt (get_set li) hv ha ds' ws' h).toOw (by rw [setset]; exact get_set li)
    rw [setset, setset] at R2
    exact R2
  · have R2 := ((push d x hd).alt (get_set li) hv ha ds' ws' h).toOw (by rw [setset]; exact get_set li)
    rw [setset, setset] at R2
    exact R2
theorem l_append : LiftM C "list" rAppend gAppend := by
  intro off0 Hb H ts tv en σ s ss v vs Q l R q
  unfold gAppend at q
  split at q
  · rename_i i t
    obtain ⟨x, rfl⟩ := len1 l
    have R : Rep C.K off0 Hb H (t :: .bw i :: ts) (x :: v :: tv) en σ := R
    split at q
    · rename_i ds d e1 e2
      split at q
      · rename_i hz
        have hv := R.drop.bwAt
        obtain ⟨a, ws, e3, ha, hl, R'⟩ := R.drop2.grow e1 e2
        rw [hv] at e3
        cases e3
        exact ⟨a, ws, x, rfl, rfl, ha, by rw [hl]; exact hz, q _ _ R'.pushN⟩
      · exact q.elim
    · split at q
      · rename_i ds d e1 e2
        split at q
        · rename_i hz
          obtain ⟨a, ws, rfl, ha, hl, fin⟩ := R.put1 e1 e2
          exact ⟨a, ws, x, rfl, rfl, ha, by rw [hl]; exact hz, q _ _ (fin _ _ fun off r z => r.append (.cons z .nil)).pushN⟩
        · exact q.elim
      · exact q.elim
  · exact q.elim
def gExtend (s : Sl) (ss : List Sl) (en : En) : Rs Sl := match s, ss with
  | .bw i, [t] => match soAt en i, dref en t with
    | some ds, some (.lst es) => if ds.length + es.length ≤ sizeLine ∧ flats es = true then .ok (.fz .non) (en.set i (soMk (ds ++ es))) else .no
    | _, _ => .no
  | _, _ => .no
theorem l_extend : LiftM C "list" rExtend gExtend := by
  intro off0 Hb H ts tv en σ s ss v vs Q l R q
  unfold gExtend at q
  split at q
  · rename_i i t
    obtain ⟨x, rfl⟩ := len1 l
    have R : Rep C.K off0 Hb H (t :: .bw i :: ts) (x :: v :: tv) en σ := R
    split at q
    · rename_i ds es e1 e2
      split at q
      · rename_i h
        obtain ⟨hz, f2⟩ := h
        obtain ⟨b, zs, rfl, hb, rb⟩ := R.lst e2
        obtain ⟨a, ws, rfl, ha, ra, fin, _⟩ := R.drop.put0 e1
        refine ⟨a, b, ws, zs, rfl, rfl, ha, hb, by rw [ra.length, rb.length]; exact hz, q _ _ (fin _ _ fun off r => r.append (rb.off_flat f2)).pushN⟩
      · exact q.elim
    · exact q.elim
  · exact q.elim
def gPop (s : Sl) (en : En) : Rs Sl := match s with
  | .bw i => match soAt en i with
    | some ds => match ds.getLast? with
      | some d => .ok (.fz d) (en.set i (soMk ds.dropLast))
      | none => .no
    | none => .no
  | _ => .no
theorem l_pop : Lift1 C (fun x H Q => rPop x [] H Q) gPop := by
  intro off0 Hb H ts tv en σ s x Q R q
  unfold gPop at q
  split at q
  · rename_i i
    split at q
    · rename_i ds e1
      split at q
      · rename_i d e2
        obtain ⟨a, ws, rfl, ha, ra, _, fin⟩ := R.put0 e1
        obtain ⟨v, hv', z⟩ := rzs_flat_last ra e2
        refine ⟨a, ws, v, rfl, rfl, ha, hv', q _ _ (fin d v ds.dropLast ws.dropLast (fun off r => ?_) fun off r => r.dropLast)⟩
        obtain ⟨v2, hv2, z2⟩ := rzs_flat_last r e2
        rw [hv'] at hv2
        cases hv2
        exact z2
      · exact q.elim
    · exact q.elim
  · exact q.elim
def gClear (s : Sl) (en : En) : Rs Sl := match s with
  | .bw i => match soAt en i with
    | some _ => .ok (.fz .non) (en.set i (.ow (.lst [])))
    | none => .no
  | _ => .no
theorem l_clear : Lift1 C (fun x H Q => rClear x [] H Q) gClear := by
  intro off0 Hb H ts tv en σ s x Q R q
  unfold gClear at q
  split at q
  · rename_i i
    split at q
    · rename_i ds e1
      obtain ⟨a, ws, rfl, ha, ra, fin, _⟩ := R.put0 e1
      exact ⟨a, ws, rfl, rfl, ha, q _ _ (fin [] [] fun off _ => .nil).pushN⟩
    · exact q.elim
  · exact q.elim
end
end T
/-! T8: what a def promises on data; its call. -/
namespace T
open PySem PySem.Spec L2

/-- an argument: shared; the script; handed over; lent and given back -/
inductive Ag where
  | d (d : D) | rd (ns : List Int) | ow (d : D) | io (d : D)
inductive Md where
  | d | ow | io
/-- a def's end: a value (owned or shared) and what was lent; an error; none -/
inductive Fr where
  | ok (o : Bool) (d : D) (outs : List D) | ex (c : Str) | no
def RA (K : PySem.W.Frag) (off : Addr → Prop) (H : Hp) : Ag → V → List Addr → Prop
  | .d d, v, G => G = [] ∧ RZ K off H d v
  | .rd ns, v, G => G = [] ∧ ∃ a, v = .ref a ∧ RdAt K off H a (ns.map V.int)
  | .ow d, v, G => RO K H d v G
  | .io d, v, G => RO K H d v G
def RAs (K : PySem.W.Frag) (off : Addr → Prop) (H : Hp) : List Ag → List V → List Addr → Prop
  | [], vs, F => vs = [] ∧ F = []
  | g :: gs, vs, F => ∃ v r G G', vs = v :: r ∧ F = G ++ G' ∧ RA K off H g v G ∧ RAs K off H gs r G'
def ROut (K : PySem.W.Frag) (H : Hp) : List Ag → List V → List D → List Addr → Prop
  | [], vs, ds, F => vs = [] ∧ ds = [] ∧ F = []
  | .io _ :: gs, vs, ds, F => ∃ v r d dr G G', vs = v :: r ∧ ds = d :: dr ∧ F = G ++ G' ∧ RO K H d v G ∧ ROut K H gs r dr G'
  | .d _ :: gs, vs, ds, F => ∃ v r, vs = v :: r ∧ ROut K H gs r ds F
  | .rd _ :: gs, vs, ds, F => ∃ v r, vs = v :: r ∧ ROut K H gs r ds F
  | .ow _ :: gs, vs, ds, F => ∃ v r, vs = v :: r ∧ ROut K H gs r ds F
def KeepF (F : List Addr) (H H' : Hp) : Prop := ∀ b x, b ∉ F → H b = some x → H' b = some x
def RRes (K : PySem.W.Frag) (off : Addr → Prop) (H' : Hp) (o : Bool) (d : D) (v : V) (J : List Addr) : Prop := if o = true then RO K H' d v J else J = [] ∧ RZ K off H' d v
/-- a def's promise -/
def spF (K : PySem.W.Frag) (cv : Str → Value) (fm : List Ag → Fr) : Sp := fun vs H Q E => ∃ off gs F, RAs K off H gs vs F ∧ F.Nodup ∧ (∀ a, off a → a ∉ F ∧ ∃ o, H a = some o) ∧ match fm gs with
  | .ok o d outs => ∀ H' v J Fo, KeepF F H H' → RRes K (offs off Fo) H' o d v J → ROut K H' gs vs outs Fo → (J ++ Fo).Nodup → (∀ a ∈ J ++ Fo, a ∈ F ∨ H a = none) → Q v H'
  | .ex c => ∀ H', KeepF F H H' → E (cv c) none H'
  | .no => False

def ag1 (md : Md) (en : En) (s : Sl) : Option Ag := match md, s with
  | .d, .rd ns => some (.rd ns)
  | .d, s => match dref en s with
    | some d => some (.d d)
    | none => none
  | .ow, .ow d => some (.ow d)
  | .io, .mv _ d => some (.io d)
  | _, _ => none
def agsOf : List Md → En → List Sl → Option (List Ag)
  | [], _, [] => some []
  | m :: ms, en, s :: ss => match ag1 m en s, agsOf ms en ss with
    | some g, some gs => some (g :: gs)
    | _, _ => none
  | _, _, _ => none
def noBw : List Sl → Bool
  | [] => true
  | .bw _ :: _ => false
  | _ :: ss => noBw ss
def putBack : List Sl → List D → En → Option En
  | [], [], en => some en
  | [], _ :: _, _ => none
  | .mv i _ :: ss, ds, en => match ds with
    | d :: ds => match en[i]? with
      | some .none => putBack ss ds (en.set i (.ow d))
      | _ => none
    | [] => none
  | _ :: ss, ds, en => putBack ss ds en
def gCall (md : List Md) (fm : List Ag → Fr) (ss : List Sl) (en : En) : Rs Sl := match agsOf md en ss with
  | none => .no
  | some gs => match fm gs with
    | .no => .no
    | .ex c => .ex c en
    | .ok o d outs => match putBack ss outs en with
      | none => .no
      | some en' => if o then .ok (mkS true d) en' else if flat d then .ok (.fz d) en' else if noBw ss then .ok (.fz d) en' else .no
section
variable {K : PySem.W.Frag} {C : Cv} {off0 off off' : Addr → Prop} {Hb H H' : Hp} {ts : List Sl} {tv : List V} {en : En} {σ : L2.St} {X : Cx} {a b e : Expr} {es : List Expr} {pos : Pos} {f fa fb : Ev} {r : EvA}
mutual
theorem RO.mut : ∀ (d : D) (v : V) (F : List Addr), RO K H d v F → ∀ a ∈ F, ∀ xs, H a ≠ some (.tup xs)
  | .non, v, F, h, a, ha, xs => by unfold RO at h; rw [h.2] at ha; cases ha
  | .bl _, v, F, h, a, ha, xs => by unfold RO at h; rw [h.2] at ha; cases ha
  | .int _, v, F, h, a, ha, xs => by unfold RO at h; rw [h.2] at ha; cases ha
  | .str _, v, F, h, a, ha, xs => by unfold RO at h; rw [h.2] at ha; cases ha
  | .tup ds, v, F, h, a, ha, xs => by
    unfold RO at h
    obtain ⟨_, vs, e, q, r⟩ := h
    exact ROs.mut ds vs F r a ha xs
  | .lst ds, v, F, h, a, ha, xs => by
    unfold RO at h
    obtain ⟨b, vs, G, e, rfl, q, r⟩ := h
    rcases List.mem_cons.mp ha with rfl | ha
    · rw [q]; exact fun z => nomatch z
    · exact ROs.mut ds vs G r a ha xs
  | .dct ks ds, v, F, h, a, ha, xs => by
    unfold RO at h
    obtain ⟨b, vs, G, e, rfl, q, r⟩ := h
    rcases List.mem_cons.mp ha with rfl | ha
    · rw [q.2]; exact fun z => nomatch z
    · exact ROs.mut ds vs G r a ha xs
theorem ROs.mut : ∀ (ds : List D) (vs : List V) (F : List Addr), ROs K H ds vs F → ∀ a ∈ F, ∀ xs, H a ≠ some (.tup xs)
  | [], vs, F, h, a, ha, xs => by unfold ROs at h; rw [h.2] at ha; cases ha
  | d :: ds, vs, F, h, a, ha, xs => by
    unfold ROs at h
    obtain ⟨v, r, G, G', e, rfl, h1, h2⟩ := h
    rcases List.mem_append.mp ha with ha | ha
    · exact RO.mut d v G h1 a ha xs
    · exact ROs.mut ds r G' h2 a ha xs
end
theorem RA.there {g : Ag} {v : V} {G : List Addr} (h : RA K off H g v G) : ∀ a ∈ G, (∃ o, H a = some o) ∧ ∀ xs, H a ≠ some (.tup xs) := fun a ha => by
  cases g with
  | d _ => rw [h.1] at ha; cases ha
  | rd _ => rw [h.1] at ha; cases ha
  | ow d => exact ⟨RO.there _ _ _ h a ha, RO.mut _ _ _ h a ha⟩
  | io d => exact ⟨RO.there _ _ _ h a ha, RO.mut _ _ _ h a ha⟩
theorem RAs.there : ∀ {gs : List Ag} {vs : List V} {F : List Addr}, RAs K off H gs vs F → ∀ a ∈ F, (∃ o, H a = some o) ∧ ∀ xs, H a ≠ some (.tup xs)
  | [], vs, F, h, a, ha => by rw [h.2] at ha; cases ha
  | g :: gs, vs, F, h, a, ha => by
    obtain ⟨v, r, G, G', rfl, rfl, h1, h2⟩ := h
    rcases List.mem_append.mp ha with ha | ha
    · exact h1.there a ha
    · exact RAs.there h2 a ha
theorem RAs.length : ∀ {gs : List Ag} {vs : List V} {F : List Addr}, RAs K off H gs vs F → vs.length = gs.length
  | [], vs, F, h => by rw [h.1]; rfl
  | g :: gs, vs, F, h => by
    obtain ⟨v, r, G, G', rfl, rfl, h1, h2⟩ := h
    rw [List.length_cons, List.length_cons, RAs.length h2]
theorem keepT {gs : List Ag} {vs : List V} {F : List Addr} (h : KeepF F H H') (r : RAs K off H gs vs F) : TStay H H' := fun a xs e => h a _ (fun z => (r.there a z).2 xs e) e
/-- the slots lent, as they come back -/
def outSl : List Sl → List D → List Sl
  | [], _ => []
  | .mv i _ :: ss, d :: ds => .mv i d :: outSl ss ds
  | .mv _ _ :: _, [] => []
  | _ :: ss, ds => outSl ss ds
def outV : List Sl → List V → List V
  | .mv _ _ :: ss, v :: vs => v :: outV ss vs
  | _ :: ss, _ :: vs => outV ss vs
  | _, _ => []
/-- what is read through a name -/
def BwOk (K : PySem.W.Frag) (off : Addr → Prop) (H : Hp) (en : En) (σ : L2.St) : Prop := ∀ i v d, σ[i]? = some (some v) → dref en (.bw i) = some d → RZ K off H d v
theorem Rep.bwOk (R : Rep K off0 Hb H ts tv en σ) : BwOk K (fun _ => False) H en σ := fun i v d h e =>
  Rep.read (R.push (s := .bw i) (v := v) fun F _ _ => ⟨rfl, v, rfl, h⟩) e
theorem ag1_ra {m : Md} {s : Sl} {g : Ag} {x : Option V} {G : List Addr} (h : RS K off H σ s x G) (hn : (∀ i, s ≠ .bw i) ∨ BwOk K off' H en σ) (e : ag1 m en s = some g) (go : Go off H off' H) (k : ∀ a ∈ G, ¬ off' a) : ∃ v G0, x = some v ∧ RA K off' H g v G0 ∧ G0.Sublist G := by
  cases s with
  | none => cases m <;> simp [ag1, dref] at e
  | so _ => cases m <;> simp [ag1, dref] at e
  | bw i =>
    rcases hn with hn | hn
    · exact absurd rfl (hn i)
    · obtain ⟨rfl, v, rfl, hv⟩ := h
      cases m with
      | d =>
        unfold ag1 at e
        cases he : dref en (.bw i) with
        | none => simp [he] at e
        | some d =>
          have e : Ag.d d = g := by simpa [he] using e
          subst e
          exact ⟨v, [], rfl, ⟨rfl, hn i v d hv he⟩, List.Sublist.refl _⟩
      | ow => simp [ag1] at e
      | io => simp [ag1] at e
  | fz d =>
    cases m with
    | d =>
      have e : Ag.d d = g := by simpa [ag1, dref] using e
      subst e
      obtain ⟨rfl, v, rfl, z⟩ := h
      exact ⟨v, [], rfl, ⟨rfl, RZ.go .refl go _ _ z⟩, List.Sublist.refl _⟩
    | ow => simp [ag1] at e
    | io => simp [ag1] at e
  | rd ns =>
    cases m with
    | d =>
      have e : Ag.rd ns = g := by simpa [ag1] using e
      subst e
      obtain ⟨rfl, a, rfl, z⟩ := h
      exact ⟨.ref a, [], rfl, ⟨rfl, a, rfl, z.go go⟩, List.Sublist.refl _⟩
    | ow => simp [ag1] at e
    | io => simp [ag1] at e
  | ow d =>
    cases m with
    | d =>
      have e : Ag.d d = g := by simpa [ag1, dref] using e
      subst e
      obtain ⟨v, rfl, z⟩ := h
      exact ⟨v, [], rfl, ⟨rfl, RO.share _ _ _ z k⟩, List.nil_sublist _⟩
    | ow =>
      have e : Ag.ow d = g := by simpa [ag1] using e
      subst e
      obtain ⟨v, rfl, z⟩ := h
      exact ⟨v, G, rfl, z, List.Sublist.refl _⟩
    | io => simp [ag1] at e
  | mv i d =>
    cases m with
    | d => simp [ag1, dref] at e
    | ow => simp [ag1] at e
    | io =>
      have e : Ag.io d = g := by simpa [ag1] using e
      subst e
      obtain ⟨v, rfl, z, _⟩ := h
      exact ⟨v, G, rfl, z, List.Sublist.refl _⟩
theorem noBw_cons {s : Sl} {ss : List Sl} (h : noBw (s :: ss) = true) : (∀ i, s ≠ .bw i) ∧ noBw ss = true := by
  cases s <;> simp [noBw] at h <;> simp [h]
theorem ags_ra : ∀ {md : List Md} {ss : List Sl} {gs : List Ag} {xs : List (Option V)} {G : List Addr}, RL K off H σ ss xs G → (noBw ss = true ∨ BwOk K off' H en σ) → agsOf md en ss = some gs → Go off H off' H → (∀ a ∈ G, ¬ off' a) → ∃ vs G0, xs = vs.map some ∧ RAs K off' H gs vs G0 ∧ G0.Sublist G
  | [], [], gs, xs, G, h, _, e, _, _ => by
    have e : gs = [] := by simpa [agsOf] using e.symm
    subst e
    exact ⟨[], [], h.1, ⟨rfl, rfl⟩, List.nil_sublist _⟩
  | [], _ :: _, gs, xs, G, h, _, e, _, _ => by simp [agsOf] at e
  | _ :: _, [], gs, xs, G, h, _, e, _, _ => by simp [agsOf] at e
  | m :: ms, s :: ss, gs, xs, G, h, nbw, e, go, k => by
    obtain ⟨x, r, G1, G2, rfl, rfl, h1, h2⟩ := h
    have n1 : (∀ i, s ≠ .bw i) ∨ BwOk K off' H en σ := nbw.imp (fun z => (noBw_cons z).1) fun z => z
    have n2 : noBw ss = true ∨ BwOk K off' H en σ := nbw.imp (fun z => (noBw_cons z).2) fun z => z
    unfold agsOf at e
    cases e1 : ag1 m en s with
    | none => simp [e1] at e
    | some g =>
      cases e2 : agsOf ms en ss with
      | none => simp [e1, e2] at e
      | some gs' =>
        have e : gs = g :: gs' := by simpa [e1, e2] using e.symm
        subst e
        obtain ⟨v, J, rfl, ra, sj⟩ := ag1_ra h1 n1 e1 go fun a ha => k a (List.mem_append_left _ ha)
        obtain ⟨vs, J', rfl, ras, sj'⟩ := ags_ra h2 n2 e2 go fun a ha => k a (List.mem_append_right _ ha)
        exact ⟨v :: vs, J ++ J', rfl, ⟨v, vs, J, J', rfl, rfl, ra, ras⟩, sj.append sj'⟩
/-- what was lent, in hand again -/
theorem outs_rl : ∀ {md : List Md} {ss : List Sl} {gs : List Ag} {vs : List V} {G Fo : List Addr} {outs : List D}, RL K off H σ ss (vs.map some) G → agsOf md en ss = some gs → ROut K H' gs vs outs Fo → RL K off' H' σ (outSl ss outs) ((outV ss vs).map some) Fo ∧ (outV ss vs).length = (outSl ss outs).length ∧ (∀ s ∈ outSl ss outs, ∃ i d, s = .mv i d)
  | [], [], gs, vs, G, Fo, outs, h, e, ro => by
    have e : gs = [] := by simpa [agsOf] using e.symm
    subst e
    obtain ⟨rfl, rfl, rfl⟩ := ro
    exact ⟨⟨rfl, rfl⟩, rfl, fun _ z => nomatch z⟩
  | [], _ :: _, gs, vs, G, Fo, outs, h, e, _ => by simp [agsOf] at e
  | _ :: _, [], gs, vs, G, Fo, outs, h, e, _ => by simp [agsOf] at e
  | m :: ms, s :: ss, gs, vs, G, Fo, outs, h, e, ro => by
    unfold agsOf at e
    cases e1 : ag1 m en s with
    | none => simp [e1] at e
    | some g =>
      cases e2 : agsOf ms en ss with
      | none => simp [e1, e2] at e
      | some gs' =>
        have e : gs = g :: gs' := by simpa [e1, e2] using e.symm
        subst e
        have other : (∀ d, g ≠ .io d) → (∀ i d, s ≠ .mv i d) → RL K off' H' σ (outSl (s :: ss) outs) ((outV (s :: ss) vs).map some) Fo ∧ (outV (s :: ss) vs).length = (outSl (s :: ss) outs).length ∧ (∀ t ∈ outSl (s :: ss) outs, ∃ i d, t = .mv i d) := fun ng ns => by
          obtain ⟨v, r, rfl, ro'⟩ : ∃ v r, vs = v :: r ∧ ROut K H' gs' r outs Fo := by
            cases g with
            | io d => exact absurd rfl (ng d)
            | d _ => exact ro
            | rd _ => exact ro
            | ow _ => exact ro
          obtain ⟨x, r', G1, G2, er, rfl, h1, h2⟩ := h
          obtain ⟨rfl, rfl⟩ : some v = x ∧ r.map some = r' := by simpa using er
          have ih := outs_rl h2 e2 ro'
          cases s with
          | mv i d => exact absurd rfl (ns i d)
          | _ => exact ih
        cases s with
        | mv i d =>
          cases m with
          | d => simp [ag1, dref] at e1
          | ow => simp [ag1] at e1
          | io =>
            have e1 : Ag.io d = g := by simpa [ag1] using e1
            subst e1
            obtain ⟨v, r, d', dr, J, J', rfl, rfl, rfl, z, ro'⟩ := ro
            obtain ⟨x, r', G1, G2, er, rfl, h1, h2⟩ := h
            obtain ⟨rfl, rfl⟩ : some v = x ∧ r.map some = r' := by simpa using er
            obtain ⟨w, e3, _, hw⟩ := h1
            cases e3
            obtain ⟨i1, i2, i3⟩ := outs_rl h2 e2 ro'
            refine ⟨⟨some v, _, J, J', rfl, rfl, ⟨v, rfl, z, hw⟩, i1⟩, by simp [outV, outSl, i2], fun t ht => ?_⟩
            rcases List.mem_cons.mp ht with rfl | ht
            · exact ⟨_, _, rfl⟩
            · exact i3 t ht
        | bw i =>
          refine other (fun d z => ?_) fun _ _ z => nomatch z
          subst z
          cases m with
          | d =>
            cases he : dref en (.bw i) <;> simp [ag1, he] at e1
          | ow => simp [ag1] at e1
          | io => simp [ag1] at e1
        | fz d => exact other (fun d z => by subst z; cases m <;> simp [ag1, dref] at e1) fun _ _ z => nomatch z
        | ow d => exact other (fun d z => by subst z; cases m <;> simp [ag1, dref] at e1) fun _ _ z => nomatch z
        | rd d => exact other (fun d z => by subst z; cases m <;> simp [ag1, dref] at e1) fun _ _ z => nomatch z
        | so d => exact other (fun d z => by subst z; cases m <;> simp [ag1, dref] at e1) fun _ _ z => nomatch z
        | none => exact other (fun d z => by subst z; cases m <;> simp [ag1, dref] at e1) fun _ _ z => nomatch z
/-- what was lent, back at its name -/
theorem Rep.unmv {i : Nat} {d : D} {s : Sl} {x v : V} (R : Rep K off0 Hb H (s :: .mv i d :: ts) (x :: v :: tv) en σ) (e : en[i]? = some .none) : Rep K off0 Hb H (s :: ts) (x :: tv) (en.set i (.ow d)) σ := by
  obtain ⟨F, ⟨x', r, G, G', e1, rfl, h1, ⟨y', r', J, J', e2, rfl, ⟨w, e3, ro, hw⟩, h3⟩⟩, nd, fr⟩ := R.ex
  obtain ⟨rfl, rfl⟩ : some x = x' ∧ some v :: (tv.map some ++ σ) = r := by simpa using e1
  obtain ⟨rfl, rfl⟩ : some v = y' ∧ tv.map some ++ σ = r' := by simpa using e2
  cases e3
  have ln : tv.length = ts.length := by simpa using R.len
  have h3 : RL K (offs off0 (G ++ (J ++ J'))) H σ (ts ++ en) (tv.map some ++ σ) J' := h3
  obtain ⟨z, P, Q, ez, hz, pm, fin⟩ := h3.focus (i := ts.length + i) (s := .none) (by rw [get_ts]; exact e)
  have hz : P = [] := hz
  subst hz
  obtain ⟨F', q, pm'⟩ := fin (offs off0 (G ++ (J ++ J'))) H (.ow d) (some v) J ⟨v, rfl, ro⟩ .refl (fun a o n e => ⟨n, e⟩) fun _ _ => rfl
  rw [set_ts] at q
  have l : (tv.map some ++ σ).set (ts.length + i) (some v) = tv.map some ++ σ := by
    rw [← ln, set_env]
    congr 1
    obtain ⟨k1, k2⟩ := List.getElem?_eq_some_iff.mp hw
    rw [← k2]
    exact List.set_getElem_self k1
  rw [l] at q
  have pm2 : F'.Perm (J ++ J') := pm'.trans (pm.symm.append_left J)
  have pm3 : (G ++ F').Perm (G ++ (J ++ J')) := pm2.append_left G
  have go : Go (offs off0 (G ++ (J ++ J'))) H (offs off0 (G ++ F')) H := goOff fun a ha => pm3.mem_iff.mp ha
  exact ⟨⟨G ++ F', ⟨some x, _, G, F', rfl, rfl, h1.tr .refl go (fun _ _ => rfl), q.tr .refl go fun _ _ => rfl⟩, pm3.nodup_iff.mpr nd, fun a ha => fr a (pm3.mem_iff.mp ha)⟩, R.out, R.base, by simp [ln], nb_set R.nbe rfl⟩
theorem Rep.unmvs {s : Sl} {x : V} : ∀ {ss : List Sl} {vs : List V} {outs : List D} {en en' : En}, Rep K off0 Hb H (s :: (outSl ss outs ++ ts)) (x :: (outV ss vs ++ tv)) en σ → vs.length = ss.length → putBack ss outs en = some en' → Rep K off0 Hb H (s :: ts) (x :: tv) en' σ
  | [], [], [], en, en', R, _, e => by
    have e : en = en' := by simpa [putBack] using e
    subst e
    exact R
  | [], [], _ :: _, en, en', R, _, e => by simp [putBack] at e
  | [], _ :: _, _, en, en', R, l, e => by simp at l
  | _ :: _, [], _, en, en', R, l, e => by simp at l
  | .mv i d0 :: ss, v :: vs, outs, en, en', R, l, e => by
    cases outs with
    | nil => simp [putBack] at e
    | cons d ds =>
      unfold putBack at e
      dsimp only at e
      cases he : en[i]? with
      | none => simp [he] at e
      | some t =>
        cases t with
        | none =>
          have e : putBack ss ds (en.set i (.ow d)) = some en' := by simpa [he] using e
          exact Rep.unmvs (ss := ss) (vs := vs) (outs := ds) (Rep.unmv (ts := outSl ss ds ++ ts) (tv := outV ss vs ++ tv) R he) (by simpa using l) e
        | _ => simp [he] at e
  | .none :: ss, v :: vs, outs, en, en', R, l, e => Rep.unmvs (ss := ss) (vs := vs) (outs := outs) R (by simpa using l) (by simpa [putBack] using e)
  | .fz _ :: ss, v :: vs, outs, en, en', R, l, e => Rep.unmvs (ss := ss) (vs := vs) (outs := outs) R (by simpa using l) (by simpa [putBack] using e)
  | .ow _ :: ss, v :: vs, outs, en, en', R, l, e => Rep.unmvs (ss := ss) (vs := vs) (outs := outs) R (by simpa using l) (by simpa [putBack] using e)
  | .rd _ :: ss, v :: vs, outs, en, en', R, l, e => Rep.unmvs (ss := ss) (vs := vs) (outs := outs) R (by simpa using l) (by simpa [putBack] using e)
  | .bw _ :: ss, v :: vs, outs, en, en', R, l, e => Rep.unmvs (ss := ss) (vs := vs) (outs := outs) R (by simpa using l) (by simpa [putBack] using e)
  | .so _ :: ss, v :: vs, outs, en, en', R, l, e => Rep.unmvs (ss := ss) (vs := vs) (outs := outs) R (by simpa using l) (by simpa [putBack] using e)
/-- behind a call: the result, what was lent, the rest -/
theorem Rep.called {ss : List Sl} {vs : List V} {gs : List Ag} {md : List Md} {o : Bool} {d : D} {outs : List D} {en' : En} {v : V} {J Fo G0 : List Addr} (R : Rep K off0 Hb H (ss.reverse ++ ts) (vs.reverse ++ tv) en σ) (l : vs.length = ss.length)
    {G F : List Addr} (q1 : RL K (offs off0 (G ++ F)) H σ ss (vs.map some) G) (q2 : RL K (offs off0 (G ++ F)) H σ (ts ++ en) (tv.map some ++ σ) F) (nd : (G ++ F).Nodup) (fr : ∀ a ∈ G ++ F, Hb a = none) (ln : tv.length = ts.length)
    (ea : agsOf md en ss = some gs) (kp : KeepF G0 H H') (tst : TStay H H') (hs : ∀ a ∈ G0, a ∈ G) (hz : o = false → J = [] ∧ RZ K (offs off0 (Fo ++ F)) H' d v)
    (ro : o = true → RO K H' d v J) (outs_ok : ROut K H' gs vs outs Fo) (nJ : (J ++ Fo).Nodup) (mJ : ∀ a ∈ J ++ Fo, a ∈ G0 ∨ H a = none) (pb : putBack ss outs en = some en') : Rep K off0 Hb H' ((if o then mkS true d else .fz d) :: ts) (v :: tv) en' σ := by
  have ndA := List.nodup_append.mp nd
  -- a thing of the rest is not touched
  have rest_ne : ∀ a ∈ F, a ∉ J ++ Fo := fun a ha z => by
    rcases mJ a z with z | z
    · exact ndA.2.2 a (hs a z) a ha rfl
    · obtain ⟨o, e⟩ := q2.there a ha
      rw [z] at e
      cases e
  have keepF : ∀ a ∈ F, H' a = H a := fun a ha => by
    obtain ⟨o, e⟩ := q2.there a ha
    rw [e]
    exact kp a o (fun z => ndA.2.2 a (hs a z) a ha rfl) e
  have go : ∀ J', (∀ a ∈ J', a ∈ J ++ Fo) → Go (offs off0 (G ++ F)) H (offs off0 (J' ++ F)) H' := fun J' hJ a o n e => by
    have nG : a ∉ G := fun z => n (.inr (List.mem_append_left _ z))
    refine ⟨fun z => ?_, kp a o (fun z => nG (hs a z)) e⟩
    rcases z with z | z
    · exact n (.inl z)
    · rcases List.mem_append.mp z with z | z
      · rcases mJ a (hJ a z) with z | z
        · exact nG (hs a z)
        · rw [z] at e; cases e
      · exact n (.inr (List.mem_append_right _ z))
  have frJ : ∀ a ∈ J ++ Fo, Hb a = none := fun a ha => by
    rcases mJ a ha with z | z
    · exact fr a (List.mem_append_left _ (hs a z))
    · exact R.base.free z
  have base' : Same Hb H' := fun b x e => kp b x (fun z => by rw [fr b (List.mem_append_left _ (hs b z))] at e; cases e) (R.base b x e)
  have fin : ∀ (s : Sl) (J' : List Addr), (∀ a ∈ J', a ∈ J) → J'.Nodup → RS K (offs off0 ((J' ++ Fo) ++ F)) H' σ s (some v) J' → Rep K off0 Hb H' (s :: ts) (v :: tv) en' σ := fun s J' hJ nJ' h => by
    have subJ : ∀ a ∈ J' ++ Fo, a ∈ J ++ Fo := fun a ha => by
      rcases List.mem_append.mp ha with z | z
      · exact List.mem_append_left _ (hJ a z)
      · exact List.mem_append_right _ z
    obtain ⟨o1, o2, _⟩ := outs_rl (off' := offs off0 ((J' ++ Fo) ++ F)) q1 ea outs_ok
    have nJF := List.nodup_append.mp nJ
    have R2 : Rep K off0 Hb H' (s :: (outSl ss outs ++ ts)) (v :: (outV ss vs ++ tv)) en σ := by
      refine ⟨⟨(J' ++ Fo) ++ F, ⟨some v, _, J', Fo ++ F, rfl, by simp, h, ?_⟩, ?_, fun a ha => ?_⟩, R.out, base', by simp [o2, ln], R.nbe⟩
      · have q2' := q2.tr tst (go (J' ++ Fo) subJ) keepF
        have z := o1.join q2'
        simpa [List.append_assoc] using z
      · refine List.nodup_append.mpr ⟨List.nodup_append.mpr ⟨nJ', nJF.2.1, fun a ha b hb => nJF.2.2 a (hJ a ha) b hb⟩, ndA.2.1, fun a ha b hb z => ?_⟩
        subst z
        exact rest_ne a hb (subJ a ha)
      · rcases List.mem_append.mp ha with z | z
        · exact frJ a (subJ a z)
        · exact fr a (List.mem_append_right _ z)
    exact Rep.unmvs R2 l pb
  cases o with
  | true =>
    have r := ro rfl
    rw [if_pos rfl]
    unfold mkS
    by_cases f : flat d = true
    · rw [if_pos f]
      have e := RO.nilF _ _ _ r f
      subst e
      exact fin _ [] (fun _ z => z) List.nodup_nil ⟨rfl, v, rfl, RO.share _ _ _ r fun _ z => nomatch z⟩
    · rw [if_neg f, if_pos rfl]
      exact fin _ J (fun _ z => z) (List.nodup_append.mp nJ).1 ⟨v, rfl, r⟩
  | false =>
    rw [if_neg Bool.false_ne_true]
    obtain ⟨rfl, z⟩ := hz rfl
    exact fin _ [] (fun _ z => nomatch z) List.nodup_nil ⟨rfl, v, rfl, z⟩
/-- behind a call that raised -/
theorem Rep.left {ss : List Sl} {vs : List V} {G0 : List Addr} (R : Rep K off0 Hb H (ss.reverse ++ ts) (vs.reverse ++ tv) en σ) {G F : List Addr} (q2 : RL K (offs off0 (G ++ F)) H σ (ts ++ en) (tv.map some ++ σ) F) (nd : (G ++ F).Nodup) (fr : ∀ a ∈ G ++ F, Hb a = none) (ln : tv.length = ts.length)
    (kp : KeepF G0 H H') (tst : TStay H H') (hs : ∀ a ∈ G0, a ∈ G) : Rep K off0 Hb H' ts tv en σ := by
  have ndA := List.nodup_append.mp nd
  refine ⟨⟨F, q2.tr tst (fun a o n e => ⟨fun z => n (z.imp (fun q => q) (List.mem_append_right _)), kp a o (fun z => n (.inr (List.mem_append_left _ (hs a z)))) e⟩) fun a ha => ?_, ndA.2.1, fun a ha => fr a (List.mem_append_right _ ha)⟩, R.out, fun b x e => kp b x (fun z => by rw [fr b (List.mem_append_left _ (hs b z))] at e; cases e) (R.base b x e), ln, R.nbe⟩
  obtain ⟨o, e⟩ := q2.there a ha
  rw [e]
  exact kp a o (fun z => ndA.2.2 a (hs a z) a ha rfl) e
theorem l_call {md : List Md} {fm : List Ag → Fr} {ss : List Sl} {vs : List V} {Q : VK} (l : vs.length = ss.length) (R : Rep C.K off0 Hb H (ss.reverse ++ ts) (vs.reverse ++ tv) en σ) (q : Post C off0 Hb ts tv σ Q (gCall md fm ss en)) : spF C.K C.cv fm vs H Q (fun cls d H' => C.W cls d σ H') := by
  unfold gCall at q
  split at q
  · exact q.elim
  · rename_i gs ea
    obtain ⟨G, F, q1, q2, nd, fr, ln⟩ := R.cut l
    have ndA := List.nodup_append.mp nd
    have dom : ∀ a, offs off0 F a → a ∉ G ∧ ∃ o, H a = some o := fun a z => by
      rcases z with z | z
      · obtain ⟨o, e⟩ := R.out a z
        exact ⟨fun w => (by rw [fr a (List.mem_append_left _ w)] at e; cases e), o, R.base a o e⟩
      · exact ⟨fun w => ndA.2.2 a w a z rfl, q2.there a z⟩
    obtain ⟨vs', G0, e3, ras, sl⟩ := ags_ra (off' := fun _ => False) q1 (.inr R.bwOk) ea (fun a o n e => ⟨fun z => z, e⟩) fun _ _ z => z
    have e3 : vs = vs' := List.map_inj_right (fun _ _ z => Option.some.inj z) |>.mp e3
    subst e3
    have hs : ∀ a ∈ G0, a ∈ G := fun a ha => sl.subset ha
    have nG0 := ndA.1.sublist sl
    split at q
    · exact q.elim
    · rename_i c em
      refine ⟨fun _ => False, gs, G0, ras, nG0, fun a z => z.elim, ?_⟩
      rw [em]
      exact fun H' kp => q H' (R.left q2 nd fr ln kp (keepT kp ras) hs)
    · rename_i o d outs em
      split at q
      · exact q.elim
      · rename_i en' pb
        have main : (o = true ∨ flat d = true) → Post C off0 Hb ts tv σ Q (.ok (if o then mkS true d else .fz d) en') → spF C.K C.cv fm vs H Q (fun cls d H' => C.W cls d σ H') := fun ok q => by
          refine ⟨fun _ => False, gs, G0, ras, nG0, fun a z => z.elim, ?_⟩
          rw [em]
          refine fun H' v J Fo kp rr ro nJ mJ => q _ _ (R.called l q1 q2 nd fr ln ea kp (keepT kp ras) hs (fun eo => ?_) (fun eo => ?_) ro nJ mJ pb)
          · unfold RRes at rr
            rw [eo, if_neg Bool.false_ne_true] at rr
            exact ⟨rr.1, rr.2.off_flat (by rcases ok with z | z; rw [z] at eo; cases eo; exact z)⟩
          · unfold RRes at rr
            rw [if_pos eo] at rr
            exact rr
        by_cases ho : o = true
        · subst ho
          exact main (.inl rfl) q
        · have ho : o = false := by simpa using ho
          subst ho
          by_cases hf : flat d = true
          · refine main (.inr hf) ?_
            simpa [hf] using q
          · simp only [Bool.false_eq_true, if_false, hf] at q
            by_cases hb : noBw ss = true
            · simp only [hb, if_true] at q
              obtain ⟨vs', G1, e3, ras', sl'⟩ := ags_ra (off' := offs off0 F) (en := en) q1 (.inl hb) ea (goOff fun a ha => List.mem_append_right _ ha) fun a ha z => (dom a z).1 ha
              have e3 : vs = vs' := List.map_inj_right (fun _ _ z => Option.some.inj z) |>.mp e3
              subst e3
              have hs' : ∀ a ∈ G1, a ∈ G := fun a ha => sl'.subset ha
              refine ⟨offs off0 F, gs, G1, ras', ndA.1.sublist sl', fun a z => ⟨fun w => (dom a z).1 (hs' a w), (dom a z).2⟩, ?_⟩
              rw [em]
              refine fun H' v J Fo kp rr ro nJ mJ => ?_
              unfold RRes at rr
              rw [if_neg Bool.false_ne_true] at rr
              have z := R.called (o := false) (d := d) (v := v) l q1 q2 nd fr ln ea kp (keepT kp ras') hs' (fun _ => ⟨rr.1, ?_⟩) (fun z => nomatch z) ro nJ mJ pb
              · rw [if_neg Bool.false_ne_true] at z
                exact q _ _ z
              · refine RZ.go .refl (fun a o n e => ⟨fun z => n ?_, e⟩) _ _ rr.2
                rcases z with z | z
                · exact .inl (.inl z)
                · rcases List.mem_append.mp z with z | z
                  · exact .inr z
                  · exact .inl (.inr z)
            · simp only [hb, if_false] at q
              exact q.elim
/-- f(e, ..) -/
theorem d_call {k : Nat} {f : Addr} {fd : FuncData} {ps : List Str} {x : Str} {p : Pos} {md : List Md} {fm : List Ag → Fr} {fs : EvA} (F : FnOk X.prog X.w X.K X.mg X.base (L2.CX X.prog X.w) k f fd ps (spF X.K C.cv fm)) (hr : Room k X.A) (hg : Gl X x) (hm : X.mg x = some (.ref f)) (hk : PySem.W.keepIn X.K (.ref f) = true) (hb : Binds X.K fd ps []) (tk : Takes X C.W) (hK : C.K = X.K)
    (ha : PA X (e :: es) (tDA C fs)) (hdb : (x == ("__debug__" : Str)) = false := by decide) (he : starEach (e :: es) X.env = (false, eval e X.env) :: starEach es X.env := by rfl) (hpl : (backTo pos (starEach es X.env)).any (·.1) = false := by rfl) :
    PE X (.Call (.Name x p) (e :: es) [] pos) (tD C (vA fs (gCall md fm))) := by
  refine PEimp (pe_callS F hr hg hm hk hb (fun σ => passAt tk σ) ha hdb he hpl) ?_
  rintro σ H Q ⟨off0, Hb, ts, tv, en, R, q⟩
  refine tDA.step R q fun ss en' H' vs _ l R' q' => ?_
  have z := l_call l R' q'
  rw [hK] at z
  exact z
end
end T
/-! T9: statements, loops. -/
namespace T
open PySem PySem.Spec L2

inductive Out where
  | nx (en : En) | rt (s : Sl) (en : En) | bk (en : En) | ct (en : En) | ex (c : Str) (en : En) | no
abbrev Sv := En → Out
def PostS (C : Cv) (off0 : Addr → Prop) (Hb : Hp) (ts : List Sl) (tv : List V) (D : Ends) : Out → Prop
  | .nx en => ∀ σ H, Rep C.K off0 Hb H ts tv en σ → D.nx σ H
  | .bk en => ∀ σ H, Rep C.K off0 Hb H ts tv en σ → D.bk σ H
  | .ct en => ∀ σ H, Rep C.K off0 Hb H ts tv en σ → D.ct σ H
  | .rt s en => ∀ v σ H, Rep C.K off0 Hb H (s :: ts) (v :: tv) en σ → D.rt v H
  | .ex c en => ∀ σ H, Rep C.K off0 Hb H ts tv en σ → C.W (C.cv c) none σ H
  | .no => False
def tDS (C : Cv) (sb : Sv) : TS := fun D σ H => ∃ off0 Hb ts tv en, nb ts ∧ Rep C.K off0 Hb H ts tv en σ ∧ PostS C off0 Hb ts tv D (sb en)
theorem PSimp {X : Cx} {e : Stmt} {t t' : TS} (h : PS X e t) (i : ∀ D σ H, t' D σ H → t D σ H) : PS X e t' := ⟨fun pins s σ H D I q => h.run pins s σ H D I (i D σ H q)⟩
theorem PSsimp {X : Cx} {e : List Stmt} {t t' : TS} (h : PSs X e t) (i : ∀ D σ H, t' D σ H → t D σ H) : PSs X e t' := ⟨fun pins s σ H D I q => h.run pins s σ H D I (i D σ H q)⟩
section
variable {K : PySem.W.Frag} {C : Cv} {off0 off off' : Addr → Prop} {Hb H H' : Hp} {ts : List Sl} {tv : List V} {en : En} {σ σ' : L2.St} {X : Cx} {a b : List Stmt} {e : Expr} {es : List Expr} {st : Stmt} {rest : List Stmt} {pos : Pos} {f fa fb : Ev} {r : EvA} {s1 s2 : Sv} {De : Ends}

def sNil : Sv := fun en => .nx en
def sSeq (a b : Sv) : Sv := fun en => match a en with
  | .nx e => b e
  | .rt s e => .rt s e
  | .bk e => .bk e
  | .ct e => .ct e
  | .ex c e => .ex c e
  | .no => .no
theorem ds_nil : PSs X [] (tDS C sNil) := PSsimp pss_nil fun D σ H ⟨off0, Hb, ts, tv, en, n, R, q⟩ => q σ H R
theorem ds_one (h : PS X st (tDS C s1)) : PSs X [st] (tDS C s1) := pss_one h
theorem ds_cons (h1 : PS X st (tDS C s1)) (h2 : PSs X rest (tDS C s2)) : PSs X (st :: rest) (tDS C (sSeq s1 s2)) := by
  refine PSsimp (pss_cons h1 h2) ?_
  rintro D σ H ⟨off0, Hb, ts, tv, en, n, R, q⟩
  refine ⟨off0, Hb, ts, tv, en, n, R, ?_⟩
  unfold sSeq at q
  cases e1 : s1 en with
  | nx e => rw [e1] at q; exact fun σ' H' R' => ⟨off0, Hb, ts, tv, e, n, R', q⟩
  | rt s e => rw [e1] at q; exact q
  | bk e => rw [e1] at q; exact q
  | ct e => rw [e1] at q; exact q
  | ex c e => rw [e1] at q; exact q
  | no => rw [e1] at q; exact q
def sPass : Sv := fun en => .nx en
def sBreak : Sv := fun en => .bk en
def sCont : Sv := fun en => .ct en
theorem ds_pass : PS X (.Pass pos) (tDS C sPass) := PSimp ps_pass fun D σ H ⟨off0, Hb, ts, tv, en, n, R, q⟩ => q σ H R
theorem ds_break : PS X (.Break pos) (tDS C sBreak) := PSimp ps_break fun D σ H ⟨off0, Hb, ts, tv, en, n, R, q⟩ => q σ H R
theorem ds_cont : PS X (.Continue pos) (tDS C sCont) := PSimp ps_continue fun D σ H ⟨off0, Hb, ts, tv, en, n, R, q⟩ => q σ H R
/-- a value, then what a statement does with it -/
def vS (f : Ev) (k : Sl → En → Out) : Sv := fun en => match f en with
  | .ok s e => k s e
  | .ex c e => .ex c e
  | .no => .no
theorem tD.stepS {f : Ev} {k : Sl → En → Out} {Q' : VK} (R : Rep C.K off0 Hb H ts tv en σ) (q : PostS C off0 Hb ts tv De (vS f k en))
    (h : ∀ s en' H' v, Rep C.K off0 Hb H' (s :: ts) (v :: tv) en' σ → PostS C off0 Hb ts tv De (k s en') → Q' v H') : tD C f σ H Q' := by
  refine ⟨off0, Hb, ts, tv, en, R, ?_⟩
  unfold vS at q
  cases e : f en with
  | no => rw [e] at q; exact q
  | ex c en' => rw [e] at q; exact fun H R => q σ H R
  | ok s en' => rw [e] at q; exact fun H' v R' => h s en' H' v R' q
def sExpr (f : Ev) : Sv := vS f fun _ e => .nx e
theorem ds_expr (he : PE X e (tD C f)) (hs : swapsWith e none pos.line X.env = pure false := by rfl) : PS X (.Expr e pos) (tDS C (sExpr f)) := by
  refine PSimp (ps_expr he hs) ?_
  rintro D σ H ⟨off0, Hb, ts, tv, en, n, R, q⟩
  exact tD.stepS R q fun s en' H' v R' q' => q' σ H' R'.drop
theorem ds_doc {x j pos'} : PS X (.Expr (.Constant (.str x) j pos) pos') (tDS C sPass) := PSimp ps_doc fun D σ H ⟨off0, Hb, ts, tv, en, n, R, q⟩ => q σ H R
def sRet (f : Ev) : Sv := vS f fun s e => .rt s e
theorem ds_ret (he : PE X e (tD C f)) : PS X (.Return (some e) pos) (tDS C (sRet f)) := by
  refine PSimp (ps_ret he) ?_
  rintro D σ H ⟨off0, Hb, ts, tv, en, n, R, q⟩
  exact tD.stepS R q fun s en' H' v R' q' => q' v σ H' R'
def sRetN : Sv := fun en => .rt (.fz .non) en
theorem ds_retN : PS X (.Return none pos) (tDS C sRetN) := PSimp ps_retN fun D σ H ⟨off0, Hb, ts, tv, en, n, R, q⟩ => q .non σ H R.pushN
def sIf (t : EvT) (a b : Sv) : Sv := fun en => match t en with
  | .ok c e => if c then a e else b e
  | .ex c e => .ex c e
  | .no => .no
theorem ds_if {c : Expr} {t : EvT} (hc : PT X c (tDT C t)) (ha : PSs X a (tDS C s1)) (hb : PSs X b (tDS C s2)) : PS X (.If c a b pos) (tDS C (sIf t s1 s2)) := by
  refine PSimp (ps_if hc ha hb) ?_
  rintro D σ H ⟨off0, Hb, ts, tv, en, n, R, q⟩
  refine ⟨off0, Hb, ts, tv, en, R, ?_⟩
  unfold sIf at q
  cases e : t en with
  | no => rw [e] at q; exact q
  | ex c en' => rw [e] at q; exact fun H R => q σ H R
  | ok d en' =>
    rw [e] at q
    intro H' R'
    cases d with
    | true => rw [if_pos rfl]; exact ⟨off0, Hb, ts, tv, en', n, R', q⟩
    | false => rw [if_neg Bool.false_ne_true]; exact ⟨off0, Hb, ts, tv, en', n, R', q⟩

/-! ### stores -/
def stS (s : Sl) : Option Sl := match s with
  | .fz d => some (.fz d)
  | .ow d => some (.ow d)
  | .rd ns => some (.rd ns)
  | _ => none
theorem stS_eq {s s' : Sl} (h : stS s = some s') : s' = s ∧ nb1 s = true := by
  cases s <;> simp [stS] at h <;> simp [h, nb1]
theorem Rep.assign {s s0 : Sl} {v : V} {i : Nat} (R : Rep K off0 Hb H (s :: ts) (v :: tv) en σ) (n : nb ts) (n1 : nb1 s = true) (e : en[i]? = some s0) : Rep K off0 Hb H ts tv (en.set i s) (σ.set i (some v)) := by
  obtain ⟨F, ⟨x', r, G, G', e1, rfl, h1, h2⟩, nd, fr⟩ := R.ex
  obtain ⟨rfl, rfl⟩ : some v = x' ∧ tv.map some ++ σ = r := by simpa using e1
  have ln : tv.length = ts.length := by simpa using R.len
  have ndA := List.nodup_append.mp nd
  have h2 : RL K (offs off0 (G ++ G')) H σ (ts ++ en) (tv.map some ++ σ) G' := h2
  obtain ⟨z, P, Q, ez, hz, pm, fin⟩ := h2.focus (i := ts.length + i) (s := s0) (by rw [get_ts]; exact e)
  obtain ⟨F', q, pm'⟩ := fin (offs off0 (G ++ G')) H s (some v) G h1 .refl (fun a o n e => ⟨n, e⟩) fun _ _ => rfl
  rw [set_ts, ← ln, set_env] at q
  have sub : ∀ a ∈ F', a ∈ G ++ G' := fun a ha => by
    rcases List.mem_append.mp (pm'.mem_iff.mp ha) with z | z
    · exact List.mem_append_left _ z
    · exact List.mem_append_right _ (pm.mem_iff.mpr (List.mem_append_right _ z))
  have nbe : nb (en.set i s) := nb_set R.nbe n1
  refine ⟨⟨F', (q.tr .refl (goOff sub) fun _ _ => rfl).sig ?_, pm'.nodup_iff.mpr ?_, fun a ha => fr a (sub a ha)⟩, R.out, R.base, ln, nbe⟩
  · intro t ht
    rcases List.mem_append.mp ht with z | z
    · exact n t z
    · exact nbe t z
  · exact List.nodup_append.mpr ⟨ndA.1, (List.nodup_append.mp (pm.nodup_iff.mp ndA.2.1)).2.1, fun a ha b hb => ndA.2.2 a ha b (pm.mem_iff.mpr (List.mem_append_right _ hb))⟩
def setS (i : Nat) (s : Sl) (e : En) : Out := match e[i]?, stS s with
  | some _, some s' => .nx (e.set i s')
  | _, _ => .no
def sAsg (i : Nat) (f : Ev) : Sv := vS f (setS i)
theorem setS_post {s : Sl} {v : V} {i : Nat} (R : Rep C.K off0 Hb H (s :: ts) (v :: tv) en σ) (n : nb ts) (q : PostS C off0 Hb ts tv De (setS i s en)) : De.nx (σ.set i (some v)) H := by
  unfold setS at q
  split at q
  · rename_i s0 s' e1 e2
    obtain ⟨rfl, n1⟩ := stS_eq e2
    exact q _ _ (R.assign n n1 e1)
  · exact q.elim
theorem ds_asg {i : Nat} {x : Str} {pos' : Pos} (hN : X.N.Nodup) (hi : X.N[i]? = some x) (hx : Loc X.env.scope x) (he : PE X e (tD C f)) (hs : swapsWith e (some (.Name x pos')) pos.line X.env = pure false := by rfl) (hf : X.fn x = true ∨ X.env.scope.names.lookup x = some .local := by first | exact .inl rfl | exact .inr rfl | assumption) :
    PS X (.Assign [.Name x pos'] e pos) (tDS C (sAsg i f)) := by
  refine PSimp (ps_set hN hi hx he hs hf) ?_
  rintro D σ H ⟨off0, Hb, ts, tv, en, n, R, q⟩
  exact tD.stepS R q fun s en' H' v R' q' => setS_post R' n q'
/-- frozen; taken out of a name -/
def vFrz (i : Nat) : Ev := fun en => match en[i]? with
  | some (.ow d) => .ok (.fz d) (en.set i (.fz d))
  | some (.so ds) => .ok (.fz (.lst ds)) (en.set i (.fz (.lst ds)))
  | some (.fz d) => .ok (.fz d) en
  | some (.rd ns) => .ok (.rd ns) en
  | _ => .no
def vMove (i : Nat) : Ev := fun en => match en[i]? with
  | some (.ow d) => .ok (.ow d) (en.set i .none)
  | some (.fz d) => .ok (.fz d) en
  | some (.rd ns) => .ok (.rd ns) en
  | _ => .no
def vLend (i : Nat) : Ev := fun en => match en[i]? with
  | some (.ow d) => .ok (.mv i d) (en.set i .none)
  | _ => .no
theorem Rep.frz {i : Nat} {s : Sl} {d : D} (R : Rep K off0 Hb H ts tv en σ) (e : en[i]? = some s) (hs : s = .ow d ∨ ∃ ds, s = .so ds ∧ d = .lst ds) : ∃ v, σ[i]? = some (some v) ∧ Rep K off0 Hb H (.fz d :: ts) (v :: tv) (en.set i (.fz d)) σ := by
  obtain ⟨x, F, G, Q, e1, rs, pm, nd, fr, q, fin⟩ := R.slot e
  have nd2 := List.nodup_append.mp (pm.nodup_iff.mp nd)
  have key : ∃ v, x = some v ∧ RZ K (offs off0 ([] ++ Q)) H d v := by
    rcases hs with rfl | ⟨ds, rfl, rfl⟩
    · obtain ⟨v, rfl, ro⟩ := rs
      refine ⟨v, rfl, RO.share _ _ _ ro fun b hb z => ?_⟩
      rcases z with z | z
      · obtain ⟨o, e⟩ := R.out b z
        rw [fr b (pm.mem_iff.mpr (List.mem_append_left _ hb))] at e
        cases e
      · exact nd2.2.2 b hb b z rfl
    · obtain ⟨a, ws, rfl, rfl, ha, r⟩ := rs
      refine ⟨.ref a, rfl, ?_⟩
      unfold RZ
      refine ⟨a, ws, rfl, fun z => ?_, ha, RZs.go .refl (fun b o n e => ⟨fun z => n (z.imp (fun q => q) fun z => pm.mem_iff.mpr (List.mem_append_right _ z)), e⟩) _ _ r⟩
      rcases z with z | z
      · obtain ⟨o, e⟩ := R.out a z
        rw [fr a (pm.mem_iff.mpr (List.mem_append_left _ (List.mem_singleton.mpr rfl)))] at e
        cases e
      · exact nd2.2.2 a (List.mem_singleton.mpr rfl) a z rfl
  obtain ⟨v, rfl, rz⟩ := key
  have R1 := fin H (.fz d) [] rfl ⟨rfl, v, rfl, rz⟩ .refl (fun _ z => nomatch z) List.nodup_nil fun _ _ => rfl
  obtain ⟨v', e2, R2⟩ := R1.copy (get_set (lt_of e)) (.inl ⟨d, rfl⟩)
  rw [e1] at e2
  cases e2
  exact ⟨v, e1, R2⟩
theorem Rep.take {i : Nat} {d : D} (R : Rep K off0 Hb H ts tv en σ) (e : en[i]? = some (.ow d)) : ∃ v, σ[i]? = some (some v) ∧ Rep K off0 Hb H (.ow d :: ts) (v :: tv) (en.set i .none) σ ∧ Rep K off0 Hb H (.mv i d :: ts) (v :: tv) (en.set i .none) σ := by
  obtain ⟨F, q, nd, fr⟩ := R.ex
  obtain ⟨x, G, Q, ex, ⟨v, rfl, ro⟩, pm, fin⟩ := q.focus (i := ts.length + i) (s := .ow d) (by rw [get_ts]; exact e)
  rw [← R.len, get_env (x := some v)] at ex
  obtain ⟨F', q', pm'⟩ := fin (offs off0 F) H .none (some v) [] rfl .refl (fun a o n e => ⟨n, e⟩) fun _ _ => rfl
  have l : (tv.map some ++ σ).set (ts.length + i) (some v) = tv.map some ++ σ := by
    rw [← R.len, set_env]
    congr 1
    obtain ⟨k1, k2⟩ := List.getElem?_eq_some_iff.mp ex
    rw [← k2]
    exact List.set_getElem_self k1
  rw [set_ts, l] at q'
  have pm2 : (G ++ F').Perm F := (pm'.append_left G).trans (pm.symm)
  have go : Go (offs off0 F) H (offs off0 (G ++ F')) H := goOff fun a ha => pm2.mem_iff.mp ha
  have mk : ∀ s : Sl, RS K (offs off0 (G ++ F')) H σ s (some v) G → Rep K off0 Hb H (s :: ts) (v :: tv) (en.set i .none) σ := fun s h =>
    ⟨⟨G ++ F', ⟨some v, _, G, F', rfl, rfl, h, q'.tr .refl go fun _ _ => rfl⟩, pm2.nodup_iff.mpr nd, fun a ha => fr a (pm2.mem_iff.mp ha)⟩, R.out, R.base, by simp [R.len], nb_set R.nbe rfl⟩
  exact ⟨v, ex, mk _ ⟨v, rfl, ro⟩, mk _ ⟨v, rfl, ro, ex⟩⟩
theorem d_frz {i : Nat} {x : Str} (h : PE X (.Name x pos) (tVar i)) : PE X (.Name x pos) (tD C (vFrz i)) := by
  refine PEimp h ?_
  rintro σ H Q ⟨off0, Hb, ts, tv, en, R, q⟩
  unfold vFrz at q
  split at q
  · rename_i d e; obtain ⟨v, ev, R'⟩ := R.frz e (.inl rfl); exact ⟨v, ev, q H v R'⟩
  · rename_i d e; obtain ⟨v, ev, R'⟩ := R.frz e (.inr ⟨_, rfl, rfl⟩); exact ⟨v, ev, q H v R'⟩
  · rename_i d e; obtain ⟨v, ev, R'⟩ := R.copy e (.inl ⟨d, rfl⟩); exact ⟨v, ev, q H v R'⟩
  · rename_i d e; obtain ⟨v, ev, R'⟩ := R.copy e (.inr ⟨d, rfl⟩); exact ⟨v, ev, q H v R'⟩
  · exact q.elim
theorem d_move {i : Nat} {x : Str} (h : PE X (.Name x pos) (tVar i)) : PE X (.Name x pos) (tD C (vMove i)) := by
  refine PEimp h ?_
  rintro σ H Q ⟨off0, Hb, ts, tv, en, R, q⟩
  unfold vMove at q
  split at q
  · rename_i d e; obtain ⟨v, ev, R', _⟩ := R.take e; exact ⟨v, ev, q H v R'⟩
  · rename_i d e; obtain ⟨v, ev, R'⟩ := R.copy e (.inl ⟨d, rfl⟩); exact ⟨v, ev, q H v R'⟩
  · rename_i d e; obtain ⟨v, ev, R'⟩ := R.copy e (.inr ⟨d, rfl⟩); exact ⟨v, ev, q H v R'⟩
  · exact q.elim
theorem d_lend {i : Nat} {x : Str} (h : PE X (.Name x pos) (tVar i)) : PE X (.Name x pos) (tD C (vLend i)) := by
  refine PEimp h ?_
  rintro σ H Q ⟨off0, Hb, ts, tv, en, R, q⟩
  unfold vLend at q
  split at q
  · rename_i d e; obtain ⟨v, ev, _, R'⟩ := R.take e; exact ⟨v, ev, q H v R'⟩
  · exact q.elim
/-- a value that is shared from here on -/
def vShr (f : Ev) : Ev := v1 f fun s e => match s with
  | .ow d => .ok (.fz d) e
  | s => .ok s e
theorem d_shr (h : PE X e (tD C f)) : PE X e (tD C (vShr f)) := by
  refine PEimp h ?_
  rintro σ H Q ⟨off0, Hb, ts, tv, en, R, q⟩
  refine tD.step R q fun s en' H' v _ R' q' => ?_
  cases s with
  | ow d => exact q' H' v (R'.share1 rfl)
  | _ => exact q' H' v R'
/-- x[i] = e -/
def gSet (s t u : Sl) (en : En) : Option En := match t with
  | .bw i => match soAt en i, dref en u, shr1 s with
    | some ds, some (.int k), some d => match ixN ds.length k with
      | some j => some (en.set i (soMk (ds.set j d)))
      | none => none
    | _, _, _ => none
  | _ => none
def sSet (f o x : Ev) : Sv := vS f fun s e1 => match o e1 with
  | .ok t e2 => match x e2 with
    | .ok u e3 => match gSet s t u e3 with
      | some e4 => .nx e4
      | none => .no
    | .ex c e => .ex c e
    | .no => .no
  | .ex c e => .ex c e
  | .no => .no
theorem RZs.set {d : D} {x : V} : ∀ {ds : List D} {ws : List V} {j : Nat}, RZs K off H ds ws → RZ K off H d x → RZs K off H (ds.set j d) (ws.set j x)
  | [], ws, j, h, _ => by unfold RZs at h; rw [h]; simp [RZs]
  | d' :: ds, ws, 0, h, k => by
    unfold RZs at h
    obtain ⟨v, r, rfl, h1, h2⟩ := h
    exact .cons k h2
  | d' :: ds, ws, j + 1, h, k => by
    unfold RZs at h
    obtain ⟨v, r, rfl, h1, h2⟩ := h
    exact .cons h1 (RZs.set (ds := ds) (ws := r) h2 k)
theorem ds_set {o i v : Expr} {fo fi fv : Ev} {tp : Pos} (hv : PE X v (tD C fv)) (ho : PE X o (tD C fo)) (hi : PE X i (tD C fi))
    (ha : ∀ v, assign (.Subscript o i tp) X.env v = (do
      let ov ← holding [v] (eval o X.env)
      let iv ← holding [v, ov] (eval i X.env)
      standAt tp
      holding [v, ov, iv] (setItem ov iv v)
      release [v, ov, iv] []) := by intro _; rfl) (hs : swapsWithSole [.Subscript o i tp] v pos.line X.env = pure false := by rfl) (hw : swappedStores [.Subscript o i tp] v X.env = pure none := by rfl)
    (h1 : (assignEach [.Subscript o i tp] X.env).map (·.2) = [assign (.Subscript o i tp) X.env] := by rfl) : PS X (.Assign [.Subscript o i tp] v pos) (tDS C (sSet fv fo fi)) := by
  refine PSimp (ps_asg hv (pg_sub ho hi set_list ha) hs hw h1) ?_
  rintro D σ H ⟨off0, Hb, ts, tv, en, n, R, q⟩
  refine tD.stepS R q fun s e1 H1 x R1 q1 => ⟨off0, Hb, s :: ts, x :: tv, e1, R1, ?_⟩
  cases h2 : fo e1 with
  | no => rw [h2] at q1; exact q1
  | ex c e2 => rw [h2] at q1; exact fun H R => q1 σ H R.drop
  | ok t e2 =>
    rw [h2] at q1
    intro H2 y R2
    refine ⟨off0, Hb, t :: s :: ts, y :: x :: tv, e2, R2, ?_⟩
    dsimp only at q1
    cases h3 : fi e2 with
    | no => rw [h3] at q1; exact q1
    | ex c e3 => rw [h3] at q1; exact fun H R => q1 σ H R.drop.drop
    | ok u e3 =>
      rw [h3] at q1
      intro H3 z R3
      dsimp only at q1
      cases h4 : gSet s t u e3 with
      | none => rw [h4] at q1; exact q1.elim
      | some e4 =>
        rw [h4] at q1
        unfold gSet at h4
        split at h4
        · rename_i i'
          split at h4
          · rename_i ds k d e5 e6 e7
            split at h4
            · rename_i j e8
              cases h4
              obtain ⟨sl, g1, g2⟩ := soAt_inv e5
              have hk := R3.int e6
              have hv := R3.drop.bwAt
              have li := lt_of g1
              have R4 := (R3.drop.drop.share1 e7).toSo g1 g2
              obtain ⟨a, ws, e9, ha, rz, _⟩ := R4.items (get_set li)
              rw [hv] at e9
              cases e9
              refine ⟨a, ws, k, j, rfl, hk, ha, by rw [rz.length]; exact e8, ?_⟩
              have R5 := (R4.altT (get_set li) hv ha (ds.set j d) (ws.set j x) fun off r z => RZs.set r z).toOw (by rw [setset]; exact get_set li)
              rw [setset, setset] at R5
              exact q1 σ _ R5
            · cases h4
          · cases h4
        · cases h4
end
end T
/-! T10: what is walked, targets, for, while. -/
namespace T
open PySem PySem.Spec L2
section
variable {K : PySem.W.Frag} {C : Cv} {off0 off off' : Addr → Prop} {Hb H H' : Hp} {ts : List Sl} {tv : List V} {en : En} {σ σ' : L2.St} {X : Cx} {e : Expr} {es : List Expr} {tg : Expr} {pos : Pos} {f fa fb : Ev} {r : EvA} {s1 s2 : Sv} {De : Ends} {J : It}

/-! ### sources -/
structure Src (C : Cv) (J : It) (ds : List D) (hs : List Sl) (hv : List V) : Prop where
  go : ∀ (i : Nat) (off0 : Addr → Prop) (Hb H : Hp) (ts : List Sl) (tv : List V) (en : En) (σ : L2.St) (d : D), Rep C.K off0 Hb H (hs ++ ts) (hv ++ tv) en σ → ds[i]? = some d → J.go i H ∧ ∀ x H', J.yld i H x H' → Rep C.K off0 Hb H' (.fz d :: (hs ++ ts)) (x :: (hv ++ tv)) en σ
  stop : ∀ (i : Nat) (off0 : Addr → Prop) (Hb H : Hp) (ts : List Sl) (tv : List V) (en : En) (σ : L2.St), Rep C.K off0 Hb H (hs ++ ts) (hv ++ tv) en σ → ds.length ≤ i → J.stop i H
  nbh : nb hs
  len : hv.length = hs.length
abbrev EvI := En → Rs (List Sl × List D)
def tDI (C : Cv) (fi : EvI) : TI := fun σ H R => ∃ off0 Hb ts tv en, Rep C.K off0 Hb H ts tv en σ ∧ match fi en with
  | .ok (hs, ds) en' => ∀ H' J hv, Rep C.K off0 Hb H' (hs ++ ts) (hv ++ tv) en' σ → Src C J ds hs hv → R J H'
  | .ex c en' => ∀ H', Rep C.K off0 Hb H' ts tv en' σ → C.W (C.cv c) none σ H'
  | .no => False
theorem PIimp {wi wi' : TI} (h : PI X tg e wi) (i : ∀ σ H R, wi' σ H R → wi σ H R) : PI X tg e wi' := ⟨fun pins s σ H R I q => h.run pins s σ H R I (i σ H R q)⟩
theorem Rep.elem {ds : List D} {v : V} (R : Rep K off0 Hb H (.fz (.lst ds) :: ts) (v :: tv) en σ) : ∃ a vs, v = .ref a ∧ H a = some (.lst vs) ∧ vs.length = ds.length ∧ ∀ (i : Nat) d x, ds[i]? = some d → vs[i]? = some x → Rep K off0 Hb H (.fz d :: .fz (.lst ds) :: ts) (x :: v :: tv) en σ := by
  obtain ⟨F, ⟨x', r, G, G', e1, rfl, h1, h2⟩, nd, fr⟩ := id R.ex
  obtain ⟨rfl, rfl⟩ : some v = x' ∧ tv.map some ++ σ = r := by simpa using e1
  obtain ⟨rfl, w, e2, z⟩ := id h1
  cases e2
  unfold RZ at z
  obtain ⟨a, vs, rfl, na, ha, rz⟩ := z
  refine ⟨a, vs, rfl, ha, rz.length, fun i d x e3 e4 => ?_⟩
  obtain ⟨x2, e5, zz⟩ := rz.get e3
  rw [e4] at e5
  cases e5
  exact ⟨⟨[] ++ G', ⟨some x, _, [], [] ++ G', rfl, rfl, ⟨rfl, x, rfl, zz⟩, ⟨_, _, [], G', rfl, rfl, h1, h2⟩⟩, nd, fr⟩, R.out, R.base, by have := R.len; simpa using this, R.nbe⟩
theorem Rep.elemT {ds : List D} {v : V} (R : Rep K off0 Hb H (.fz (.tup ds) :: ts) (v :: tv) en σ) : ∃ a vs, v = .ref a ∧ TupAt K H a vs ∧ vs.length = ds.length ∧ (∀ (i : Nat) d x, ds[i]? = some d → vs[i]? = some x → Rep K off0 Hb H (.fz d :: .fz (.tup ds) :: ts) (x :: v :: tv) en σ) ∧
    Rep K off0 Hb H (ds.map .fz ++ ts) (vs ++ tv) en σ := by
  obtain ⟨F, ⟨x', r, G, G', e1, rfl, h1, h2⟩, nd, fr⟩ := id R.ex
  obtain ⟨rfl, rfl⟩ : some v = x' ∧ tv.map some ++ σ = r := by simpa using e1
  obtain ⟨rfl, w, e2, z⟩ := id h1
  cases e2
  unfold RZ at z
  obtain ⟨a, vs, rfl, ha, rz⟩ := z
  have ln : tv.length = ts.length := by have := R.len; simpa using this
  refine ⟨a, vs, rfl, ha, rz.length, fun i d x e3 e4 => ?_, ?_⟩
  · obtain ⟨x2, e5, zz⟩ := rz.get e3
    rw [e4] at e5
    cases e5
    exact ⟨⟨[] ++ G', ⟨some x, _, [], [] ++ G', rfl, rfl, ⟨rfl, x, rfl, zz⟩, ⟨_, _, [], G', rfl, rfl, h1, h2⟩⟩, nd, fr⟩, R.out, R.base, by simp [ln], R.nbe⟩
  · have key : ∀ {off : Addr → Prop} (ds : List D) (vs : List V), RZs K off H ds vs → RL K off H σ (ds.map .fz) (vs.map some) [] := fun {off} ds => by
      induction ds with
      | nil => intro vs h; unfold RZs at h; rw [h]; exact ⟨rfl, rfl⟩
      | cons d ds ih =>
        intro vs h
        unfold RZs at h
        obtain ⟨v, r, rfl, h1, h2⟩ := h
        exact ⟨some v, _, [], [], rfl, rfl, ⟨rfl, v, rfl, h1⟩, ih r h2⟩
    have q := (key ds vs rz).join h2
    refine ⟨⟨G', ?_, nd, fr⟩, R.out, R.base, by simp [ln, rz.length], R.nbe⟩
    simpa [List.append_assoc] using q
theorem Rep.elemR {ns : List Int} {v : V} (R : Rep K off0 Hb H (.rd ns :: ts) (v :: tv) en σ) : ∃ a, v = .ref a ∧ SqL K H a (ns.map V.int) := by
  obtain ⟨F, ⟨x', r, G, G', e1, rfl, h1, h2⟩, nd, fr⟩ := id R.ex
  obtain ⟨rfl, rfl⟩ : some v = x' ∧ tv.map some ++ σ = r := by simpa using e1
  obtain ⟨rfl, a, e2, z⟩ := id h1
  cases e2
  exact ⟨a, rfl, z.sq⟩
theorem src_list {ds : List D} {a : Addr} : Src C (Itl C.K a) ds [.fz (.lst ds)] [.ref a] where
  go := fun i off0 Hb H ts tv en σ d R e => by
    obtain ⟨a', vs, ea, ha, l, fin⟩ := Rep.elem R
    cases ea
    have hi := (List.getElem?_eq_some_iff.mp e).1
    have hv : vs[i]? = some vs[i] := List.getElem?_eq_getElem (by omega)
    refine ⟨⟨vs, vs[i], .of ha, hv⟩, fun x H' y => ?_⟩
    obtain ⟨rfl, y⟩ := y
    exact fin i d x e (y vs (.of ha))
  stop := fun i off0 Hb H ts tv en σ R h => by
    obtain ⟨a', vs, ea, ha, l, fin⟩ := Rep.elem R
    cases ea
    exact ⟨vs, .of ha, by omega⟩
  nbh := fun s hs => by rw [List.mem_singleton.mp hs]; rfl
  len := rfl
theorem src_tup {ds : List D} {a : Addr} : Src C (Itt C.K a) ds [.fz (.tup ds)] [.ref a] where
  go := fun i off0 Hb H ts tv en σ d R e => by
    obtain ⟨a', vs, ea, ha, l, fin, _⟩ := Rep.elemT R
    cases ea
    have hi := (List.getElem?_eq_some_iff.mp e).1
    have hv : vs[i]? = some vs[i] := List.getElem?_eq_getElem (by omega)
    refine ⟨⟨vs, vs[i], ha.sq, hv⟩, fun x H' y => ?_⟩
    obtain ⟨rfl, y⟩ := y
    exact fin i d x e (y vs ha.sq)
  stop := fun i off0 Hb H ts tv en σ R h => by
    obtain ⟨a', vs, ea, ha, l, fin, _⟩ := Rep.elemT R
    cases ea
    exact ⟨vs, ha.sq, by omega⟩
  nbh := fun s hs => by rw [List.mem_singleton.mp hs]; rfl
  len := rfl
theorem src_rd {ns : List Int} {a : Addr} : Src C (Itl C.K a) (ns.map .int) [.rd ns] [.ref a] where
  go := fun i off0 Hb H ts tv en σ d R e => by
    obtain ⟨a', ea, ha⟩ := Rep.elemR R
    cases ea
    have hi := (List.getElem?_eq_some_iff.mp e).1
    rw [List.length_map] at hi
    rw [List.getElem?_map, List.getElem?_eq_getElem hi] at e
    have hv : (ns.map V.int)[i]? = some (.int ns[i]) := by rw [List.getElem?_map, List.getElem?_eq_getElem hi]; rfl
    refine ⟨⟨_, _, ha, hv⟩, fun x H' y => ?_⟩
    obtain ⟨rfl, y⟩ := y
    have := y _ ha
    rw [hv] at this
    cases this
    cases e
    exact Rep.pushI R
  stop := fun i off0 Hb H ts tv en σ R h => by
    obtain ⟨a', ea, ha⟩ := Rep.elemR R
    cases ea
    exact ⟨_, ha, by simpa using h⟩
  nbh := fun s hs => by rw [List.mem_singleton.mp hs]; rfl
  len := rfl
def signs (z : Str) : List D := z.cps.toList.map fun c => .str ⟨#[c]⟩
theorem src_str {z : Str} (k : PyData.strOk z = true) : Src C (Its z) (signs z) [] [] where
  go := fun i off0 Hb H ts tv en σ d R e => by
    unfold signs at e
    rw [List.getElem?_map] at e
    cases e1 : z.cps.toList[i]? with
    | none => rw [e1] at e; cases e
    | some c =>
      rw [e1] at e
      cases e
      have hi := (List.getElem?_eq_some_iff.mp e1).1
      refine ⟨by show i < z.cps.size; simpa using hi, fun x H' y => ?_⟩
      obtain ⟨rfl, c', e2, rfl⟩ := y
      have : c' = c := by
        have e3 : z.cps.toList[i]? = z.cps[i]? := by simp
        rw [e3, e2] at e1
        exact Option.some.inj e1
      subst this
      exact R.pushT (strOk_at k (i := (i : Int)) (atI_nat e1))
  stop := fun i off0 Hb H ts tv en σ R h => by
    unfold signs at h
    simpa [Its] using h
  nbh := fun s hs => nomatch hs
  len := rfl
def rangeD (lo : Int) (n : Nat) : List D := (List.range n).map fun i => .int (lo + (i : Nat))
theorem src_range {lo : Int} {n : Nat} : Src C (Itr lo n) (rangeD lo n) [] [] where
  go := fun i off0 Hb H ts tv en σ d R e => by
    unfold rangeD at e
    rw [List.getElem?_map] at e
    cases e1 : (List.range n)[i]? with
    | none => rw [e1] at e; cases e
    | some c =>
      obtain ⟨h1, h2⟩ := List.getElem?_eq_some_iff.mp e1
      rw [e1] at e
      cases e
      have hc : c = i := by rw [← h2]; simp
      subst hc
      refine ⟨by show c < n; simpa using h1, fun x H' y => ?_⟩
      obtain ⟨rfl, rfl⟩ := y
      exact R.pushI
  stop := fun i off0 Hb H ts tv en σ R h => by
    unfold rangeD at h
    simpa [Itr] using h
  nbh := fun s hs => nomatch hs
  len := rfl
def rangeC (lo c : Int) (n : Nat) : List D := (List.range n).map fun i => .int (lo + (i : Nat) * c)
theorem src_rangeC {lo c : Int} {n : Nat} : Src C (Itc lo c n) (rangeC lo c n) [] [] where
  go := fun i off0 Hb H ts tv en σ d R e => by
    unfold rangeC at e
    rw [List.getElem?_map] at e
    cases e1 : (List.range n)[i]? with
    | none => rw [e1] at e; cases e
    | some k =>
      obtain ⟨h1, h2⟩ := List.getElem?_eq_some_iff.mp e1
      rw [e1] at e
      cases e
      have hc : k = i := by rw [← h2]; simp
      subst hc
      refine ⟨by show k < n; simpa using h1, fun x H' y => ?_⟩
      obtain ⟨rfl, rfl⟩ := y
      exact R.pushI
  stop := fun i off0 Hb H ts tv en σ R h => by
    unfold rangeC at h
    simpa [Itc] using h
  nbh := fun s hs => nomatch hs
  len := rfl
/-- a list, or the script -/
def iL (f : Ev) : EvI := fun en => (f en).bind fun s e => match s with
  | .fz (.lst ds) => .ok ([.fz (.lst ds)], ds) e
  | .ow (.lst ds) => .ok ([.fz (.lst ds)], ds) e
  | .rd ns => .ok ([.rd ns], ns.map .int) e
  | _ => .no
def iT (f : Ev) : EvI := fun en => (f en).bind fun s e => match s with
  | .fz (.tup ds) => .ok ([.fz (.tup ds)], ds) e
  | .ow (.tup ds) => .ok ([.fz (.tup ds)], ds) e
  | _ => .no
def iS (f : Ev) : EvI := fun en => (f en).bind fun s e => match s with
  | .fz (.str z) => .ok ([], signs z) e
  | _ => .no
def PostI (C : Cv) (off0 : Addr → Prop) (Hb : Hp) (ts : List Sl) (tv : List V) (σ : L2.St) (R : It → Hp → Prop) : Rs (List Sl × List D) → Prop
  | .ok (hs, ds) en' => ∀ H' J hv, Rep C.K off0 Hb H' (hs ++ ts) (hv ++ tv) en' σ → Src C J ds hs hv → R J H'
  | .ex c en' => ∀ H', Rep C.K off0 Hb H' ts tv en' σ → C.W (C.cv c) none σ H'
  | .no => False
theorem tDI_eq {fi : EvI} {σ : L2.St} {H : Hp} {R : It → Hp → Prop} : tDI C fi σ H R ↔ ∃ off0 Hb ts tv en, Rep C.K off0 Hb H ts tv en σ ∧ PostI C off0 Hb ts tv σ R (fi en) := by
  unfold tDI
  constructor
  · rintro ⟨off0, Hb, ts, tv, en, R1, q⟩
    refine ⟨off0, Hb, ts, tv, en, R1, ?_⟩
    cases e : fi en with
    | ok p en' => rw [e] at q; exact q
    | ex c en' => rw [e] at q; exact q
    | no => rw [e] at q; exact q
  · rintro ⟨off0, Hb, ts, tv, en, R1, q⟩
    refine ⟨off0, Hb, ts, tv, en, R1, ?_⟩
    cases e : fi en with
    | ok p en' => rw [e] at q; exact q
    | ex c en' => rw [e] at q; exact q
    | no => rw [e] at q; exact q
theorem tD.stepI {k : Sl → En → Rs (List Sl × List D)} {R : It → Hp → Prop} {Q' : VK} (R1 : Rep C.K off0 Hb H ts tv en σ) (q : PostI C off0 Hb ts tv σ R ((f en).bind k))
    (h : ∀ s en' H' v, Rep C.K off0 Hb H' (s :: ts) (v :: tv) en' σ → PostI C off0 Hb ts tv σ R (k s en') → Q' v H') : tD C f σ H Q' := by
  refine ⟨off0, Hb, ts, tv, en, R1, ?_⟩
  cases e : f en with
  | no => rw [e] at q; exact q
  | ex c en' => rw [e] at q; exact q
  | ok s en' => rw [e] at q; exact fun H' v R' => h s en' H' v R' q
theorem di_list (he : PE X e (tD C f)) (hK : C.K = X.K) : PI X tg e (tDI C (iL f)) := by
  refine PIimp (pi_list he) ?_
  intro σ H R h
  obtain ⟨off0, Hb, ts, tv, en, R1, q⟩ := tDI_eq.mp h
  refine tD.stepI R1 q fun s en' H' v R' q' => ?_
  rw [← hK]
  have fin : ∀ ds, PostI C off0 Hb ts tv σ R (.ok ([.fz (.lst ds)], ds) en') → Rep C.K off0 Hb H' (.fz (.lst ds) :: ts) (v :: tv) en' σ → ∃ a, v = .ref a ∧ (∃ xs, SqL C.K H' a xs) ∧ R (Itl C.K a) H' := fun ds q' R2 => by
    obtain ⟨a, vs, rfl, ha, l, _⟩ := Rep.elem R2
    exact ⟨a, rfl, ⟨vs, .of ha⟩, q' H' _ [.ref a] R2 src_list⟩
  cases s with
  | fz d =>
    cases d with
    | lst ds => exact fin ds q' R'
    | _ => exact q'.elim
  | ow d =>
    cases d with
    | lst ds => exact fin ds q' (R'.share1 rfl)
    | _ => exact q'.elim
  | rd ns =>
    obtain ⟨a, rfl, ha⟩ := Rep.elemR R'
    exact ⟨a, rfl, ⟨_, ha⟩, q' H' _ [.ref a] R' src_rd⟩
  | _ => exact q'.elim
theorem di_tup (he : PE X e (tD C f)) (hK : C.K = X.K) : PI X tg e (tDI C (iT f)) := by
  refine PIimp (pi_tup he) ?_
  intro σ H R h
  obtain ⟨off0, Hb, ts, tv, en, R1, q⟩ := tDI_eq.mp h
  refine tD.stepI R1 q fun s en' H' v R' q' => ?_
  rw [← hK]
  have fin : ∀ ds, PostI C off0 Hb ts tv σ R (.ok ([.fz (.tup ds)], ds) en') → Rep C.K off0 Hb H' (.fz (.tup ds) :: ts) (v :: tv) en' σ → ∃ a, v = .ref a ∧ (∃ xs, SqT C.K H' a xs) ∧ R (Itt C.K a) H' := fun ds q' R2 => by
    obtain ⟨a, vs, rfl, ha, l, _⟩ := Rep.elemT R2
    exact ⟨a, rfl, ⟨vs, ha.sq⟩, q' H' _ [.ref a] R2 src_tup⟩
  cases s with
  | fz d =>
    cases d with
    | tup ds => exact fin ds q' R'
    | _ => exact q'.elim
  | ow d =>
    cases d with
    | tup ds => exact fin ds q' (R'.share1 rfl)
    | _ => exact q'.elim
  | _ => exact q'.elim
theorem di_str (he : PE X e (tD C f)) : PI X tg e (tDI C (iS f)) := by
  refine PIimp (pi_str he) ?_
  intro σ H R h
  obtain ⟨off0, Hb, ts, tv, en, R1, q⟩ := tDI_eq.mp h
  refine tD.stepI R1 q fun s en' H' v R' q' => ?_
  cases s with
  | fz d =>
    cases d with
    | str z =>
      obtain ⟨rfl, k⟩ := R'.str (i := z) rfl
      exact ⟨z, rfl, q' H' _ [] R'.drop (src_str k)⟩
    | _ => exact q'.elim
  | _ => exact q'.elim
def iR1 (fs : EvA) : EvI := fun en => (fs en).bind fun ss e => match ss with
  | [s] => match dref e s with
    | some (.int j) => if -(2 ^ 62) ≤ j ∧ j < 2 ^ 62 then .ok ([], rangeD 0 j.toNat) e else .no
    | _ => .no
  | _ => .no
def iR2 (fs : EvA) : EvI := fun en => (fs en).bind fun ss e => match ss with
  | [s, t] => match dref e s, dref e t with
    | some (.int i), some (.int j) => if -(2 ^ 62) ≤ i ∧ i < 2 ^ 62 ∧ -(2 ^ 62) ≤ j ∧ j < 2 ^ 62 then .ok ([], rangeD i (j - i).toNat) e else .no
    | _, _ => .no
  | _ => .no
theorem tDA.stepI {fs : EvA} {k : List Sl → En → Rs (List Sl × List D)} {R : It → Hp → Prop} {Q' : List V → Hp → Prop} (R1 : Rep C.K off0 Hb H ts tv en σ) (q : PostI C off0 Hb ts tv σ R ((fs en).bind k))
    (h : ∀ ss en' H' vs, vs.length = ss.length → Rep C.K off0 Hb H' (ss.reverse ++ ts) (vs.reverse ++ tv) en' σ → PostI C off0 Hb ts tv σ R (k ss en') → Q' vs H') : tDA C fs σ H Q' := by
  refine ⟨off0, Hb, ts, tv, en, R1, ?_⟩
  cases e : fs en with
  | no => rw [e] at q; exact q
  | ex c en' => rw [e] at q; exact q
  | ok s en' => rw [e] at q; exact fun H' v l R' => h s en' H' v l R' q
theorem di_range1 {a : Expr} {fs : EvA} {p : Pos} (hg : Gl X "range") (hm : X.mg "range" = none) (ha : PA X [a] (tDA C fs)) (hs : starEach [a] X.env = [(false, eval a X.env)] := by rfl) : PI X tg (.Call (.Name "range" p) [a] [] pos) (tDI C (iR1 fs)) := by
  refine PIimp (pi_range1 hg hm ha hs) ?_
  intro σ H R h
  obtain ⟨off0, Hb, ts, tv, en, R1, q⟩ := tDI_eq.mp h
  refine tDA.stepI R1 q fun ss en' H' vs l R' q' => ?_
  split at q'
  · rename_i s
    obtain ⟨v, rfl⟩ := len1 l
    split at q'
    · rename_i j e
      split at q'
      · rename_i hb
        exact ⟨j, by rw [R'.int e], hb.1, hb.2, q' H' _ [] R'.drop src_range⟩
      · exact q'.elim
    · exact q'.elim
  · exact q'.elim
theorem di_range2 {a b : Expr} {fs : EvA} {p : Pos} (hg : Gl X "range") (hm : X.mg "range" = none) (ha : PA X [a, b] (tDA C fs)) (hs : starEach [a, b] X.env = [(false, eval a X.env), (false, eval b X.env)] := by rfl) (hs2 : starEach [b] X.env = [(false, eval b X.env)] := by rfl) : PI X tg (.Call (.Name "range" p) [a, b] [] pos) (tDI C (iR2 fs)) := by
  refine PIimp (pi_range2 hg hm ha hs hs2) ?_
  intro σ H R h
  obtain ⟨off0, Hb, ts, tv, en, R1, q⟩ := tDI_eq.mp h
  refine tDA.stepI R1 q fun ss en' H' vs l R' q' => ?_
  split at q'
  · rename_i s t
    obtain ⟨v, w, rfl⟩ := len2 l
    have R' : Rep C.K off0 Hb H' (t :: s :: ts) (w :: v :: tv) en' σ := R'
    split at q'
    · rename_i i j e1 e2
      split at q'
      · rename_i hb
        exact ⟨i, j, by rw [R'.below.int e1, R'.int e2], hb, q' H' _ [] R'.below.drop src_range⟩
      · exact q'.elim
    · exact q'.elim
  · exact q'.elim

/-! ### targets -/
abbrev Tf := D → En → Option En
def Tgt (C : Cv) (g : TG) (tf : Tf) : Prop := ∀ (off0 : Addr → Prop) (Hb H : Hp) (ts : List Sl) (tv : List V) (en en' : En) (σ : L2.St) (d : D) (x : V) (Q : L2.St → Hp → Prop), nb ts → Rep C.K off0 Hb H (.fz d :: ts) (x :: tv) en σ → tf d en = some en' →
  (∀ σ' H', Rep C.K off0 Hb H' ts tv en' σ' → Q σ' H') → g x σ H Q
def tfName (k : Nat) : Tf := fun d en => match en[k]? with
  | some _ => some (en.set k (.fz d))
  | none => none
theorem tgt_name {k : Nat} : Tgt C (gName k) (tfName k) := by
  intro off0 Hb H ts tv en en' σ d x Q n R e h
  unfold tfName at e
  split at e
  · rename_i s0 e0
    cases e
    exact h _ _ (R.assign n rfl e0)
  · cases e
def tfNames : List Nat → List D → En → Option En
  | [], [], en => some en
  | k :: ks, d :: ds, en => match en[k]? with
    | some _ => tfNames ks ds (en.set k (.fz d))
    | none => none
  | _, _, _ => none
def tfTup (ks : List Nat) : Tf := fun d en => match d with
  | .tup ds => tfNames ks ds en
  | _ => none
def gNames : List Nat → TGs
  | [] => gNil
  | k :: ks => gCons (gName k) (gNames ks)
theorem names_ok : ∀ {ks : List Nat} {ds : List D} {vs : List V} {en en' : En} {σ : L2.St} {H : Hp} {Q : L2.St → Hp → Prop}, nb ts → Rep K off0 Hb H (ds.map .fz ++ ts) (vs ++ tv) en σ → vs.length = ds.length → tfNames ks ds en = some en' → (∀ σ' H', Rep K off0 Hb H' ts tv en' σ' → Q σ' H') → gNames ks vs σ H Q
  | [], [], [], en, en', σ, H, Q, n, R, _, e, h => by
    have e : en = en' := by simpa [tfNames] using e
    subst e
    exact ⟨rfl, h σ H R⟩
  | [], [], _ :: _, _, _, _, _, _, _, _, l, _, _ => by simp at l
  | _, _ :: _, [], _, _, _, _, _, _, _, l, _, _ => by simp at l
  | [], _ :: _, _, _, _, _, _, _, _, _, _, e, _ => by simp [tfNames] at e
  | _ :: _, [], _, _, _, _, _, _, _, _, _, e, _ => by simp [tfNames] at e
  | k :: ks, d :: ds, v :: vs, en, en', σ, H, Q, n, R, l, e, h => by
    unfold tfNames at e
    split at e
    · rename_i s0 e0
      refine ⟨v, vs, rfl, ?_⟩
      have n2 : nb (ds.map .fz ++ ts) := fun s hs => by
        rcases List.mem_append.mp hs with z | z
        · obtain ⟨d', _, rfl⟩ := List.mem_map.mp z
          rfl
        · exact n s z
      have R2 := Rep.assign (ts := ds.map .fz ++ ts) (tv := vs ++ tv) R n2 rfl e0
      exact names_ok (ks := ks) (ds := ds) (vs := vs) n R2 (by simpa using l) e h
    · cases e
theorem tgt_tup {ks : List Nat} : Tgt C (L2.gTup C.K ks.length (gNames ks)) (tfTup ks) := by
  intro off0 Hb H ts tv en en' σ d x Q n R e h
  unfold tfTup at e
  split at e
  · rename_i ds
    obtain ⟨a, vs, rfl, ha, l, _, R2⟩ := Rep.elemT R
    have lk : ∀ {ks : List Nat} {ds : List D} {en : En}, tfNames ks ds en = some en' → ds.length = ks.length := fun {ks} => by
      induction ks with
      | nil => intro ds en e; cases ds with
        | nil => rfl
        | cons _ _ => simp [tfNames] at e
      | cons k ks ih => intro ds en e; cases ds with
        | nil => simp [tfNames] at e
        | cons d ds =>
          unfold tfNames at e
          split at e
          · rw [List.length_cons, List.length_cons, ih e]
          · cases e
    exact ⟨a, vs, rfl, ha.sq, by rw [l, lk e], names_ok n R2 l e h⟩
  · cases e
/-- targets = e -/
def sTg (f : Ev) (tf : Tf) : Sv := vS f fun s e => match shr1 s with
  | some d => match tf d e with
    | some e' => .nx e'
    | none => .no
  | none => .no
theorem ds_tg {tgt : Expr} {g : TG} {tf : Tf} (he : PE X e (tD C f)) (hg : PG X tgt g) (ht : Tgt C g tf) (hs : swapsWithSole [tgt] e pos.line X.env = pure false := by rfl) (hw : swappedStores [tgt] e X.env = pure none := by rfl)
    (h1 : (assignEach [tgt] X.env).map (·.2) = [assign tgt X.env] := by rfl) : PS X (.Assign [tgt] e pos) (tDS C (sTg f tf)) := by
  refine PSimp (ps_asg he hg hs hw h1) ?_
  rintro D σ H ⟨off0, Hb, ts, tv, en, n, R, q⟩
  refine tD.stepS R q fun s e1 H1 x R1 q1 => ?_
  split at q1
  · rename_i d e2
    split at q1
    · rename_i e' e3
      exact ht off0 Hb H1 ts tv e1 e' σ d x _ n (R1.share1 e2) e3 q1
    · exact q1.elim
  · exact q1.elim

/-! ### for -/
def forL (tf : Tf) (body : Sv) : List D → En → Out
  | [], en => .nx en
  | d :: ds, en => match tf d en with
    | none => .no
    | some e => match body e with
      | .nx e2 => forL tf body ds e2
      | .ct e2 => forL tf body ds e2
      | .bk e2 => .nx e2
      | .rt s e2 => .rt s e2
      | .ex c e2 => .ex c e2
      | .no => .no
def sFor (fi : EvI) (tf : Tf) (body : Sv) : Sv := fun en => match fi en with
  | .ok p e => forL tf body p.2 e
  | .ex c e => .ex c e
  | .no => .no
theorem Rep.dropMid {hs : List Sl} {hv : List V} {s : Sl} {v : V} (R : Rep K off0 Hb H (s :: (hs ++ ts)) (v :: (hv ++ tv)) en σ) (l : hv.length = hs.length) : Rep K off0 Hb H (s :: ts) (v :: tv) en σ := by
  induction hs generalizing hv with
  | nil =>
    cases hv with
    | nil => exact R
    | cons _ _ => simp at l
  | cons h hs ih =>
    cases hv with
    | nil => simp at l
    | cons w hv => exact ih (hv := hv) (Rep.drop2 (ts := hs ++ ts) (tv := hv ++ tv) R) (by simpa using l)
theorem nb_app {a b : List Sl} (h : nb a) (k : nb b) : nb (a ++ b) := fun s hs => (List.mem_append.mp hs).elim (h s) (k s)
theorem ds_for {iter tgt : Expr} {body : List Stmt} {fi : EvI} {g : TG} {tf : Tf} {sb : Sv} (hp : PassesOwn (model X.prog X.w) X.A X.env X.xe) (hc : X.calm = true) (hi : PI X tgt iter (tDI C fi)) (hg : PG X tgt g) (ht : Tgt C g tf) (hb : PSs X body (tDS C sb))
    (hs : ∀ x, foldedSetIterable iter X.env x = pure x := by intro _; rfl) : PS X (.For tgt iter body [] pos) (tDS C (sFor fi tf sb)) := by
  refine PSimp (ps_for hp hc hi hg hb hs) ?_
  rintro D σ H ⟨off0, Hb, ts, tv, en, n, R, q⟩
  unfold sFor at q
  refine tDI_eq.mpr ⟨off0, Hb, ts, tv, en, R, ?_⟩
  cases e : fi en with
  | no => rw [e] at q; exact q
  | ex c en' => rw [e] at q; exact fun H R => q σ H R
  | ok p e1 =>
    obtain ⟨hs, ds⟩ := p
    rw [e] at q
    intro H1 J hv R1 S
    have q : PostS C off0 Hb ts tv D (forL tf sb ds e1) := q
    refine ⟨fun i m σ H => i ≤ ds.length ∧ m = ds.length - i ∧ ∃ en, Rep C.K off0 Hb H (hs ++ ts) (hv ++ tv) en σ ∧ PostS C off0 Hb ts tv D (forL tf sb (ds.drop i) en), ⟨_, Nat.zero_le _, rfl, e1, R1, q⟩, ?_⟩
    rintro i m σ H ⟨hle, rfl, en, R, q⟩
    by_cases hi : i < ds.length
    · right
      have hd : ds.drop i = ds[i] :: ds.drop (i + 1) := List.drop_eq_getElem_cons hi
      rw [hd] at q
      obtain ⟨go, step⟩ := S.go i off0 Hb H ts tv en σ ds[i] R (List.getElem?_eq_getElem hi)
      refine ⟨go, fun σ' H' => ∃ en, Rep C.K off0 Hb H' (hs ++ ts) (hv ++ tv) en σ' ∧ PostS C off0 Hb ts tv D (forL tf sb (ds.drop (i + 1)) en), fun σ' H' ⟨en', R', q'⟩ => ⟨ds.length - (i + 1), by omega, by omega, rfl, en', R', q'⟩, fun x H' y => ?_⟩
      unfold forL at q
      split at q
      · exact q.elim
      · rename_i e2 e3
        refine ht off0 Hb H' (hs ++ ts) (hv ++ tv) en e2 σ ds[i] x _ (nb_app S.nbh n) (step x H' y) e3 fun σ2 H2 R2 => ⟨off0, Hb, hs ++ ts, hv ++ tv, e2, nb_app S.nbh n, R2, ?_⟩
        cases e4 : sb e2 with
        | nx e5 => rw [e4] at q; exact fun σ3 H3 R3 => ⟨e5, R3, q⟩
        | ct e5 => rw [e4] at q; exact fun σ3 H3 R3 => ⟨e5, R3, q⟩
        | bk e5 => rw [e4] at q; exact fun σ3 H3 R3 => q σ3 H3 (R3.dropN S.len)
        | rt s e5 => rw [e4] at q; exact fun v σ3 H3 R3 => q v σ3 H3 (R3.dropMid S.len)
        | ex c e5 => rw [e4] at q; exact fun σ3 H3 R3 => q σ3 H3 (R3.dropN S.len)
        | no => rw [e4] at q; exact q.elim
    · left
      have e0 : ds.drop i = [] := List.drop_eq_nil_of_le (by omega)
      rw [e0] at q
      exact ⟨S.stop i off0 Hb H ts tv en σ R (by omega), q σ H (R.dropN S.len)⟩

/-! ### while -/
def whL (t : EvT) (body : Sv) : Nat → En → Out
  | 0, _ => .no
  | n + 1, en => match t en with
    | .ok true e => match body e with
      | .nx e2 => whL t body n e2
      | .ct e2 => whL t body n e2
      | .bk e2 => .nx e2
      | .rt s e2 => .rt s e2
      | .ex c e2 => .ex c e2
      | .no => .no
    | .ok false e => .nx e
    | .ex c e => .ex c e
    | .no => .no
def sWhile (fuel : Nat) (t : EvT) (body : Sv) : Sv := fun en => whL t body fuel en
theorem ds_while {c : Expr} {body : List Stmt} {t : EvT} {sb : Sv} {fuel : Nat} (hp : PassesOwn (model X.prog X.w) X.A X.env X.xe) (hc : PT X c (tDT C t)) (hb : PSs X body (tDS C sb)) : PS X (.While c body [] pos) (tDS C (sWhile fuel t sb)) := by
  refine PSimp (ps_while hp hc hb) ?_
  rintro D σ H ⟨off0, Hb, ts, tv, en, n, R, q⟩
  refine ⟨fun m σ H => ∃ en, Rep C.K off0 Hb H ts tv en σ ∧ PostS C off0 Hb ts tv D (whL t sb m en), ⟨fuel, en, R, q⟩, ?_⟩
  rintro m σ H ⟨en, R, q⟩
  cases m with
  | zero => exact q.elim
  | succ m =>
    unfold whL at q
    refine ⟨off0, Hb, ts, tv, en, R, ?_⟩
    cases e1 : t en with
    | no => rw [e1] at q; exact q
    | ex c e2 => rw [e1] at q; exact fun H R => q σ H R
    | ok b e2 =>
      rw [e1] at q
      intro H' R'
      cases b with
      | false => rw [if_neg Bool.false_ne_true]; exact q σ H' R'
      | true =>
        rw [if_pos rfl]
        refine ⟨fun σ' H' => ∃ en, Rep C.K off0 Hb H' ts tv en σ' ∧ PostS C off0 Hb ts tv D (whL t sb m en), fun σ' H' h => ⟨m, Nat.lt_succ_self _, h⟩, off0, Hb, ts, tv, e2, n, R', ?_⟩
        dsimp only at q
        cases e3 : sb e2 with
        | nx e5 => rw [e3] at q; exact fun σ3 H3 R3 => ⟨e5, R3, q⟩
        | ct e5 => rw [e3] at q; exact fun σ3 H3 R3 => ⟨e5, R3, q⟩
        | bk e5 => rw [e3] at q; exact q
        | rt s e5 => rw [e3] at q; exact q
        | ex c e5 => rw [e3] at q; exact q
        | no => rw [e3] at q; exact q.elim
end
end T
/-! T11: list comprehensions. -/
namespace T
open PySem PySem.Spec L2
section
variable {K : PySem.W.Frag} {C : Cv} {off0 off off' : Addr → Prop} {Hb H H' : Hp} {ts ts1 ts2 : List Sl} {tv tv1 tv2 : List V} {en : En} {σ σ' : L2.St} {X : Cx}
/-- names seen as values in hand, and back -/
theorem Rep.fold (R : Rep K off0 Hb H (ts1 ++ ts2) (tv1 ++ tv2) en σ) (l : tv1.length = ts1.length) (n1 : nb ts1) (n2 : nb ts2) : Rep K off0 Hb H ts1 tv1 (ts2 ++ en) (tv2.map some ++ σ) := by
  obtain ⟨F, q, nd, fr⟩ := R.ex
  refine ⟨⟨F, ?_, nd, fr⟩, R.out, R.base, l, nb_app n2 R.nbe⟩
  have q2 : RL K (offs off0 F) H σ (ts1 ++ (ts2 ++ en)) (tv1.map some ++ (tv2.map some ++ σ)) F := by simpa [List.append_assoc] using q
  exact q2.sig (nb_app n1 (nb_app n2 R.nbe))
theorem Rep.unfold {τ : L2.St} (R : Rep K off0 Hb H ts1 tv1 (ts2 ++ en) (tv2.map some ++ σ)) (l : tv2.length = ts2.length) (n1 : nb ts1) (n2 : nb ts2) (n3 : nb en) : Rep K off0 Hb H (ts1 ++ ts2) (tv1 ++ tv2) en σ := by
  obtain ⟨F, q, nd, fr⟩ := R.ex
  refine ⟨⟨F, ?_, nd, fr⟩, R.out, R.base, by simp [R.len, l], n3⟩
  have q2 : RL K (offs off0 F) H (tv2.map some ++ σ) (ts1 ++ ts2 ++ en) ((tv1 ++ tv2).map some ++ σ) F := by simpa [List.append_assoc] using q
  exact q2.sig (nb_app (nb_app n1 n2) n3)
/-- the top value under some others -/
theorem Rep.sink {s : Sl} {v : V} {hs : List Sl} {hv : List V} (R : Rep K off0 Hb H (s :: (hs ++ ts)) (v :: (hv ++ tv)) en σ) (l : hv.length = hs.length) : Rep K off0 Hb H (hs ++ s :: ts) (hv ++ v :: tv) en σ := by
  obtain ⟨F, ⟨x', r, G, G', e1, rfl, h1, h2⟩, nd, fr⟩ := R.ex
  obtain ⟨rfl, rfl⟩ : some v = x' ∧ (hv ++ tv).map some ++ σ = r := by simpa using e1
  have h2 : RL K (offs off0 (G ++ G')) H σ (hs ++ (ts ++ en)) ((hv ++ tv).map some ++ σ) G' := by
    have h2 : RL K (offs off0 (G ++ G')) H σ ((hs ++ ts) ++ en) ((hv ++ tv).map some ++ σ) G' := h2
    rwa [List.append_assoc] at h2
  obtain ⟨ys, zs, J, J', e2, rfl, k1, k2⟩ := h2.split
  have l1 := k1.length
  rw [List.map_append, List.append_assoc] at e2
  obtain ⟨rfl, rfl⟩ := List.append_inj e2 (by simp [l1, l])
  have pm : (J ++ (G ++ J')).Perm (G ++ (J ++ J')) := by
    rw [← List.append_assoc, ← List.append_assoc]
    exact List.perm_append_comm.append_right _
  have go : Go (offs off0 (G ++ (J ++ J'))) H (offs off0 (J ++ (G ++ J'))) H := goOff fun a ha => pm.mem_iff.mp ha
  have q : RL K (offs off0 (J ++ (G ++ J'))) H σ (hs ++ (s :: (ts ++ en))) (hv.map some ++ (some v :: (tv.map some ++ σ))) (J ++ (G ++ J')) :=
    (k1.tr .refl go fun _ _ => rfl).join ⟨some v, _, G, J', rfl, rfl, h1.tr .refl go (fun _ _ => rfl), k2.tr .refl go fun _ _ => rfl⟩
  refine ⟨⟨_, ?_, pm.nodup_iff.mpr nd, fun a ha => fr a (pm.mem_iff.mp ha)⟩, R.out, R.base, ?_, R.nbe⟩
  · simpa [List.append_assoc] using q
  · have := R.len
    simp at this
    simp
    omega
/-! the frame's own values hidden while a block runs -/
def hideS : Sl → Sl
  | .bw _ => .none
  | .mv _ d => .ow d
  | s => s
def FactsL : List Sl → List V → L2.St → Prop
  | .bw i :: ts, v :: tv, σ => σ[i]? = some (some v) ∧ FactsL ts tv σ
  | .mv i _ :: ts, v :: tv, σ => σ[i]? = some (some v) ∧ FactsL ts tv σ
  | _ :: ts, _ :: tv, σ => FactsL ts tv σ
  | _, _, _ => True
theorem nb_hide : nb (ts.map hideS) := fun s hs => by
  obtain ⟨t, _, rfl⟩ := List.mem_map.mp hs
  cases t <;> rfl
theorem RL.hide : ∀ {ts : List Sl} {tv : List V} {xs : List (Option V)} {F : List Addr}, RL K off H σ (ts ++ en) (tv.map some ++ xs) F → tv.length = ts.length → RL K off H σ (ts.map hideS ++ en) (tv.map some ++ xs) F ∧ FactsL ts tv σ
  | [], [], xs, F, h, _ => ⟨h, trivial⟩
  | [], _ :: _, xs, F, h, l => by simp at l
  | _ :: _, [], xs, F, h, l => by simp at l
  | s :: ts, v :: tv, xs, F, h, l => by
    obtain ⟨x, r, G, G', e, rfl, h1, h2⟩ := h
    obtain ⟨rfl, rfl⟩ : some v = x ∧ tv.map some ++ xs = r := by simpa using e
    have h2 : RL K off H σ (ts ++ en) (tv.map some ++ xs) G' := h2
    obtain ⟨i1, i2⟩ := RL.hide h2 (by simpa using l)
    cases s with
    | bw i =>
      obtain ⟨rfl, w, e, hw⟩ := h1
      cases e
      exact ⟨⟨some v, _, [], G', rfl, rfl, rfl, i1⟩, hw, i2⟩
    | mv i d =>
      obtain ⟨w, e, ro, hw⟩ := h1
      cases e
      exact ⟨⟨some v, _, G, G', rfl, rfl, ⟨v, rfl, ro⟩, i1⟩, hw, i2⟩
    | none => exact ⟨⟨some v, _, G, G', rfl, rfl, h1, i1⟩, i2⟩
    | fz d => exact ⟨⟨some v, _, G, G', rfl, rfl, h1, i1⟩, i2⟩
    | ow d => exact ⟨⟨some v, _, G, G', rfl, rfl, h1, i1⟩, i2⟩
    | rd d => exact ⟨⟨some v, _, G, G', rfl, rfl, h1, i1⟩, i2⟩
    | so d => exact ⟨⟨some v, _, G, G', rfl, rfl, h1, i1⟩, i2⟩
theorem RL.unhide : ∀ {ts : List Sl} {tv : List V} {xs : List (Option V)} {F : List Addr}, RL K off H σ (ts.map hideS ++ en) (tv.map some ++ xs) F → tv.length = ts.length → FactsL ts tv σ → RL K off H σ (ts ++ en) (tv.map some ++ xs) F
  | [], [], xs, F, h, _, _ => h
  | [], _ :: _, xs, F, h, l, _ => by simp at l
  | _ :: _, [], xs, F, h, l, _ => by simp at l
  | s :: ts, v :: tv, xs, F, h, l, fa => by
    obtain ⟨x, r, G, G', e, rfl, h1, h2⟩ := h
    obtain ⟨rfl, rfl⟩ : some v = x ∧ tv.map some ++ xs = r := by simpa using e
    have h2 : RL K off H σ (ts.map hideS ++ en) (tv.map some ++ xs) G' := h2
    cases s with
    | bw i =>
      have h1 : G = [] := h1
      subst h1
      exact ⟨some v, _, [], G', rfl, rfl, ⟨rfl, v, rfl, fa.1⟩, RL.unhide h2 (by simpa using l) fa.2⟩
    | mv i d =>
      obtain ⟨w, e, ro⟩ := h1
      cases e
      exact ⟨some v, _, G, G', rfl, rfl, ⟨v, rfl, ro, fa.1⟩, RL.unhide h2 (by simpa using l) fa.2⟩
    | none => exact ⟨some v, _, G, G', rfl, rfl, h1, RL.unhide h2 (by simpa using l) fa⟩
    | fz d => exact ⟨some v, _, G, G', rfl, rfl, h1, RL.unhide h2 (by simpa using l) fa⟩
    | ow d => exact ⟨some v, _, G, G', rfl, rfl, h1, RL.unhide h2 (by simpa using l) fa⟩
    | rd d => exact ⟨some v, _, G, G', rfl, rfl, h1, RL.unhide h2 (by simpa using l) fa⟩
    | so d => exact ⟨some v, _, G, G', rfl, rfl, h1, RL.unhide h2 (by simpa using l) fa⟩
theorem Rep.hide {hs : List Sl} {hv : List V} (R : Rep K off0 Hb H (hs ++ ts) (hv ++ tv) en σ) (n : nb hs) (l : hv.length = hs.length) : Rep K off0 Hb H (hs ++ ts.map hideS) (hv ++ tv) en σ ∧ FactsL ts tv σ := by
  obtain ⟨F, q, nd, fr⟩ := R.ex
  have ln : tv.length = ts.length := by have := R.len; simp at this; omega
  have q2 : RL K (offs off0 F) H σ (hs ++ (ts ++ en)) (hv.map some ++ (tv.map some ++ σ)) F := by simpa [List.append_assoc] using q
  obtain ⟨ys, zs, J, J', e2, rfl, k1, k2⟩ := q2.split
  obtain ⟨rfl, rfl⟩ := List.append_inj e2 (by rw [k1.length]; simp [l])
  obtain ⟨i1, i2⟩ := RL.hide k2 ln
  refine ⟨⟨⟨_, ?_, nd, fr⟩, R.out, R.base, by simp [l, ln], R.nbe⟩, i2⟩
  simpa [List.append_assoc] using k1.join i1
theorem Rep.unhide {hs : List Sl} {hv : List V} (R : Rep K off0 Hb H (hs ++ ts.map hideS) (hv ++ tv) en σ) (l : hv.length = hs.length) (fa : FactsL ts tv σ) : Rep K off0 Hb H (hs ++ ts) (hv ++ tv) en σ := by
  obtain ⟨F, q, nd, fr⟩ := R.ex
  have ln : tv.length = ts.length := by have := R.len; simp at this; omega
  have q2 : RL K (offs off0 F) H σ (hs ++ (ts.map hideS ++ en)) (hv.map some ++ (tv.map some ++ σ)) F := by simpa [List.append_assoc] using q
  obtain ⟨ys, zs, J, J', e2, rfl, k1, k2⟩ := q2.split
  obtain ⟨rfl, rfl⟩ := List.append_inj e2 (by rw [k1.length]; simp [l])
  have i1 := RL.unhide k2 ln fa
  refine ⟨⟨_, ?_, nd, fr⟩, R.out, R.base, by simp [l, ln], R.nbe⟩
  simpa [List.append_assoc] using k1.join i1
/-! slots forgotten -/
def clr : List Nat → En → En
  | [], en => en
  | k :: ks, en => (clr ks en).set k .none
theorem clr_len : ∀ {ks : List Nat} {en : En}, (clr ks en).length = en.length
  | [], en => rfl
  | k :: ks, en => by unfold clr; rw [List.length_set, clr_len]
theorem clr_get : ∀ {ks : List Nat} {en : En} {i : Nat}, (clr ks en)[i]? = if i ∈ ks then (if i < en.length then some .none else none) else en[i]?
  | [], en, i => by simp [clr]
  | k :: ks, en, i => by
    unfold clr
    by_cases h : k = i
    · subst h
      simp [List.getElem?_set, clr_len]
    · rw [List.getElem?_set_ne h, clr_get]
      have h' : i ≠ k := fun z => h z.symm
      simp [h']
theorem Rep.forget {k : Nat} (R : Rep K off0 Hb H ts tv en σ) : Rep K off0 Hb H ts tv (en.set k .none) σ := by
  cases e : en[k]? with
  | none =>
    have z : en.set k .none = en := List.set_eq_of_length_le (by simpa using e)
    rw [z]
    exact R
  | some s =>
    obtain ⟨x, F, G, Q, e1, rs, pm, nd, fr, q, fin⟩ := R.slot e
    exact fin H .none [] rfl rfl .refl (fun _ z => nomatch z) List.nodup_nil fun _ _ => rfl
theorem Rep.clr : ∀ {ks : List Nat}, Rep K off0 Hb H ts tv en σ → Rep K off0 Hb H ts tv (T.clr ks en) σ
  | [], R => R
  | k :: ks, R => (Rep.clr (ks := ks) R).forget
/-- what nothing is known of may be anything -/
theorem RL.resig : ∀ {ss : List Sl} {xs ys : List (Option V)} {F : List Addr}, RL K off H σ ss xs F → ys.length = xs.length → nb ss → (∀ i : Nat, xs[i]? = ys[i]? ∨ ss[i]? = some .none) → RL K off H σ' ss ys F
  | [], xs, ys, F, h, l, _, _ => by
    obtain ⟨rfl, rfl⟩ := h
    have : ys = [] := List.eq_nil_of_length_eq_zero (by simpa using l)
    exact ⟨this, rfl⟩
  | s :: ss, xs, ys, F, h, l, n, k => by
    obtain ⟨x, r, G, G', rfl, rfl, h1, h2⟩ := h
    cases ys with
    | nil => simp at l
    | cons y ys =>
      have h0 := k 0
      have rs : RS K off H σ' s y G := by
        have h1' := h1.sig (σ' := σ') (n s List.mem_cons_self)
        rcases h0 with z | z
        · have z : x = y := by simpa using z
          rw [← z]
          exact h1'
        · have z : s = .none := by simpa using z
          subst z
          exact h1'
      refine ⟨y, ys, G, G', rfl, rfl, rs, RL.resig h2 (by simpa using l) (fun s hs => n s (List.mem_cons_of_mem _ hs)) fun i => ?_⟩
      have := k (i + 1)
      simpa using this
theorem Rep.resig (R : Rep K off0 Hb H ts tv en σ) (n : nb ts) (l : σ'.length = σ.length) (k : ∀ i : Nat, σ[i]? = σ'[i]? ∨ en[i]? = some .none) : Rep K off0 Hb H ts tv en σ' := by
  obtain ⟨F, q, nd, fr⟩ := R.ex
  refine ⟨⟨F, q.resig (by simp [l]) (nb_app n R.nbe) fun i => ?_, nd, fr⟩, R.out, R.base, R.len, R.nbe⟩
  have ln := R.len
  by_cases h : i < ts.length
  · left
    rw [List.getElem?_append_left (by simpa [ln] using h), List.getElem?_append_left (by simpa [ln] using h)]
  · rw [List.getElem?_append_right (by simp; omega), List.getElem?_append_right (by simp; omega), List.getElem?_append_right (by omega)]
    simp only [List.length_map, ln]
    exact k _
theorem wipe_get {ks : List Nat} {i : Nat} : (wipe σ ks)[i]? = if i ∈ ks then (if i < σ.length then some none else none) else σ[i]? := by
  induction ks with
  | nil => simp [wipe]
  | cons k ks ih =>
    unfold wipe
    by_cases h : k = i
    · subst h
      simp [List.getElem?_set, wipe_length]
    · rw [List.getElem?_set_ne h, ih]
      have h' : i ≠ k := fun z => h z.symm
      simp [h']
/-! the loop -/
def lcEnd (o : Bool) (acc : List D) : Sl := if o || flats acc then .ow (.lst acc) else .fz (.lst acc)
def lcL (o : Bool) (ks : List Nat) (tf : Tf) (t : EvT) (f : Ev) : List D → List D → En → Rs Sl
  | [], acc, en => .ok (lcEnd o acc) en
  | d :: ds, acc, en => match tf d en with
    | none => .no
    | some e => match t e with
      | .ok true e2 => match f e2 with
        | .ok s e3 => match (if o then own1 s else shr1 s) with
          | some x => if acc.length < sizeLine then lcL o ks tf t f ds (acc ++ [x]) (clr ks e3) else .no
          | none => .no
        | _ => .no
      | .ok false e2 => lcL o ks tf t f ds acc (clr ks e2)
      | _ => .no
def vLc (o : Bool) (ks : List Nat) (fi : EvI) (tf : Tf) (t : EvT) (f : Ev) : Ev := fun en => (fi en).bind fun p e => lcL o ks tf t f p.2 [] (clr ks e)
abbrev Cv.nox (C : Cv) : Cv := { C with W := fun _ _ _ _ => False }
def accS (o : Bool) (acc : List D) : Sl := if o then .ow (.lst acc) else .so acc
theorem nb_acc {o : Bool} {acc : List D} : nb1 (accS o acc) = true := by
  unfold accS
  cases o <;> rfl
/-- the target stores at its own names alone -/
def WipeOk (ks : List Nat) (g : TG) : Prop := ∀ (x : V) (σ : L2.St) (H : Hp) (Q : L2.St → Hp → Prop), (g x (wipe σ ks) H fun σ2 H2 => wipe σ2 ks = wipe σ ks → Q σ2 H2) → g x (wipe σ ks) H fun σ2 H2 => wipe σ2 ks = wipe σ ks ∧ Q σ2 H2
theorem Rep.nbAll (R : Rep K off0 Hb H ts tv en σ) : tv.length = ts.length := R.len
/-- a value put behind the list made so far -/
theorem Rep.accGrow {o : Bool} {acc : List D} {hs : List Sl} {hv : List V} {s : Sl} {y : V} {x : D} {Da : Addr} (R : Rep K off0 Hb H (s :: (hs ++ accS o acc :: ts)) (y :: (hv ++ .ref Da :: tv)) en σ) (l : hv.length = hs.length) (nh : nb hs) (nt : nb ts) (e : (if o then own1 s else shr1 s) = some x) :
    ∃ ws, H Da = some (.lst ws) ∧ ws.length = acc.length ∧ Rep K off0 Hb (upd H Da (.lst (ws ++ [y]))) (hs ++ accS o (acc ++ [x]) :: ts) (hv ++ .ref Da :: tv) en σ := by
  have lt : tv.length = ts.length := by have := R.len; simp at this; omega
  have n2 : ∀ acc, nb (accS o acc :: ts) := fun acc s hs' => by
    rcases List.mem_cons.mp hs' with rfl | z
    · exact nb_acc
    · exact nt s z
  have ns : nb1 s = true := by
    cases o with
    | true => cases s <;> simp [own1] at e <;> rfl
    | false => cases s <;> simp [shr1] at e <;> rfl
  have n1 : nb (s :: hs) := fun t ht => by
    rcases List.mem_cons.mp ht with rfl | z
    · exact ns
    · exact nh t z
  have R1 := Rep.fold (ts1 := s :: hs) (tv1 := y :: hv) (ts2 := accS o acc :: ts) (tv2 := .ref Da :: tv) R (by simp [l]) n1 (n2 acc)
  cases o with
  | true =>
    have e : own1 s = some x := by simpa using e
    obtain ⟨a, ws, e1, ha, hl, R2⟩ := Rep.grow (i := 0) (ds := acc) R1 rfl e
    cases e1
    exact ⟨ws, ha, hl, Rep.unfold (τ := []) (ts2 := accS true (acc ++ [x]) :: ts) (tv2 := .ref Da :: tv) R2 (by simp [lt]) nh (n2 _) R.nbe⟩
  | false =>
    have e : shr1 s = some x := by simpa using e
    have R1' := R1.share1 e
    obtain ⟨a, ws, e1, ha, rz, _⟩ := Rep.items (i := 0) (ds := acc) R1' rfl
    cases e1
    have R2 := Rep.altT (i := 0) (ds := acc) R1' rfl rfl ha (acc ++ [x]) (ws ++ [y]) fun off r z => r.append (.cons z .nil)
    exact ⟨ws, ha, rz.length, Rep.unfold (τ := []) (ts2 := accS false (acc ++ [x]) :: ts) (tv2 := .ref Da :: tv) R2 (by simp [lt]) nh (n2 _) R.nbe⟩
theorem Rep.accEnd {o : Bool} {acc : List D} {v : V} (R : Rep K off0 Hb H (accS o acc :: ts) (v :: tv) en σ) (nt : nb ts) : Rep K off0 Hb H (lcEnd o acc :: ts) (v :: tv) en σ := by
  have lt : tv.length = ts.length := by have := R.len; simpa using this
  have n2 : ∀ s, nb1 s = true → nb (s :: ts) := fun s h t ht => by
    rcases List.mem_cons.mp ht with rfl | z
    · exact h
    · exact nt t z
  cases o with
  | true => exact R
  | false =>
    unfold lcEnd
    have R1 := Rep.fold (ts1 := []) (tv1 := []) (ts2 := .so acc :: ts) (tv2 := v :: tv) R rfl (fun _ z => nomatch z) (n2 _ rfl)
    by_cases f : flats acc = true
    · have R2 := Rep.toOw (i := 0) (ds := acc) R1 rfl
      unfold soMk at R2
      rw [if_pos f] at R2
      simp only [Bool.false_or, f, if_true]
      exact Rep.unfold (τ := []) (ts1 := []) (tv1 := []) (ts2 := .ow (.lst acc) :: ts) (tv2 := v :: tv) R2 (by simp [lt]) (fun _ z => nomatch z) (n2 _ rfl) R.nbe
    · simp only [Bool.false_or, f, if_false]
      obtain ⟨w, e, R2⟩ := Rep.frz (i := 0) (s := .so acc) (d := .lst acc) R1 rfl (.inr ⟨_, rfl, rfl⟩)
      exact Rep.unfold (τ := []) (ts1 := []) (tv1 := []) (ts2 := .fz (.lst acc) :: ts) (tv2 := v :: tv) R2.drop (by simp [lt]) (fun _ z => nomatch z) (n2 _ rfl) R.nbe
theorem l_lc {o : Bool} {ks : List Nat} {fi : EvI} {g : TG} {tf : Tf} {t : EvT} {f : Ev} (ht : Tgt C g tf) (hw : WipeOk ks g) :
    ∀ σ H Q, tD C (vLc o ks fi tf t f) σ H Q → tLc (tDI C fi) g (tDT C.nox t) (tD C.nox f) ks σ H Q := by
  rintro σ H Q ⟨off0, Hb, ts, tv, en, R, q⟩
  unfold vLc at q
  refine tDI_eq.mpr ⟨off0, Hb, ts, tv, en, R, ?_⟩
  cases e : fi en with
  | no => rw [e] at q; exact q
  | ex c en' => rw [e] at q; exact q
  | ok p e1 =>
    obtain ⟨hs, ds⟩ := p
    rw [e] at q
    have q : Post C off0 Hb ts tv σ Q (lcL o ks tf t f ds [] (clr ks e1)) := q
    intro H1 J hv R1 S D hD
    -- the frame at the block's start
    obtain ⟨R2, fa⟩ := R1.clr (ks := ks) |>.hide S.nbh S.len
    have lσ : σ.length = (clr ks e1).length := R2.elen
    have to_w : ∀ {H : Hp} {hs' : List Sl} {hv' : List V} {en : En}, nb hs' → (∀ i ∈ ks, i < σ.length → en[i]? = some .none) → Rep C.K off0 Hb H (hs' ++ ts.map hideS) (hv' ++ tv) en σ → Rep C.K off0 Hb H (hs' ++ ts.map hideS) (hv' ++ tv) en (wipe σ ks) := fun n hk R =>
      R.resig (nb_app n nb_hide) (wipe_length _ _) fun i => by
        rw [wipe_get]
        by_cases h : i ∈ ks
        · by_cases h2 : i < σ.length
          · exact .inr (hk i h h2)
          · left; rw [if_pos h, if_neg h2]; exact List.getElem?_eq_none (by omega)
        · left; rw [if_neg h]
    have of_w : ∀ {H : Hp} {hs' : List Sl} {hv' : List V} {en : En}, nb hs' → (∀ i ∈ ks, i < σ.length → en[i]? = some .none) → Rep C.K off0 Hb H (hs' ++ ts.map hideS) (hv' ++ tv) en (wipe σ ks) → Rep C.K off0 Hb H (hs' ++ ts.map hideS) (hv' ++ tv) en σ := fun n hk R =>
      R.resig (nb_app n nb_hide) (wipe_length _ _).symm fun i => by
        rw [wipe_get]
        by_cases h : i ∈ ks
        · by_cases h2 : i < σ.length
          · exact .inr (hk i h h2)
          · left; rw [if_pos h, if_neg h2]; exact (List.getElem?_eq_none (by omega)).symm
        · left; rw [if_neg h]
    have hk0 : ∀ {en : En}, en.length = σ.length → ∀ i ∈ ks, i < σ.length → (clr ks en)[i]? = some .none := fun l i h1 h2 => by
      rw [clr_get]
      simp [h1, l, h2]
    have start : Rep C.K off0 Hb (upd H1 D (.lst [])) (hs ++ accS o [] :: ts.map hideS) (hv ++ .ref D :: tv) (clr ks e1) (wipe σ ks) := by
      have R3 := to_w S.nbh (hk0 (by rw [lσ, clr_len])) R2
      have R4 := R3.newL (ds := []) (vs := []) hD (by simp [flats]) (by simp [RZs])
      have R5 : Rep C.K off0 Hb (upd H1 D (.lst [])) (accS o [] :: (hs ++ ts.map hideS)) (.ref D :: (hv ++ tv)) (clr ks e1) (wipe σ ks) := by
        unfold accS
        cases o with
        | true => exact R4
        | false =>
          have R6 := Rep.fold (ts1 := []) (tv1 := []) (ts2 := .ow (.lst []) :: (hs ++ ts.map hideS)) (tv2 := .ref D :: (hv ++ tv)) R4 rfl (fun _ z => nomatch z) (fun s hs' => by
            rcases List.mem_cons.mp hs' with rfl | z
            · rfl
            · exact nb_app S.nbh nb_hide s z)
          have R7 := R6.toSo (i := 0) (s := .ow (.lst [])) rfl rfl
          exact Rep.unfold (τ := []) (ts1 := []) (tv1 := []) (ts2 := .so [] :: (hs ++ ts.map hideS)) (tv2 := .ref D :: (hv ++ tv)) R7 (by have := R4.len; simpa using this) (fun _ z => nomatch z) (fun s hs' => by
            rcases List.mem_cons.mp hs' with rfl | z
            · rfl
            · exact nb_app S.nbh nb_hide s z) R4.nbe
      exact R5.sink S.len
    refine ⟨fun i m H => i ≤ ds.length ∧ m = ds.length - i ∧ ∃ en acc, Rep C.K off0 Hb H (hs ++ accS o acc :: ts.map hideS) (hv ++ .ref D :: tv) en (wipe σ ks) ∧ (∀ i ∈ ks, i < σ.length → en[i]? = some .none) ∧ Post C off0 Hb ts tv σ Q (lcL o ks tf t f (ds.drop i) acc en), ⟨_, Nat.zero_le _, rfl, _, [], start, hk0 (by rw [lσ, clr_len]), q⟩, ?_⟩
    rintro i m H ⟨hle, rfl, en, acc, R, hk, q⟩
    by_cases hi : i < ds.length
    · right
      have hd : ds.drop i = ds[i] :: ds.drop (i + 1) := List.drop_eq_getElem_cons hi
      rw [hd] at q
      obtain ⟨go, step⟩ := S.go i off0 Hb H (accS o acc :: ts.map hideS) (.ref D :: tv) en (wipe σ ks) ds[i] R (List.getElem?_eq_getElem hi)
      refine ⟨go, fun H' => ∃ en acc, Rep C.K off0 Hb H' (hs ++ accS o acc :: ts.map hideS) (hv ++ .ref D :: tv) en (wipe σ ks) ∧ (∀ i ∈ ks, i < σ.length → en[i]? = some .none) ∧ Post C off0 Hb ts tv σ Q (lcL o ks tf t f (ds.drop (i + 1)) acc en), fun H' ⟨en', acc', R', hk', q'⟩ => ⟨ds.length - (i + 1), by omega, by omega, rfl, en', acc', R', hk', q'⟩, fun x H' y => ?_⟩
      have nbt : nb (hs ++ accS o acc :: ts.map hideS) := nb_app S.nbh fun s hs' => by
        rcases List.mem_cons.mp hs' with rfl | z
        · exact nb_acc
        · exact nb_hide s z
      unfold lcL at q
      split at q
      · exact q.elim
      · rename_i e2 e3
        refine hw _ _ _ _ (ht off0 Hb H' (hs ++ accS o acc :: ts.map hideS) (hv ++ .ref D :: tv) en e2 (wipe σ ks) ds[i] x _ nbt (step x H' y) e3 fun σ2 H2 R2 ew => ?_)
        have l2 : σ2.length = σ.length := by
          have := congrArg List.length ew
          rwa [wipe_length, wipe_length] at this
        have next : ∀ {H : Hp} {en : En} {acc : List T.D}, Rep C.K off0 Hb H (hs ++ accS o acc :: ts.map hideS) (hv ++ .ref D :: tv) en σ2 → Rep C.K off0 Hb H (hs ++ accS o acc :: ts.map hideS) (hv ++ .ref D :: tv) (clr ks en) (wipe σ ks) ∧ (∀ i ∈ ks, i < σ.length → (clr ks en)[i]? = some .none) := fun {H en acc} R => by
          have le := R.elen
          have hk' := hk0 (en := en) (by omega)
          refine ⟨R.clr.resig (nb_app S.nbh fun s hs' => ?_) (by rw [wipe_length, l2]) fun i => ?_, hk'⟩
          · rcases List.mem_cons.mp hs' with rfl | z
            · exact nb_acc
            · exact nb_hide s z
          · by_cases h : i ∈ ks
            · by_cases h2 : i < σ.length
              · exact .inr (hk' i h h2)
              · left; rw [wipe_get, if_pos h, if_neg h2]; exact List.getElem?_eq_none (by omega)
            · left
              have := congrArg (fun l => l[i]?) ew
              simp only [wipe_get, if_neg h] at this
              rw [wipe_get, if_neg h]
              exact this
        refine ⟨off0, Hb, _, _, e2, R2, ?_⟩
        cases e4 : t e2 with
        | no => rw [e4] at q; exact q
        | ex c e5 => rw [e4] at q; exact q.elim
        | ok b e5 =>
          rw [e4] at q
          intro H3 R3
          cases b with
          | false =>
            rw [if_neg Bool.false_ne_true]
            obtain ⟨n1, n2⟩ := next R3
            exact ⟨_, acc, n1, n2, q⟩
          | true =>
            rw [if_pos rfl]
            refine ⟨off0, Hb, _, _, e5, R3, ?_⟩
            dsimp only at q
            cases e6 : f e5 with
            | no => rw [e6] at q; exact q
            | ex c e7 => rw [e6] at q; exact q.elim
            | ok s e7 =>
              rw [e6] at q
              intro H4 z R4
              dsimp only at q
              cases e8 : (if o then own1 s else shr1 s) with
              | none => rw [e8] at q; exact q.elim
              | some x' =>
                rw [e8] at q
                dsimp only at q
                by_cases hz : acc.length < sizeLine
                · rw [if_pos hz] at q
                  obtain ⟨ws, hD', hl, R5⟩ := Rep.accGrow (s := s) R4 S.len S.nbh nb_hide e8
                  obtain ⟨n1, n2⟩ := next R5
                  exact ⟨ws, hD', by rw [hl]; exact hz, _, acc ++ [x'], n1, n2, q⟩
                · rw [if_neg hz] at q
                  exact q.elim
    · left
      have e0 : ds.drop i = [] := List.drop_eq_nil_of_le (by omega)
      rw [e0] at q
      refine ⟨S.stop i off0 Hb H (accS o acc :: ts.map hideS) (.ref D :: tv) en (wipe σ ks) R (by omega), ?_⟩
      have R1 := Rep.dropN (ss := hs) (vs := hv) (ts := accS o acc :: ts.map hideS) (tv := .ref D :: tv) R S.len
      have R2 := of_w (hs' := [accS o acc]) (hv' := [.ref D]) (fun s hs' => by rw [List.mem_singleton.mp hs']; exact nb_acc) hk R1
      have R3 := Rep.accEnd (ts := ts.map hideS) (tv := tv) R2 nb_hide
      exact q _ _ (Rep.unhide (hs := [lcEnd o acc]) (hv := [.ref D]) R3 rfl fa)
theorem wipe_set {k : Nat} {v : Option V} : wipe ((wipe σ [k]).set k v) [k] = wipe σ [k] := by
  show ((σ.set k none).set k v).set k none = σ.set k none
  rw [List.set_set, List.set_set]
theorem wipe_name {k : Nat} : WipeOk [k] (gName k) := fun x σ H Q h => ⟨wipe_set, h wipe_set⟩
def tYes1 : EvT := fun en => .ok true en
theorem dts_nil : PTs X [] (tDT C tYes1) := by
  refine ⟨fun pins s σ H Q I h => pts_nil.run pins s σ H Q I ?_⟩
  obtain ⟨off0, Hb, ts, tv, en, R, q⟩ := h
  exact q H R
theorem dts_one {c : Expr} {t : EvT} (h : PT X c (tDT C t)) : PTs X [c] (tDT C t) := pts_one h
theorem d_lc {elt tg iter : Expr} {ifs : List Expr} {scope : Scope} {own : List (Str × Nat)} {pos : Pos} {o : Bool} {fi : EvI} {g : TG} {tf : Tf} {t : EvT} {f : Ev} (hc : X.calm = true) (hN : X.N.Nodup) (hi : PI X tg iter (tDI C fi)) (ok : BlkOk X.N X.env.scope scope own)
    (hg : ∀ (s : Shared) (H : Hp) (Ca : Addr) (cl : List (Str × Addr)) (fp : List Addr), PG (X.blk s H scope (compEnvC scope cl Ca X.env) fp) tg g) (ht : ∀ (s : Shared) (H : Hp) (Ca : Addr) (cl : List (Str × Addr)) (fp : List Addr), PTs (X.blk s H scope (compEnvC scope cl Ca X.env) fp) ifs (tDT C.nox t))
    (he : ∀ (s : Shared) (H : Hp) (Ca : Addr) (cl : List (Str × Addr)) (fp : List Addr), PE (X.blk s H scope (compEnvC scope cl Ca X.env) fp) elt (tD C.nox f)) (tg_ok : Tgt C g tf) (hw : WipeOk (own.map (·.2)) g) (hs : ∀ x, foldedSetIterable iter X.env x = pure x := by intro _; rfl) :
    PE X (.ListComp elt [⟨tg, iter, ifs, 0⟩] scope pos) (tD C (vLc o (own.map (·.2)) fi tf t f)) :=
  PEimp (pe_lc hc hN hi ok hg ht he hs) (l_lc tg_ok hw)
/-- name = [..] -/
theorem ds_lc {i : Nat} {y : Str} {py : Pos} {elt tg iter : Expr} {ifs : List Expr} {scope : Scope} {own : List (Str × Nat)} {pos spos : Pos} {o : Bool} {fi : EvI} {g : TG} {tf : Tf} {t : EvT} {f : Ev} (hc : X.calm = true) (hN : X.N.Nodup) (hy : X.N[i]? = some y) (hyl : X.env.scope.names.lookup y = some .local)
    (hsw : swapsWith (.ListComp elt [⟨tg, iter, ifs, 0⟩] scope pos) (some (.Name y py)) spos.line X.env = pure true) (hi : PI X tg iter (tDI C fi)) (ok : BlkOk X.N X.env.scope scope own)
    (hg : ∀ (s : Shared) (H : Hp) (Ca : Addr) (cl : List (Str × Addr)) (fp : List Addr), PG (X.blk s H scope (compEnvC scope cl Ca X.env) fp) tg g) (ht : ∀ (s : Shared) (H : Hp) (Ca : Addr) (cl : List (Str × Addr)) (fp : List Addr), PTs (X.blk s H scope (compEnvC scope cl Ca X.env) fp) ifs (tDT C.nox t))
    (he : ∀ (s : Shared) (H : Hp) (Ca : Addr) (cl : List (Str × Addr)) (fp : List Addr), PE (X.blk s H scope (compEnvC scope cl Ca X.env) fp) elt (tD C.nox f)) (tg_ok : Tgt C g tf) (hw : WipeOk (own.map (·.2)) g) (hs : ∀ x, foldedSetIterable iter X.env x = pure x := by intro _; rfl) :
    PS X (.Assign [.Name y py] (.ListComp elt [⟨tg, iter, ifs, 0⟩] scope pos) spos) (tDS C (sAsg i (vLc o (own.map (·.2)) fi tf t f))) := by
  refine PSimp (ps_setLc hc hN hy hyl hsw hi ok hg ht he hs) ?_
  rintro D σ H ⟨off0, Hb, ts, tv, en, n, R, q⟩
  show tLc _ _ _ _ _ σ H fun x H1 => gName i x σ H1 D.nx
  refine l_lc tg_ok hw σ H _ (tD.stepS R q fun s en' H' v R' q' => ?_)
  exact setS_post R' n q'
end
end T
/-! T12: a def's promise by its body. -/
namespace T
open PySem PySem.Spec L2
/-- an argument as a slot -/
def agSl : Ag → Sl
  | .d d => .fz d
  | .rd ns => .rd ns
  | .ow d => .ow d
  | .io d => .ow d
def noOw : List Ag → Bool
  | [] => true
  | .d _ :: gs => noOw gs
  | .rd _ :: gs => noOw gs
  | _ :: _ => false
def startE (n : Nat) (gs : List Ag) : En := gs.map agSl ++ List.replicate (n - gs.length) .none
/-- what a def's body comes to -/
def endF : Out → Fr
  | .rt s en => match s with
    | .fz d => .ok false d []
    | .ow d => .ok true d []
    | .bw i => match en[i]? with
      | some (.ow d) => .ok true d []
      | some (.so ds) => .ok false (.lst ds) []
      | _ => .no
    | _ => .no
  | .nx _ => .ok false .non []
  | .ex c _ => .ex c
  | _ => .no
def runF (n : Nat) (sb : Sv) (gs : List Ag) : Fr := endF (sb (startE n gs))
section
variable {K : PySem.W.Frag} {off : Addr → Prop} {H H' : Hp} {P : Program} {w : World} {mg : Str → Option Value} {base : Heap} {cv : Str → Value}
theorem ras_noOw : ∀ {gs : List Ag} {vs : List V} {F : List Addr}, RAs K off H gs vs F → noOw gs = true → F = [] ∧ ∀ (off' : Addr → Prop) (σ : L2.St) (n : Nat), off' = offs off [] → RL K off' H σ (gs.map agSl ++ List.replicate n .none) (vs.map some ++ List.replicate n none) []
  | [], vs, F, h, _ => by
    obtain ⟨rfl, rfl⟩ := h
    refine ⟨rfl, fun off' σ n e => ?_⟩
    show RL K off' H σ (List.replicate n .none) (List.replicate n none) []
    clear e
    induction n with
    | zero => exact ⟨rfl, rfl⟩
    | succ n ih => exact ⟨none, _, [], [], rfl, rfl, rfl, ih⟩
  | g :: gs, vs, F, h, no => by
    obtain ⟨v, r, G, G', rfl, rfl, h1, h2⟩ := h
    have go : ∀ off', off' = offs off [] → Go off H off' H := fun off' e a o n q => ⟨fun z => by rw [e] at z; exact z.elim n fun z => (nomatch z), q⟩
    cases g with
    | d d =>
      obtain ⟨rfl, z⟩ := h1
      obtain ⟨rfl, fin⟩ := ras_noOw h2 (by simpa [noOw] using no)
      exact ⟨rfl, fun off' σ n e => ⟨some v, _, [], [], rfl, rfl, ⟨rfl, v, rfl, RZ.go .refl (go off' e) _ _ z⟩, fin off' σ n e⟩⟩
    | rd d =>
      obtain ⟨rfl, a, rfl, z⟩ := h1
      obtain ⟨rfl, fin⟩ := ras_noOw h2 (by simpa [noOw] using no)
      exact ⟨rfl, fun off' σ n e => ⟨some (.ref a), _, [], [], rfl, rfl, ⟨rfl, a, rfl, z.go (go off' e)⟩, fin off' σ n e⟩⟩
    | ow d => simp [noOw] at no
    | io d => simp [noOw] at no
theorem rout_noOw : ∀ {gs : List Ag} {vs : List V} {F : List Addr}, RAs K off H gs vs F → noOw gs = true → ROut K H' gs vs [] []
  | [], vs, F, h, _ => ⟨h.1, rfl, rfl⟩
  | g :: gs, vs, F, h, no => by
    obtain ⟨v, r, G, G', rfl, rfl, h1, h2⟩ := h
    cases g with
    | d d => exact ⟨v, r, rfl, rout_noOw h2 (by simpa [noOw] using no)⟩
    | rd d => exact ⟨v, r, rfl, rout_noOw h2 (by simpa [noOw] using no)⟩
    | ow d => simp [noOw] at no
    | io d => simp [noOw] at no
theorem nb_start {gs : List Ag} {n : Nat} : nb (gs.map agSl ++ List.replicate n .none) := fun s hs => by
  rcases List.mem_append.mp hs with z | z
  · obtain ⟨g, _, rfl⟩ := List.mem_map.mp z
    cases g <;> rfl
  · rw [(List.mem_replicate.mp z).2]
    rfl
/-- THE RULE: a def by its body on data -/
theorem fn_T {x qual : Str} {st : Stmt} {f : Addr} {fd : FuncData} {N ps : List Str} {k : Nat} {fm : List Ag → Fr} {sb : Sv} (F : Fun K x qual st f fd) (S : FnScope N ps (defScope st))
    (hb : ∀ (cdv : Value) (A : Around) (outer : List Env) (s : Shared) (H : Hp) (E : XK), Room k (A.deeper (PyProof.Rows.envOfC qual (defScope st) s.heap.objs.size f cdv)) →
      PSs (cxOf (L2.CX P w) P w K mg base N qual (defScope st) f cdv A outer s H E) (defBody st) (tDS ⟨K, cv, fun cls d _ H => E cls d H⟩ sb))
    (hm : ∀ gs, fm gs ≠ .no → gs.length = ps.length ∧ noOw gs = true ∧ runF N.length sb gs = fm gs) : FnOk P w K mg base (L2.CX P w) (k + 1) f fd ps (spF K cv fm) := by
  refine F.okX S (fun vs H Q E h => ?_) (fun cdv A outer s H vs Q E hr h => ⟨_, hb cdv A outer s H E hr, ?_⟩)
  · obtain ⟨off, gs, Fp, ras, nd, dom, mt⟩ := h
    rw [ras.length]
    exact (hm gs fun z => by rw [z] at mt; exact mt).1
  · obtain ⟨off, gs, Fp, ras, nd, dom, mt⟩ := h
    obtain ⟨h1, h2, h3⟩ := hm gs fun z => by rw [z] at mt; exact mt
    obtain ⟨rfl, rl⟩ := ras_noOw ras h2
    rw [← h3] at mt
    unfold runF at mt
    have hl : vs.length = gs.length := ras.length
    have R : Rep K off H H [] [] (startE N.length gs) (L2.start N vs) := by
      refine ⟨⟨[], ?_, List.nodup_nil, fun _ z => nomatch z⟩, fun a z => (dom a z).2, fun _ _ z => z, rfl, nb_start⟩
      have z := rl (offs off []) (L2.start N vs) (N.length - gs.length) rfl
      unfold L2.start startE
      rw [hl]
      simpa [L2.start, hl] using z
    refine ⟨off, H, [], [], startE N.length gs, fun _ z => (nomatch z), R, ?_⟩
    have fin : ∀ (o : Bool) (d : D) (v : V) (J : List Addr) (H' : Hp), Same H H' → RRes K (offs off []) H' o d v J → J.Nodup → (∀ a ∈ J, H a = none) → endF (sb (startE N.length gs)) = .ok o d [] → Q v H' := fun o d v J H' sm rr nJ fJ e => by
      rw [e] at mt
      exact mt H' v J [] (fun b y _ q => sm b y q) rr (rout_noOw ras h2) (by simpa using nJ) fun a ha => .inr (fJ a (by simpa using ha))
    have mono : ∀ {F : List Addr} {H' : Hp}, Go (offs off F) H' (offs off []) H' := fun a o n e => ⟨fun z => n (z.imp (fun q => q) fun z => nomatch z), e⟩
    cases e : sb (startE N.length gs) with
    | no => rw [e] at mt; exact mt
    | bk en => rw [e] at mt; exact mt.elim
    | ct en => rw [e] at mt; exact mt.elim
    | nx en =>
      intro σ H' R'
      refine fin false .non .non [] H' R'.base ?_ List.nodup_nil (fun _ z => nomatch z) (by rw [e]; rfl)
      unfold RRes
      rw [if_neg Bool.false_ne_true]
      exact ⟨rfl, by unfold RZ; rfl⟩
    | ex c en =>
      intro σ H' R'
      rw [e] at mt
      exact mt H' fun b y _ q => R'.base b y q
    | rt s en =>
      intro v σ H' R'
      obtain ⟨F, ⟨y, r, G, G', e1, rfl, r1, r2⟩, nd', fr'⟩ := R'.ex
      obtain ⟨rfl, rfl⟩ : some v = y ∧ ([] : List V).map some ++ σ = r := by simpa using e1
      have ndA := List.nodup_append.mp nd'
      cases s with
      | fz d =>
        obtain ⟨rfl, w, e2, z⟩ := r1
        cases e2
        refine fin false d v [] H' R'.base ?_ List.nodup_nil (fun _ z => nomatch z) (by rw [e]; rfl)
        unfold RRes
        rw [if_neg Bool.false_ne_true]
        exact ⟨rfl, RZ.go .refl mono _ _ z⟩
      | ow d =>
        obtain ⟨w, e2, z⟩ := r1
        cases e2
        refine fin true d v G H' R'.base ?_ ndA.1 (fun a ha => fr' a (List.mem_append_left _ ha)) (by rw [e]; rfl)
        unfold RRes
        rw [if_pos rfl]
        exact z
      | bw i =>
        have hv := R'.bwAt
        cases he : en[i]? with
        | none => rw [e] at mt; simp [endF, he] at mt
        | some t =>
          obtain ⟨x', F2, G2, Q2, e2, rs, pm, nd2, fr2, q2, _⟩ := R'.drop.slot he
          rw [hv] at e2
          cases e2
          cases t with
          | ow d =>
            obtain ⟨w, e3, z⟩ := rs
            cases e3
            refine fin true d v G2 H' R'.base ?_ (List.nodup_append.mp (pm.nodup_iff.mp nd2)).1 (fun a ha => fr2 a (pm.mem_iff.mpr (List.mem_append_left _ ha))) (by rw [e]; simp [endF, he])
            unfold RRes
            rw [if_pos rfl]
            exact z
          | so ds =>
            obtain ⟨a, ws, e3, rfl, ha, z⟩ := rs
            cases e3
            refine fin false (.lst ds) (.ref a) [] H' R'.base ?_ List.nodup_nil (fun _ z => nomatch z) (by rw [e]; simp [endF, he])
            unfold RRes
            rw [if_neg Bool.false_ne_true]
            refine ⟨rfl, ?_⟩
            unfold RZ
            refine ⟨a, ws, rfl, fun w => ?_, ha, RZs.go .refl mono _ _ z⟩
            rcases w with w | w
            · obtain ⟨o, e4⟩ := R'.out a w
              rw [fr2 a (pm.mem_iff.mpr (List.mem_append_left _ (List.mem_singleton.mpr rfl)))] at e4
              cases e4
            · exact nomatch w
          | _ => rw [e] at mt; simp [endF, he] at mt
      | _ => rw [e] at mt; exact mt.elim
end
end T
/-! T13: defs by their names. -/
namespace T
open PySem PySem.Spec L2
/-- a def of the top as it stands -/
structure Df (K : PySem.W.Frag) (mg : Str → Option Value) (x : Str) (st : Stmt) (ps : List Str) (f : Addr) (fd : FuncData) : Prop where
  F : Fun K x x st f fd
  m : mg x = some (.ref f)
  b : ∀ us : List Value, us.length = ps.length → bindArgs fd ⟨us, []⟩ = pure (ps.zip us)
def Dx (K : PySem.W.Frag) (mg : Str → Option Value) (x : Str) (st : Stmt) (ps : List Str) : Prop := ∃ f fd, Df K mg x st ps f fd
/-- a def that keeps its promise -/
def OkF (P : Program) (w : World) (K : PySem.W.Frag) (mg : Str → Option Value) (base : Heap) (k : Nat) (x : Str) (ps : List Str) (sp : Sp) : Prop :=
  ∃ f fd, mg x = some (.ref f) ∧ PySem.W.keepIn K (.ref f) = true ∧ (∀ us : List Value, us.length = ps.length → bindArgs fd ⟨us, []⟩ = pure (ps.zip us)) ∧ FnOk P w K mg base (L2.CX P w) k f fd ps sp
section
variable {P : Program} {w : World} {K : PySem.W.Frag} {mg : Str → Option Value} {base : Heap} {cv : Str → Value}
theorem ok_T {x : Str} {st : Stmt} {N ps : List Str} {k : Nat} {fm : List Ag → Fr} {sb : Sv} (D : Dx K mg x st ps) (S : FnScope N ps (defScope st))
    (hb : ∀ (f : Addr) (cdv : Value) (A : Around) (outer : List Env) (s : Shared) (H : Hp) (E : XK), Room k (A.deeper (PyProof.Rows.envOfC x (defScope st) s.heap.objs.size f cdv)) →
      PSs (cxOf (L2.CX P w) P w K mg base N x (defScope st) f cdv A outer s H E) (defBody st) (tDS ⟨K, cv, fun cls d _ H => E cls d H⟩ sb))
    (hm : ∀ gs, fm gs ≠ .no → gs.length = ps.length ∧ noOw gs = true ∧ runF N.length sb gs = fm gs) : OkF P w K mg base (k + 1) x ps (spF K cv fm) := by
  obtain ⟨f, fd, d⟩ := D
  exact ⟨f, fd, d.m, d.F.kp, d.b, fn_T d.F S (hb f) hm⟩
theorem hu200 {k : Nat} {A : Around} (hr : Room k A) : A.units + 200 < cLine := by have := hr.un; omega
end
section
variable {C : Cv} {X : Cx} {e : Expr} {es : List Expr} {pos : Pos}
theorem d_fn {k : Nat} {ps : List Str} {x : Str} {p : Pos} {md : List Md} {fm : List Ag → Fr} {fs : EvA} (O : OkF X.prog X.w X.K X.mg X.base k x ps (spF X.K C.cv fm)) (hr : Room k X.A) (hg : Gl X x) (tk : Takes X C.W) (hK : C.K = X.K)
    (ha : PA X (e :: es) (tDA C fs)) (hdb : (x == ("__debug__" : Str)) = false := by decide) (he : starEach (e :: es) X.env = (false, eval e X.env) :: starEach es X.env := by rfl) (hpl : (backTo pos (starEach es X.env)).any (·.1) = false := by rfl) :
    PE X (.Call (.Name x p) (e :: es) [] pos) (tD C (vA fs (gCall md fm))) := by
  obtain ⟨f, fd, hm, hk, hb, F⟩ := O
  exact d_call F hr hg hm hk (.all hb) tk hK ha hdb he hpl
/-- a < b < c -/
def tChain2 (fa fb fc : Ev) (g g' : Sl → Sl → En → Rs Sl) : EvT := fun en => (fa en).bind fun s e1 => (fb e1).bind fun t e2 => (g s t e2).bind fun u e3 => match vBool u with
  | some true => (fc e3).bind fun r e4 => (g' t r e4).bind fun z e5 => match vBool z with
    | some b => .ok b e5
    | none => .no
  | some false => .ok false e3
  | none => .no
end
end T
/-! T14: further rules. -/
namespace T
open PySem PySem.Spec L2
section
variable {K : PySem.W.Frag} {C : Cv} {off0 off off' : Addr → Prop} {Hb H H' : Hp} {ts : List Sl} {tv : List V} {en : En} {σ : L2.St} {X : Cx} {a b e : Expr} {es : List Expr} {pos : Pos} {f fa fb : Ev} {r : EvA}

/-! ### insert -/
def gInsert (s : Sl) (ss : List Sl) (en : En) : Rs Sl := match s, ss with
  | .bw i, [u, t] => match soAt en i, dref en u, shr1 t with
    | some ds, some (.int k), some d => if ds.length < sizeLine ∧ 0 ≤ k ∧ k < 2 ^ 63 then .ok (.fz .non) (en.set i (soMk (ds.take k.toNat ++ [d] ++ ds.drop k.toNat))) else .no
    | _, _, _ => .no
  | _, _ => .no
theorem Rep.put1m {i : Nat} {t u : Sl} {ds : List D} {d : D} {x y v : V} (R : Rep K off0 Hb H (t :: u :: .bw i :: ts) (x :: y :: v :: tv) en σ) (e1 : soAt en i = some ds) (e2 : shr1 t = some d) : ∃ a ws, v = .ref a ∧ H a = some (.lst ws) ∧ ws.length = ds.length ∧
    ∀ ds' ws', (∀ off, RZs K off H ds ws → RZ K off H d x → RZs K off H ds' ws') → Rep K off0 Hb (upd H a (.lst ws')) ts tv (en.set i (soMk ds')) σ := R.drop2.put1 e1 e2
theorem l_insert : LiftM C "list" (fun x vs H Q => ∃ (l : Addr) (xs : List V) (i : Int) (y : V), x = .ref l ∧ vs = [.int i, y] ∧ H l = some (.lst xs) ∧ xs.length < sizeLine ∧ 0 ≤ i ∧ i < 2 ^ 63 ∧
    Q .non (upd H l (.lst (xs.take i.toNat ++ [y] ++ xs.drop i.toNat)))) gInsert := by
  intro off0 Hb H ts tv en σ s ss v vs Q l R q
  unfold gInsert at q
  split at q
  · rename_i i u t
    obtain ⟨y, x, rfl⟩ := len2 l
    have R : Rep C.K off0 Hb H (t :: u :: .bw i :: ts) (x :: y :: v :: tv) en σ := R
    split at q
    · rename_i ds k d e1 e2 e3
      split at q
      · rename_i h
        have hk := R.drop.int e2
        obtain ⟨a, ws, rfl, ha, hl, fin⟩ := R.put1m e1 e3
        exact ⟨a, ws, k, x, rfl, by rw [hk], ha, by rw [hl]; exact h.1, h.2.1, h.2.2, q _ _ (fin _ _ fun off r z => ((r.take _).append (.cons z .nil)).append (r.drop _)).pushN⟩
      · exact q.elim
    · exact q.elim
  · exact q.elim

/-! ### list.count, list.index: data of any form -/
def rCountT (K : PySem.W.Frag) : V → List V → Hp → VK → Prop := fun x xs H Q => ∃ (y : V) (d : D) (ds : List D), xs = [y] ∧ RZ K (fun _ => False) H (.lst ds) x ∧ RZ K (fun _ => False) H d y ∧ nods ds = true ∧ nod d = true ∧ min (deps ds) (dep d) ≤ 150 ∧ Q (.int (ds.countP fun z => deq z d : Nat)) H
theorem countP_toPs (d : D) : ∀ ds : List D, ((toPs ds).countP fun y => PyData.eqv y (toP d)) = ds.countP fun z => deq z d
  | [] => by simp [toPs]
  | e :: ds => by
    simp only [toPs, List.countP_cons, countP_toPs d ds]
    rfl
theorem mt_countT (hu : X.A.units + 200 < cLine) : MtR X "list.count" (rCountT X.K) := by
  intro pins s σ H x xs v us Q I rx rxs h
  obtain ⟨y, d, ds, rfl, hx, hy, nd, n1, hm, q⟩ := h
  cases rxs with
  | cons ry rt =>
    rename_i uy ut
    cases rt
    have hd := dep_of n1
    have hds := deps_of nd
    have ly : PyData.canLayAll0 (toPs ds) = true := by have := RZ.lay _ _ hx (by simpa [nod] using nd); simpa [toP, PyData.canLay0] using this
    obtain ⟨bs, r1⟩ := Dp.reads I (toP d) y uy (RZ.dp _ _ hy n1) ry
    have hl := RZ.dp _ _ hx (by simpa [nod] using nd)
    unfold RZ at hx
    obtain ⟨a, vs, rfl, _, ha, rz⟩ := hx
    cases rx
    obtain ⟨its, rv, ⟨⟨cls, dd, data, sls⟩, n, ho, hc, hdn, hdt⟩, hlen⟩ := I.list (SqL.of ha)
    simp only at hc hdt
    subst hc hdt
    obtain ⟨as, h4⟩ := Dp.readsAll I (toPs ds) _ its (RZs.dp _ _ rz nd) rv
    have hmap : its.map (SeqAt.readOf s.heap) = toPs ds := SeqAt.readsAll_map (toPs ds) its as ly h4
    refine call_meets PySem.F.slot_list_count ⟨_, ho, rfl⟩ PySem.F.entry_list_count (PySem.F.args_list_count_2 _ _)
      (SeqAt.list_countAt a its.toArray n dd sls uy (fun u => PyData.eqv (SeqAt.readOf s.heap u) (toP d))) ⟨ho, SeqAt.items_eqAt (vs := its.toArray) (show ReadsAll s.heap its.toArray.toList (toPs ds) as from h4) r1 ly (RZ.lay _ _ hy n1) (by show X.A.units + 1 + _ < _; omega), ?_⟩
    have ec : its.toArray.toList.countP (fun u => PyData.eqv (SeqAt.readOf s.heap u) (toP d)) = ds.countP fun z => deq z d := by
      rw [← countP_toPs, ← hmap, List.countP_map]
      rfl
    refine ⟨.int (ds.countP fun z => deq z d : Nat), H, I.tok _, ⟨s.toks, ?_⟩, q⟩
    show Value.int ((its.toArray.toList.countP _ : Nat) : Int) s.toks = _
    rw [ec]
def gCount (s : Sl) (ss : List Sl) (en : En) : Rs Sl := match ss with
  | [t] => match dref en s, dref en t with
    | some (.lst ds), some d => if nods ds = true ∧ nod d = true ∧ min (deps ds) (dep d) ≤ 150 then .ok (.fz (.int (ds.countP fun z => deq z d : Nat))) en else .no
    | _, _ => .no
  | _ => .no
theorem l_count : LiftM C "list" (rCountT C.K) gCount := by
  intro off0 Hb H ts tv en σ s ss v vs Q l R q
  unfold gCount at q
  split at q
  · rename_i t
    obtain ⟨x, rfl⟩ := len1 l
    have R : Rep C.K off0 Hb H (t :: s :: ts) (x :: v :: tv) en σ := R
    split at q
    · rename_i ds d e1 e2
      split at q
      · rename_i h
        exact ⟨x, d, ds, rfl, R.drop.read e1, R.read e2, h.1, h.2.1, h.2.2, q _ _ R.drop.drop.pushI⟩
      · exact q.elim
    · exact q.elim
  · exact q.elim

/-! ### x[j].append(e), x[j].insert(i, e): a list within an owned tuple or list -/
/-- an item of what is owned in view -/
theorem ROs.focus : ∀ {ds : List D} {vs : List V} {F : List Addr} {j : Nat} {d : D}, ROs K H ds vs F → ds[j]? = some d → ∃ x G R, vs[j]? = some x ∧ RO K H d x G ∧ F.Perm (G ++ R) ∧ ∀ (H' : Hp) (d' : D) (G' : List Addr), RO K H' d' x G' → TStay H H' → (∀ a ∈ R, H' a = H a) → ∃ F', ROs K H' (ds.set j d') vs F' ∧ F'.Perm (G' ++ R)
  | [], vs, F, j, d, h, e => by simp at e
  | d₀ :: ds, vs, F, 0, d, h, e => by
    unfold ROs at h
    obtain ⟨v, r, G, G', rfl, rfl, h1, h2⟩ := h
    simp at e
    subst e
    refine ⟨v, G, G', rfl, h1, .refl _, fun H' d' J q t k => ⟨J ++ G', ?_, .refl _⟩⟩
    show ROs K H' (d' :: ds) (v :: r) _
    unfold ROs
    exact ⟨v, r, J, G', rfl, rfl, q, ROs.stay t _ _ _ h2 k⟩
  | d₀ :: ds, vs, F, j + 1, d, h, e => by
    unfold ROs at h
    obtain ⟨v, r, G, G', rfl, rfl, h1, h2⟩ := h
    simp at e
    obtain ⟨x, J, R, ex, hx, pm, fin⟩ := ROs.focus h2 e
    refine ⟨x, J, G ++ R, by simpa using ex, hx, ?_, fun H' d' J' q t k => ?_⟩
    · exact ((pm.append_left G).trans (by rw [← List.append_assoc, ← List.append_assoc]; exact (List.perm_append_comm (l₁ := G) (l₂ := J)).append_right R))
    · obtain ⟨F', q', pm'⟩ := fin H' d' J' q t fun a ha => k a (List.mem_append_right _ ha)
      refine ⟨G ++ F', ?_, (pm'.append_left G).trans (by rw [← List.append_assoc, ← List.append_assoc]; exact (List.perm_append_comm (l₁ := G) (l₂ := J')).append_right R)⟩
      show ROs K H' (d₀ :: ds.set j d') (v :: r) _
      unfold ROs
      exact ⟨v, r, G, F', rfl, rfl, RO.stay t _ _ _ h1 fun a ha => k a (List.mem_append_left _ ha), q'⟩
/-- a flat list at place j of an owned tuple, rewritten -/
theorem Rep.alterAt {k j : Nat} {ds : List D} {es : List D} (R : Rep K off0 Hb H ts tv en σ) (e : en[k]? = some (.ow (.tup ds))) (ej : ds[j]? = some (.lst es)) (fl : flats es = true) : ∃ a vs b ws, σ[k]? = some (some (.ref a)) ∧ TupAt K H a vs ∧ vs[j]? = some (.ref b) ∧ H b = some (.lst ws) ∧ RZs K (fun _ => False) H es ws ∧
    ∀ H1, Same H H1 → ∀ es' ws', flats es' = true → RZs K (fun _ => False) H1 es' ws' → Rep K off0 Hb (upd H1 b (.lst ws')) ts tv (en.set k (.ow (.tup (ds.set j (.lst es'))))) σ := by
  obtain ⟨x, F, G, Q, e1, ⟨v, rfl, ro⟩, pm, nd, fr, q, fin⟩ := R.slotK e
  have nd2 := List.nodup_append.mp (pm.nodup_iff.mp nd)
  unfold RO at ro
  obtain ⟨a, vs, rfl, ha, rs⟩ := ro
  obtain ⟨y, J, S, ey, hy, pm2, fin2⟩ := rs.focus ej
  unfold RO at hy
  obtain ⟨b, ws, J1, rfl, rfl, hb, rw_⟩ := hy
  have z := ROs.nilF _ _ _ rw_ fl
  subst z
  have ndJ := pm2.nodup_iff.mp nd2.1
  have bS : b ∉ S := (List.nodup_cons.mp ndJ).1
  refine ⟨a, vs, b, ws, e1, ha, ey, hb, ROs.share _ _ _ rw_ fun _ z => (nomatch z), fun H1 sm es' ws' f' r' => ?_⟩
  have hb1 : H1 b = some (.lst ws) := sm _ _ hb
  have tst : TStay H (upd H1 b (.lst ws')) := fun c xs h => tstay_lst hb1 c xs (sm _ _ h)
  have ro' : RO K (upd H1 b (.lst ws')) (.lst es') (.ref b) [b] := by
    unfold RO
    exact ⟨b, ws', [], rfl, rfl, upd_same, ROs.stay (tstay_lst hb1) _ _ _ (RZs.own0 _ _ r' f') fun _ z => nomatch z⟩
  have thr : ∀ c ∈ S, ∃ o, H c = some o := fun c hc => q.there c (pm.mem_iff.mpr (List.mem_append_left _ (pm2.mem_iff.mpr (List.mem_append_right _ hc))))
  obtain ⟨G', q', pm3⟩ := fin2 _ _ _ ro' tst fun c hc => by
    obtain ⟨o, ho⟩ := thr c hc
    rw [upd_ne fun z => bS (by rw [← z]; exact hc), ho]
    exact sm _ _ ho
  have pm4 : G'.Perm G := pm3.trans pm2.symm
  refine fin _ (.ow (.tup (ds.set j (.lst es')))) G' rfl ⟨.ref a, rfl, ?_⟩ tst (fun c hc => pm4.mem_iff.mp hc) (pm4.nodup_iff.mpr nd2.1) fun c o hc h => ?_
  · unfold RO
    exact ⟨a, vs, rfl, ha.stay tst, q'⟩
  · rw [upd_ne fun z => hc (by rw [z]; exact pm2.mem_iff.mpr (List.mem_append_left _ (List.mem_singleton.mpr rfl)))]
    exact sm _ _ h
/-- the list at place j of a name's tuple -/
def atList (en : En) (k j : Nat) : Option (List D × List D) := match en[k]? with
  | some (.ow (.tup ds)) => match ds[j]? with
    | some (.lst es) => if flats es then some (ds, es) else none
    | _ => none
  | _ => none
theorem atList_inv {k j : Nat} {ds es : List D} (h : atList en k j = some (ds, es)) : en[k]? = some (.ow (.tup ds)) ∧ ds[j]? = some (.lst es) ∧ flats es = true := by
  unfold atList at h
  split at h
  · rename_i ds' e1
    split at h
    · rename_i es' e2
      split at h
      · rename_i f
        cases h
        exact ⟨e1, e2, f⟩
      · cases h
    · cases h
  · cases h
/-- a value that hangs on no name -/
def tK (C : Cv) (d : D) : TE := fun σ H Q => ∀ H' v, Same H H' → RZ C.K (fun _ => False) H' d v → Q v H'
theorem rl_none : ∀ {σ' : L2.St}, RL K off H σ (List.replicate σ'.length .none) σ' []
  | [] => ⟨rfl, rfl⟩
  | x :: σ' => by
    rw [List.length_cons, List.replicate_succ]
    exact ⟨x, σ', [], [], rfl, rfl, rfl, rl_none⟩
theorem d_k {d : D} (h : PE X e (tD C f)) (c : ∀ n, f (List.replicate n .none) = .ok (.fz d) (List.replicate n .none)) : PE X e (tK C d) := by
  refine PEimp h ?_
  intro σ H Q q
  refine ⟨fun _ => False, H, [], [], List.replicate σ.length .none, ⟨⟨[], rl_none, List.nodup_nil, fun _ z => nomatch z⟩, fun _ z => z.elim, fun _ _ z => z, rfl, fun s hs => by rw [(List.mem_replicate.mp hs).2]; rfl⟩, ?_⟩
  rw [c]
  exact fun H' v R => q H' v R.base (R.read rfl)
def vAppAt (k j : Nat) (d : D) : Ev := fun en => match atList en k j with
  | some (ds, es) => if flat d = true ∧ es.length < sizeLine then .ok (.fz .non) (en.set k (.ow (.tup (ds.set j (.lst (es ++ [d])))))) else .no
  | none => .no
theorem d_appAt {k j : Nat} {x : Str} {p1 spos apos : Pos} {d : D} (hx : PE X (.Name x p1) (tVar k)) {ix : Expr} (hi : PE X ix (tC (.int j))) (he : PE X e (tK C d)) (hK : C.K = X.K) {cpos : Pos}
    (hpi : PlainIx ix := by exact fun _ _ => rfl)
    (hbase : attributeBase (.Subscript (.Name x p1) ix spos) "append" X.env (eval (.Subscript (.Name x p1) ix spos) X.env) = eval (.Subscript (.Name x p1) ix spos) X.env := by rfl)
    (hfew : ((backTo cpos (starEach [e] X.env)).all (fun x => !x.1) && (backToKw cpos (keywordEach [] X.env)).all (fun x => x.1.isSome)
      && decide ([e].length + ([] : List Keyword).length + (if ([] : List Keyword).isEmpty then 0 else 1) < 30)) = true := by rfl)
    (hline : (apos.endLine == cpos.line) = true := by rfl) (hs : starEach [e] X.env = (false, eval e X.env) :: starEach [] X.env := by rfl) (hplain : (backTo cpos (starEach [] X.env)).any (·.1) = false := by rfl) :
    PE X (.Call (.Attribute (.Subscript (.Name x p1) ix spos) "append" apos) [e] [] cpos) (tD C (vAppAt k j d)) := by
  refine PEimp (pe_bm PySem.F.plainAttrs_list PySem.F.slot_list_append PySem.F.type_list_append mt_append (pe_ix ix_seq hx hi hpi) (pa_cons he pa_nil hs) hbase hfew hline hs hplain) ?_
  rintro σ H Q ⟨off0, Hb, ts, tv, en, R, q⟩
  unfold vAppAt at q
  split at q
  · rename_i ds es e1
    split at q
    · rename_i hz
      obtain ⟨h1, h2, h3⟩ := atList_inv e1
      obtain ⟨a, vs, b, ws, ea, ta, vb, hb, rz, fin⟩ := R.alterAt h1 h2 h3
      refine ⟨.ref a, ea, .inr (.inl ⟨a, vs, j, .ref b, rfl, rfl, by rw [← hK]; exact ta.sq, atI_nat vb, .inl ⟨rfl, ws, .of hb⟩, ?_⟩)⟩
      intro H2 y sm ry
      have go : Go (fun _ => False) H (fun _ => False) H2 := fun c o n e => ⟨n, sm _ _ e⟩
      have rz2 : RZs C.K (fun _ => False) H2 es ws := RZs.go (sameT sm) go _ _ rz
      exact ⟨b, ws, y, rfl, rfl, sm _ _ hb, by rw [rz.length]; exact hz.2, q _ _ (fin H2 sm _ _ (by rw [flats_app, h3]; simp [flats, hz.1]) (rz2.append (.cons ry .nil))).pushN⟩
    · exact q.elim
  · exact q.elim
def vInsAt (k j : Nat) (i : Int) (d : D) : Ev := fun en => match atList en k j with
  | some (ds, es) => if flat d = true ∧ es.length < sizeLine ∧ 0 ≤ i ∧ i < 2 ^ 63 then .ok (.fz .non) (en.set k (.ow (.tup (ds.set j (.lst (es.take i.toNat ++ [d] ++ es.drop i.toNat)))))) else .no
  | none => .no
theorem d_insAt {k j : Nat} {i : Int} {x : Str} {p1 spos apos : Pos} {d : D} (hx : PE X (.Name x p1) (tVar k)) {ix ie : Expr} (hi : PE X ix (tC (.int j))) (hie : PE X ie (tC (.int i))) (he : PE X e (tK C d)) (hK : C.K = X.K) {cpos : Pos}
    (hpi : PlainIx ix := by exact fun _ _ => rfl)
    (hbase : attributeBase (.Subscript (.Name x p1) ix spos) "insert" X.env (eval (.Subscript (.Name x p1) ix spos) X.env) = eval (.Subscript (.Name x p1) ix spos) X.env := by rfl)
    (hfew : ((backTo cpos (starEach [ie, e] X.env)).all (fun x => !x.1) && (backToKw cpos (keywordEach [] X.env)).all (fun x => x.1.isSome)
      && decide ([ie, e].length + ([] : List Keyword).length + (if ([] : List Keyword).isEmpty then 0 else 1) < 30)) = true := by rfl)
    (hline : (apos.endLine == cpos.line) = true := by rfl) (hs : starEach [ie, e] X.env = (false, eval ie X.env) :: starEach [e] X.env := by rfl) (hs2 : starEach [e] X.env = (false, eval e X.env) :: starEach [] X.env := by rfl) (hplain : (backTo cpos (starEach [e] X.env)).any (·.1) = false := by rfl) :
    PE X (.Call (.Attribute (.Subscript (.Name x p1) ix spos) "insert" apos) [ie, e] [] cpos) (tD C (vInsAt k j i d)) := by
  refine PEimp (pe_bm PySem.F.plainAttrs_list PySem.F.slot_list_insert PySem.F.type_list_insert mt_insert (pe_ix ix_seq hx hi hpi) (pa_cons hie (pa_cons he pa_nil hs2) hs) hbase hfew hline hs hplain) ?_
  rintro σ H Q ⟨off0, Hb, ts, tv, en, R, q⟩
  unfold vInsAt at q
  split at q
  · rename_i ds es e1
    split at q
    · rename_i hz
      obtain ⟨h1, h2, h3⟩ := atList_inv e1
      obtain ⟨a, vs, b, ws, ea, ta, vb, hb, rz, fin⟩ := R.alterAt h1 h2 h3
      refine ⟨.ref a, ea, .inr (.inl ⟨a, vs, j, .ref b, rfl, rfl, by rw [← hK]; exact ta.sq, atI_nat vb, .inl ⟨rfl, ws, .of hb⟩, ?_⟩)⟩
      intro H2 y sm ry
      have go : Go (fun _ => False) H (fun _ => False) H2 := fun c o n e => ⟨n, sm _ _ e⟩
      have rz2 : RZs C.K (fun _ => False) H2 es ws := RZs.go (sameT sm) go _ _ rz
      exact ⟨b, ws, i, y, rfl, rfl, sm _ _ hb, by rw [rz.length]; exact hz.2.1, hz.2.2.1, hz.2.2.2, q _ _ (fin H2 sm _ _ (by rw [flats_app, flats_app, flats_take _ h3, flats_drop _ h3]; simp [flats, hz.1]) (((rz2.take _).append (.cons ry .nil)).append (rz2.drop _))).pushN⟩
    · exact q.elim
  · exact q.elim

/-! ### a < b < c, of ints -/
def tCh (fa fb fc : Ev) (g g' : Sl → Sl → En → Rs Sl) : EvT := fun en => (fa en).bind fun s e1 => (fb e1).bind fun t e2 => match dref e2 t with
  | some (.int j) => (g s t e2).bind fun u e3 => match vBool u with
    | some true => (fc e3).bind fun r e4 => (g' (.fz (.int j)) r e4).bind fun z e5 => match vBool z with
      | some b => .ok b e5
      | none => .no
    | some false => .ok false e3
    | none => .no
  | _ => .no
theorem dt_chain {op op' : CmpOp} {r r' : R2} {g g' : Sl → Sl → En → Rs Sl} {c : Expr} {fc : Ev} (ho : OpR X (compareOp op) r) (L : Lift2 C r g) (ho' : OpR X (compareOp op') r') (L' : Lift2 C r' g') (ha : PE X a (tD C fa)) (hb : PE X b (tD C fb)) (hc : PE X c (tD C fc))
    (hm : lastMarks [op, op'] [b, c] = false := by with_unfolding_all rfl) : PT X (.Compare a [op, op'] [b, c] pos) (tDT C (tCh fa fb fc g g')) := by
  refine PTimp (pt_chain ho ho' ha hb hc hm) ?_
  rintro σ H Q ⟨off0, Hb, ts, tv, en, R, q⟩
  show tD C fa σ H _
  unfold tCh at q
  refine tD.stepT R q fun s e1 H1 x _ R1 q1 => ⟨off0, Hb, s :: ts, x :: tv, e1, R1, Post.underT q1 fun t e2 H2 y _ R2 q2 => ?_⟩
  split at q2
  · rename_i j ej
    have hy := R2.int ej
    refine L off0 Hb H2 ts tv e2 σ s t x y _ R2 ?_
    cases h1 : g s t e2 with
    | no => rw [h1] at q2; exact q2
    | ex c' e3 => rw [h1] at q2; exact q2
    | ok u e3 =>
      rw [h1] at q2
      intro H3 z R3
      dsimp only [Rs.bind_ok] at q2
      cases h2 : vBool u with
      | none => rw [h2] at q2; exact q2.elim
      | some k =>
        rw [h2] at q2
        refine ⟨k, vBool_read R3 h2, ?_⟩
        cases k with
        | false => rw [if_neg Bool.false_ne_true]; exact ⟨false, rfl, q2 H3 R3.drop⟩
        | true =>
          rw [if_pos rfl]
          refine tD.stepT R3.drop q2 fun r4 e4 H4 w' _ R4 q4 => ?_
          have R5 : Rep C.K off0 Hb H4 (r4 :: .fz (.int j) :: ts) (w' :: y :: tv) e4 σ := by
            rw [hy]
            exact (Rep.sink (hs := [r4]) (hv := [w']) (Rep.pushI R4) rfl)
          refine L' off0 Hb H4 ts tv e4 σ (.fz (.int j)) r4 y w' _ R5 ?_
          cases h3 : g' (.fz (.int j)) r4 e4 with
          | no => rw [h3] at q4; exact q4
          | ex c' e5 => rw [h3] at q4; exact q4
          | ok z' e5 =>
            rw [h3] at q4
            intro H5 v' R6
            dsimp only [Rs.bind_ok] at q4
            cases h4 : vBool z' with
            | none => rw [h4] at q4; exact q4.elim
            | some b' =>
              rw [h4] at q4
              exact ⟨b', vBool_read R6 h4, q4 H5 R6.drop⟩
  · exact q2.elim
end
end T
/-! T15: a def's reading from its body. -/
namespace T
open PySem PySem.Spec L2
def FU : Nat := 4294967296
theorem FU_eq : FU = 4294967296 := rfl
def fmOf (m n : Nat) (sb : Sv) (gs : List Ag) : Fr := if gs.length = m ∧ noOw gs = true then runF n sb gs else .no
theorem fmOf_hm {m n : Nat} {sb : Sv} : ∀ gs, fmOf m n sb gs ≠ .no → gs.length = m ∧ noOw gs = true ∧ runF n sb gs = fmOf m n sb gs := by
  intro gs h
  unfold fmOf at h ⊢
  split at h
  · rename_i q
    exact ⟨q.1, q.2, by rw [if_pos q]⟩
  · exact absurd rfl h
section
variable {P : Program} {w : World} {K : PySem.W.Frag} {mg : Str → Option Value} {base : Heap} {cv : Str → Value}
/-- the law's own def, as it stands -/
theorem okd_T {x : Str} {st : Stmt} {N ps : List Str} {k : Nat} {fm : List Ag → Fr} {sb : Sv} {f : Addr} {fd : FuncData} (D : Df K mg x st ps f fd) (S : FnScope N ps (defScope st))
    (hb : ∀ (f : Addr) (cdv : Value) (A : Around) (outer : List Env) (s : Shared) (H : Hp) (E : XK), Room k (A.deeper (PyProof.Rows.envOfC x (defScope st) s.heap.objs.size f cdv)) →
      PSs (cxOf (L2.CX P w) P w K mg base N x (defScope st) f cdv A outer s H E) (defBody st) (tDS ⟨K, cv, fun cls d _ H => E cls d H⟩ sb))
    (hm : ∀ gs, fm gs ≠ .no → gs.length = ps.length ∧ noOw gs = true ∧ runF N.length sb gs = fm gs) : FnOk P w K mg base (L2.CX P w) (k + 1) f fd ps (spF K cv fm) :=
  fn_T D.F S (hb f) hm
/-- the law on its script -/
theorem law_sp {fm : List Ag → Fr} (h : ∀ ns, fm [.rd ns] = .ok false (.bl true) []) {H : Hp} {a : Addr} {ns : List Int} (hS : SqL K H a (ns.map V.int)) : spF K cv fm [.ref a] H (fun v _ => v = .bl true) fun _ _ _ => False := by
  refine ⟨fun _ => False, [.rd ns], [], ⟨.ref a, [], [], [], rfl, rfl, ⟨rfl, a, rfl, RdAt.of hS⟩, rfl, rfl⟩, List.nodup_nil, fun _ z => z.elim, ?_⟩
  rw [h]
  intro H' v J Fo _ r _ _ _
  unfold RRes at r
  rw [if_neg Bool.false_ne_true] at r
  have r := r.2
  unfold RZ at r
  exact r
end
end T
/-! T16: running the readings on data. -/
namespace T
open PySem PySem.Spec L2
/-! ### folds: what is looked at first, alone -/
section
variable {α β γ : Type}
def seqK (o : Out) (b : Sv) : Out := match o with | .nx e => b e | .rt s e => .rt s e | .bk e => .bk e | .ct e => .ct e | .ex c e => .ex c e | .no => .no
def outK (r : Rs α) (h : α → En → Out) : Out := match r with | .ok a e => h a e | .ex c e => .ex c e | .no => .no
def o1 (x : Option α) (h : α → Rs β) : Rs β := match x with | some a => h a | none => .no
def o2 (x y : Option D) (h : D → D → Rs β) : Rs β := match x, y with | some a, some b => h a b | _, _ => .no
def oO (x : Option α) (h : α → Out) : Out := match x with | some a => h a | none => .no
def oN (x : Option α) (n : β) (h : α → β) : β := match x with | some a => h a | none => n
variable {en : En} {b : Sv} {s : Sl} {c : Str}
@[simp] theorem seqK_nx : seqK (.nx en) b = b en := id rfl
@[simp] theorem seqK_rt : seqK (.rt s en) b = .rt s en := id rfl
@[simp] theorem seqK_bk : seqK (.bk en) b = .bk en := id rfl
@[simp] theorem seqK_ct : seqK (.ct en) b = .ct en := id rfl
@[simp] theorem seqK_ex : seqK (.ex c en) b = .ex c en := id rfl
@[simp] theorem outK_ok {a : α} {h : α → En → Out} : outK (.ok a en) h = h a en := id rfl
@[simp] theorem outK_ex {h : α → En → Out} : outK (.ex c en) h = .ex c en := id rfl
@[simp] theorem outK_no {h : α → En → Out} : outK .no h = .no := id rfl
@[simp] theorem rsb_ok {x : α} {h : α → En → Rs β} : (Rs.ok x en).bind h = h x en := id rfl
@[simp] theorem rsb_ex {h : α → En → Rs β} : (Rs.ex c en : Rs α).bind h = .ex c en := id rfl
@[simp] theorem rsb_no {h : α → En → Rs β} : (Rs.no : Rs α).bind h = .no := id rfl
@[simp] theorem o1_some {a : α} {h : α → Rs β} : o1 (some a) h = h a := id rfl
@[simp] theorem o1_none {h : α → Rs β} : o1 none h = .no := id rfl
@[simp] theorem o2_some {x y : D} {h : D → D → Rs β} : o2 (some x) (some y) h = h x y := id rfl
@[simp] theorem oO_some {a : α} {h : α → Out} : oO (some a) h = h a := id rfl
@[simp] theorem oO_none {h : α → Out} : oO none h = .no := id rfl
@[simp] theorem oN_some {a : α} {n : β} {h : α → β} : oN (some a) n h = h a := id rfl
@[simp] theorem oN_none {n : β} {h : α → β} : oN none n h = n := id rfl
theorem rsb_if {p : Prop} [Decidable p] {x y : Rs α} {h : α → En → Rs β} : (if p then x else y).bind h = if p then x.bind h else y.bind h := by split <;> rfl
theorem seqK_if {p : Prop} [Decidable p] {x y : Out} : seqK (if p then x else y) b = if p then seqK x b else seqK y b := by split <;> rfl
theorem outK_if {p : Prop} [Decidable p] {x y : Rs α} {h : α → En → Out} : outK (if p then x else y) h = if p then outK x h else outK y h := by split <;> rfl
end
/-! ### conditions, kept whole -/
noncomputable def tst (p : Prop) : Bool := @decide p (Classical.propDecidable p)
theorem tst_of {p : Prop} (h : p) : tst p = true := @decide_eq_true p (Classical.propDecidable p) h
theorem of_tst {p : Prop} (h : tst p = true) : p := @of_decide_eq_true p (Classical.propDecidable p) h
theorem if_tst {γ : Type} {p : Prop} [Decidable p] {x y : γ} : (if p then x else y) = if tst p then x else y := by
  by_cases z : p
  · rw [if_pos z, if_pos (tst_of z)]
  · rw [if_neg z, if_neg fun q => z (of_tst q)]
noncomputable def kMod (j : Int) : Bool := tst (decide (0 < j) = true)
noncomputable def kDiv (i j : Int) : Bool := tst (cDiv i j = true)
noncomputable def kMul (i j : Int) : Bool := tst (cMul i j = true)
noncomputable def kPow (i j : Int) : Bool := tst (cPow i j = true)
noncomputable def inR (j : Int) : Bool := tst (-(2 ^ 62) ≤ j ∧ j < 2 ^ 62)
noncomputable def inR2 (i j : Int) : Bool := tst (-(2 ^ 62) ≤ i ∧ i < 2 ^ 62 ∧ -(2 ^ 62) ≤ j ∧ j < 2 ^ 62)
noncomputable def kRep (n : Nat) (k : Int) : Bool := tst (-(2 ^ 63) ≤ k ∧ k < 2 ^ 63 ∧ n * k.toNat ≤ sizeLine)
noncomputable def inZ (n : Nat) : Bool := tst (n ≤ sizeLine)
noncomputable def inZl (n : Nat) : Bool := tst (n < sizeLine)
noncomputable def inZ3 (n : Nat) (p q : Bool) : Bool := tst (n ≤ sizeLine ∧ p = true ∧ q = true)
noncomputable def kCmp (d e : D) : Bool := tst (nod d = true ∧ nod e = true ∧ min (dep d) (dep e) ≤ 150)
noncomputable def kIns (n : Nat) (k : Int) : Bool := tst (n < sizeLine ∧ 0 ≤ k ∧ k < 2 ^ 63)
@[simp] theorem kMod_of {j : Int} (h : 0 < j) : kMod j = true := tst_of (by simp [h])
@[simp] theorem kDiv_of {i j : Int} (h : 0 < j) (h2 : j < 1073741824) : kDiv i j = true := tst_of (by simp [cDiv, h, h2])
@[simp] theorem kMul_r {i j : Int} (h : -18446744073709551616 < j) (h2 : j < 18446744073709551616) : kMul i j = true := tst_of (by
  unfold cMul
  rw [decide_eq_true_iff]
  exact .inr ⟨h, h2⟩)
@[simp] theorem kMul_l {i j : Int} (h : -18446744073709551616 < i) (h2 : i < 18446744073709551616) : kMul i j = true := tst_of (by
  unfold cMul
  rw [decide_eq_true_iff]
  exact .inl ⟨h, h2⟩)
@[simp] theorem kPow_of {i j : Int} (h : 0 ≤ j) (h2 : j ≤ 1000000) (h3 : i.natAbs < 18446744073709551616) : kPow i j = true := tst_of (by
  unfold cPow
  rw [decide_eq_true_iff]
  exact ⟨h, h2, h3⟩)
@[simp] theorem inR_of {j : Int} (h : -4611686018427387904 ≤ j) (h2 : j < 4611686018427387904) : inR j = true := tst_of ⟨h, h2⟩
@[simp] theorem inR2_of {i j : Int} (h : -4611686018427387904 ≤ i) (h2 : i < 4611686018427387904) (h3 : -4611686018427387904 ≤ j) (h4 : j < 4611686018427387904) : inR2 i j = true := tst_of ⟨h, h2, h3, h4⟩
@[simp] theorem inZ_of {n : Nat} (h : n ≤ 16777216) : inZ n = true := tst_of h
@[simp] theorem inZl_of {n : Nat} (h : n < 16777216) : inZl n = true := tst_of h
@[simp] theorem inZ3_of {n : Nat} {p q : Bool} (h : n ≤ 16777216) (h2 : p = true) (h3 : q = true) : inZ3 n p q = true := tst_of ⟨h, h2, h3⟩
@[simp] theorem kCmp_of {d e : D} (h : nod d = true) (h2 : nod e = true) (h3 : min (dep d) (dep e) ≤ 150) : kCmp d e = true := tst_of ⟨h, h2, h3⟩
theorem kRep_of {n : Nat} {k : Int} (h : 0 ≤ k) (h2 : k ≤ 16777216) (h3 : n * k.toNat ≤ 16777216) : kRep n k = true := tst_of ⟨by omega, by omega, h3⟩
theorem kIns_of {n : Nat} {k : Int} (h : n < 16777216) (h1 : 0 ≤ k) (h2 : k ≤ 16777216) : kIns n k = true := tst_of ⟨h, h1, by omega⟩
/-! ### each step -/
section
variable {α β : Type} {en : En} {i j k n m : Nat} {d e : D} {s t : Sl} {f g fa fb : Ev} {u v : EvT} {a b : Sv} {x y : Int} {xs ys : List D}
@[simp] theorem x_seq : sSeq a b en = seqK (a en) b := id rfl
@[simp] theorem x_nil : sNil en = .nx en := id rfl
@[simp] theorem x_pass : sPass en = .nx en := id rfl
@[simp] theorem x_break : sBreak en = .bk en := id rfl
@[simp] theorem x_cont : sCont en = .ct en := id rfl
@[simp] theorem x_expr : sExpr f en = outK (f en) fun _ e => .nx e := by
  unfold sExpr vS outK
  cases f en <;> rfl
@[simp] theorem x_ret : sRet f en = outK (f en) fun s e => .rt s e := by
  unfold sRet vS outK
  cases f en <;> rfl
@[simp] theorem x_retN : sRetN en = .rt (.fz .non) en := id rfl
@[simp] theorem x_if : sIf u a b en = outK (u en) fun c e => if c then a e else b e := by
  unfold sIf outK
  cases u en <;> rfl
@[simp] theorem x_asg : sAsg i f en = outK (f en) fun s e => setS i s e := by
  unfold sAsg vS outK
  cases f en <;> rfl
@[simp] theorem x_setS : setS i s en = oO en[i]? fun _ => oO (stS s) fun s' => .nx (en.set i s') := by
  unfold setS oO
  cases en[i]? <;> cases stS s <;> rfl
@[simp] theorem x_stS_fz : stS (.fz d) = some (.fz d) := id rfl
@[simp] theorem x_stS_ow : stS (.ow d) = some (.ow d) := id rfl
@[simp] theorem x_stS_rd {ns : List Int} : stS (.rd ns) = some (.rd ns) := id rfl
@[simp] theorem x_v2 {h : Sl → Sl → En → Rs Sl} : v2 fa fb h en = (fa en).bind fun s e1 => (fb e1).bind fun t e2 => h s t e2 := id rfl
@[simp] theorem x_v1 {h : Sl → En → Rs Sl} : v1 fa h en = (fa en).bind fun s e1 => h s e1 := id rfl
def nmS (i : Nat) (en : En) : Sl → Rs Sl
  | .fz d => .ok (.fz d) en
  | .rd ns => .ok (.rd ns) en
  | .ow _ => .ok (.bw i) en
  | .so _ => .ok (.bw i) en
  | _ => .no
@[simp] theorem x_nmF : nmS i en (.fz d) = .ok (.fz d) en := id rfl
@[simp] theorem x_nmR {ns : List Int} : nmS i en (.rd ns) = .ok (.rd ns) en := id rfl
@[simp] theorem x_nmO : nmS i en (.ow d) = .ok (.bw i) en := id rfl
@[simp] theorem x_nmS : nmS i en (.so xs) = .ok (.bw i) en := id rfl
@[simp] theorem x_name : vName i en = o1 en[i]? (nmS i en) := by
  unfold vName o1
  cases en[i]? with
  | none => rfl
  | some s => cases s <;> rfl
def frzS (i : Nat) (en : En) : Sl → Rs Sl
  | .ow d => .ok (.fz d) (en.set i (.fz d))
  | .so ds => .ok (.fz (.lst ds)) (en.set i (.fz (.lst ds)))
  | .fz d => .ok (.fz d) en
  | .rd ns => .ok (.rd ns) en
  | _ => .no
@[simp] theorem x_frF : frzS i en (.fz d) = .ok (.fz d) en := id rfl
@[simp] theorem x_frR {ns : List Int} : frzS i en (.rd ns) = .ok (.rd ns) en := id rfl
@[simp] theorem x_frO : frzS i en (.ow d) = .ok (.fz d) (en.set i (.fz d)) := id rfl
@[simp] theorem x_frS : frzS i en (.so xs) = .ok (.fz (.lst xs)) (en.set i (.fz (.lst xs))) := id rfl
@[simp] theorem x_frz : vFrz i en = o1 en[i]? (frzS i en) := by
  unfold vFrz o1
  cases en[i]? with
  | none => rfl
  | some s => cases s <;> rfl
def movS (i : Nat) (en : En) : Sl → Rs Sl
  | .ow d => .ok (.ow d) (en.set i .none)
  | .fz d => .ok (.fz d) en
  | .rd ns => .ok (.rd ns) en
  | _ => .no
@[simp] theorem x_mvF : movS i en (.fz d) = .ok (.fz d) en := id rfl
@[simp] theorem x_mvR {ns : List Int} : movS i en (.rd ns) = .ok (.rd ns) en := id rfl
@[simp] theorem x_mvO : movS i en (.ow d) = .ok (.ow d) (en.set i .none) := id rfl
@[simp] theorem x_move : vMove i en = o1 en[i]? (movS i en) := by
  unfold vMove o1
  cases en[i]? with
  | none => rfl
  | some s => cases s <;> rfl
@[simp] theorem x_C : vC d en = .ok (.fz d) en := id rfl
@[simp] theorem x_aNil : aNil en = .ok [] en := id rfl
@[simp] theorem x_aCons {r : EvA} : aCons f r en = (f en).bind fun s e => (r e).bind fun ss e2 => .ok (s :: ss) e2 := id rfl
@[simp] theorem x_vA {r : EvA} {h : List Sl → En → Rs Sl} : vA r h en = (r en).bind fun ss e1 => h ss e1 := id rfl
@[simp] theorem x_g1 {h : Sl → En → Rs Sl} : g1 h [s] en = h s en := id rfl
@[simp] theorem x_g2 {h : Sl → Sl → En → Rs Sl} : g2 h [s, t] en = h s t en := id rfl
def shrS (en : En) : Sl → Rs Sl
  | .ow d => .ok (.fz d) en
  | s => .ok s en
@[simp] theorem x_shO : shrS en (.ow d) = .ok (.fz d) en := id rfl
@[simp] theorem x_shF : shrS en (.fz d) = .ok (.fz d) en := id rfl
@[simp] theorem x_shR {ns : List Int} : shrS en (.rd ns) = .ok (.rd ns) en := id rfl
@[simp] theorem x_shr : vShr f en = (f en).bind fun s e => shrS e s := by
  unfold vShr v1
  cases f en with
  | ok s e => cases s <;> rfl
  | _ => rfl
def bolS (en : En) : Sl → Rs Bool
  | .fz (.bl b) => .ok b en
  | _ => .no
@[simp] theorem x_boF {b : Bool} : bolS en (.fz (.bl b)) = .ok b en := id rfl
@[simp] theorem x_t1 : t1 f en = (f en).bind fun s e1 => bolS e1 s := by
  unfold t1
  cases f en with
  | ok s e => cases s with
    | fz d => cases d <;> rfl
    | _ => rfl
  | _ => rfl
@[simp] theorem x_and {v : EvT} : tAnd2 u v en = (u en).bind fun b e => if b then v e else .ok false e := id rfl
@[simp] theorem x_or {v : EvT} : tOr2 u v en = (u en).bind fun b e => if b then .ok true e else v e := id rfl
@[simp] theorem x_not : tNot1 u en = (u en).bind fun b e => .ok (!b) e := id rfl
@[simp] theorem x_vand : vAnd2 f g en = (f en).bind fun s e => o1 (vBool s) fun b => if b then g e else .ok (.fz (.bl false)) e := by
  unfold vAnd2 o1
  cases f en with
  | ok s e =>
    simp only [rsb_ok]
    cases vBool s with
    | none => rfl
    | some b => cases b <;> rfl
  | _ => rfl
@[simp] theorem x_vor : vOr2 f g en = (f en).bind fun s e => o1 (vBool s) fun b => if b then .ok (.fz (.bl true)) e else g e := by
  unfold vOr2 o1
  cases f en with
  | ok s e =>
    simp only [rsb_ok]
    cases vBool s with
    | none => rfl
    | some b => cases b <;> rfl
  | _ => rfl
@[simp] theorem x_vnot : vNot1 f en = (f en).bind fun s e => o1 (vBool s) fun b => .ok (.fz (.bl (!b))) e := by
  unfold vNot1 o1
  cases f en with
  | ok s e =>
    simp only [rsb_ok]
    cases vBool s <;> rfl
  | _ => rfl
@[simp] theorem x_bool {b : Bool} : vBool (.fz (.bl b)) = some b := id rfl
@[simp] theorem x_vif : vIf u f g en = (u en).bind fun b e => if b then f e else g e := id rfl
@[simp] theorem x_dref_fz : dref en (.fz d) = some d := id rfl
@[simp] theorem x_dref_ow : dref en (.ow d) = some d := id rfl
def bwS : Sl → Option D
  | .ow d => some d
  | .so ds => some (.lst ds)
  | _ => none
@[simp] theorem x_bwO : bwS (.ow d) = some d := id rfl
@[simp] theorem x_bwS : bwS (.so xs) = some (.lst xs) := id rfl
@[simp] theorem x_dref_bw : dref en (.bw i) = oN en[i]? none bwS := by
  show (match en[i]? with
    | some (.ow d) => some d
    | some (.so ds) => some (.lst ds)
    | _ => none) = _
  unfold oN
  cases en[i]? with
  | none => rfl
  | some s => cases s <;> rfl
/-- two ints -/
def ii (h : Int → Int → D) (en : En) : D → D → Rs Sl
  | .int i, .int j => .ok (.fz (h i j)) en
  | _, _ => .no
def iiC (c : Int → Int → Bool) (h : Int → Int → D) (en : En) : D → D → Rs Sl
  | .int i, .int j => if c i j then .ok (.fz (h i j)) en else .no
  | _, _ => .no
@[simp] theorem x_iiI {h : Int → Int → D} : ii h en (.int x) (.int y) = .ok (.fz (h x y)) en := id rfl
@[simp] theorem x_iiC {c : Int → Int → Bool} {h : Int → Int → D} : iiC c h en (.int x) (.int y) = if c x y then .ok (.fz (h x y)) en else .no := id rfl
theorem x_gII {h : Int → Int → D} : gII h (fun _ _ => true) s t en = o2 (dref en s) (dref en t) (ii h en) := by
  unfold gII o2
  cases dref en s with
  | none => rfl
  | some d => cases dref en t with
    | none => cases d <;> rfl
    | some e => cases d <;> cases e <;> rfl
theorem x_gIIC {h : Int → Int → D} {c k : Int → Int → Bool} (q : ∀ i j, k i j = tst (c i j = true)) : gII h c s t en = o2 (dref en s) (dref en t) (iiC k h en) := by
  unfold gII o2
  cases dref en s with
  | none => rfl
  | some d => cases dref en t with
    | none => cases d <;> rfl
    | some e =>
      cases d <;> cases e <;> first
      | rfl
      | (simp only [iiC]; rw [q]; exact if_tst)
@[simp] theorem x_sub : gSub s t en = o2 (dref en s) (dref en t) (ii (fun i j => .int (i - j)) en) := x_gII
@[simp] theorem x_lt : gLt s t en = o2 (dref en s) (dref en t) (ii (fun i j => .bl (decide (i < j))) en) := x_gII
@[simp] theorem x_le : gLe s t en = o2 (dref en s) (dref en t) (ii (fun i j => .bl (decide (i ≤ j))) en) := x_gII
@[simp] theorem x_gt : gGt s t en = o2 (dref en s) (dref en t) (ii (fun i j => .bl (decide (j < i))) en) := x_gII
@[simp] theorem x_ge : gGe s t en = o2 (dref en s) (dref en t) (ii (fun i j => .bl (decide (j ≤ i))) en) := x_gII
@[simp] theorem x_max : gMax s t en = o2 (dref en s) (dref en t) (ii (fun i j => .int (if j > i then j else i)) en) := x_gII
@[simp] theorem x_min : gMin s t en = o2 (dref en s) (dref en t) (ii (fun i j => .int (if j < i then j else i)) en) := x_gII
@[simp] theorem x_div : gDiv s t en = o2 (dref en s) (dref en t) (iiC kDiv (fun i j => .int (i / j)) en) := x_gIIC fun _ _ => rfl
@[simp] theorem x_mod : gMod s t en = o2 (dref en s) (dref en t) (iiC (fun _ j => kMod j) (fun i j => .int (i % j)) en) := x_gIIC fun _ _ => rfl
@[simp] theorem x_pow : gPow s t en = o2 (dref en s) (dref en t) (iiC kPow (fun i j => .int (i ^ j.toNat)) en) := x_gIIC fun _ _ => rfl
def negD (en : En) : D → Rs Sl
  | .int i => .ok (.fz (.int (-i))) en
  | _ => .no
@[simp] theorem x_negI : negD en (.int x) = .ok (.fz (.int (-x))) en := id rfl
@[simp] theorem x_neg : gNeg s en = o1 (dref en s) (negD en) := by
  unfold gNeg o1
  cases dref en s with
  | none => rfl
  | some d => cases d <;> rfl
def absD (en : En) : D → Rs Sl
  | .int i => .ok (.fz (.int (if i < 0 then -i else i))) en
  | _ => .no
@[simp] theorem x_absI : absD en (.int x) = .ok (.fz (.int (if x < 0 then -x else x))) en := id rfl
@[simp] theorem x_abs : gAbs s en = o1 (dref en s) (absD en) := by
  unfold gAbs o1
  cases dref en s with
  | none => rfl
  | some d => cases d <;> rfl
noncomputable def addD (s t : Sl) (en : En) : D → D → Rs Sl
  | .int i, .int j => .ok (.fz (.int (i + j))) en
  | .str x, .str y => if inZ (x.length + y.length) then .ok (.fz (.str (x ++ y))) en else .no
  | .lst xs, .lst ys => if inZ (xs.length + ys.length) then
      (if flats xs && flats ys then .ok (.ow (.lst (xs ++ ys))) en else o1 (shr [s, t]) fun _ => .ok (.fz (.lst (xs ++ ys))) en)
    else .no
  | .tup xs, .tup ys => if inZ3 (xs.length + ys.length) (flats xs) (flats ys) then .ok (.fz (.tup (xs ++ ys))) en else .no
  | _, _ => .no
@[simp] theorem x_addI : addD s t en (.int x) (.int y) = .ok (.fz (.int (x + y))) en := id rfl
@[simp] theorem x_addS {x y : Str} : addD s t en (.str x) (.str y) = if inZ (x.length + y.length) then .ok (.fz (.str (x ++ y))) en else .no := id rfl
@[simp] theorem x_addL : addD s t en (.lst xs) (.lst ys) = if inZ (xs.length + ys.length) then
      (if flats xs && flats ys then .ok (.ow (.lst (xs ++ ys))) en else o1 (shr [s, t]) fun _ => .ok (.fz (.lst (xs ++ ys))) en)
    else .no := id rfl
@[simp] theorem x_addT : addD s t en (.tup xs) (.tup ys) = if inZ3 (xs.length + ys.length) (flats xs) (flats ys) then .ok (.fz (.tup (xs ++ ys))) en else .no := id rfl
theorem m_o1 {γ : Type} {x : Option γ} {r : Rs β} : (match x with | some _ => r | none => .no) = o1 x fun _ => r := by cases x <;> rfl
@[simp] theorem x_add : gAdd s t en = o2 (dref en s) (dref en t) (addD s t en) := by
  unfold gAdd o2
  cases dref en s with
  | none => rfl
  | some d => cases dref en t with
    | none => cases d <;> rfl
    | some e =>
      cases d <;> cases e <;> first
      | rfl
      | exact if_tst
      | (simp only [addD, o1, inZ]
         rw [if_tst]
         cases shr [s, t] <;> rfl)
noncomputable def mulD (s t : Sl) (en : En) : D → D → Rs Sl
  | .int i, .int j => if kMul i j then .ok (.fz (.int (i * j))) en else .no
  | .lst xs, .int k => if kRep xs.length k then
      (if flats xs then .ok (.ow (.lst (List.replicate k.toNat xs).flatten)) en else o1 (shr [s]) fun _ => .ok (.fz (.lst (List.replicate k.toNat xs).flatten)) en)
    else .no
  | _, _ => .no
@[simp] theorem x_mulI : mulD s t en (.int x) (.int y) = if kMul x y then .ok (.fz (.int (x * y))) en else .no := id rfl
@[simp] theorem x_mulL : mulD s t en (.lst xs) (.int x) = if kRep xs.length x then
      (if flats xs then .ok (.ow (.lst (List.replicate x.toNat xs).flatten)) en else o1 (shr [s]) fun _ => .ok (.fz (.lst (List.replicate x.toNat xs).flatten)) en)
    else .no := id rfl
@[simp] theorem x_mul : gMul s t en = o2 (dref en s) (dref en t) (mulD s t en) := by
  unfold gMul o2
  cases dref en s with
  | none => rfl
  | some d => cases dref en t with
    | none => cases d <;> rfl
    | some e =>
      cases d <;> cases e <;> first
      | rfl
      | exact if_tst
      | (simp only [mulD, o1, kRep]
         rw [if_tst]
         cases shr [s] <;> rfl)
noncomputable def eqD (en : En) (d e : D) : Rs Sl := if kCmp d e then .ok (.fz (.bl (deq d e))) en else .no
noncomputable def neD (en : En) (d e : D) : Rs Sl := if kCmp d e then .ok (.fz (.bl (!deq d e))) en else .no
@[simp] theorem x_eqD : eqD en d e = if kCmp d e then .ok (.fz (.bl (deq d e))) en else .no := id rfl
@[simp] theorem x_neD : neD en d e = if kCmp d e then .ok (.fz (.bl (!deq d e))) en else .no := id rfl
@[simp] theorem x_eq : gEq s t en = o2 (dref en s) (dref en t) (eqD en) := by
  unfold gEq o2
  cases dref en s with
  | none => rfl
  | some d => cases dref en t with
    | none => rfl
    | some e => exact if_tst
@[simp] theorem x_ne : gNe s t en = o2 (dref en s) (dref en t) (neD en) := by
  unfold gNe o2
  cases dref en s with
  | none => rfl
  | some d => cases dref en t with
    | none => rfl
    | some e => exact if_tst
@[simp] theorem x_in : gIn s t en = o1 (inD en s t) fun b => .ok (.fz (.bl b)) en := by unfold gIn o1; cases inD en s t <;> rfl
@[simp] theorem x_notIn : gNotIn s t en = o1 (inD en s t) fun b => .ok (.fz (.bl (!b))) en := by unfold gNotIn o1; cases inD en s t <;> rfl
def o2o {γ : Type} (x y : Option D) (h : D → D → Option γ) : Option γ := match x, y with | some a, some b => h a b | _, _ => none
@[simp] theorem o2o_some {γ : Type} {x y : D} {h : D → D → Option γ} : o2o (some x) (some y) h = h x y := id rfl
@[simp] theorem x_inD : inD en s t = o2o (dref en s) (dref en t) inDt := by
  unfold inD o2o
  cases dref en s with
  | none => rfl
  | some d => cases dref en t with
    | none => rfl
    | some e => rfl
@[simp] theorem x_inDl : inDt d (.lst xs) = inDs d xs := id rfl
@[simp] theorem x_inDt : inDt d (.tup xs) = inDs d xs := id rfl
noncomputable def kIn (d : D) (ds : List D) : Bool := tst (nod d = true ∧ nods ds = true ∧ min (deps ds) (dep d) ≤ 150)
@[simp] theorem kIn_of (h : nod d = true) (h2 : nods xs = true) (h3 : min (deps xs) (dep d) ≤ 150) : kIn d xs = true := tst_of ⟨h, h2, h3⟩
@[simp] theorem x_inDs : inDs d xs = if kIn d xs then some (xs.any fun z => deq z d) else none := if_tst
/-- a display's things -/
noncomputable def gTup0 (ss : List Sl) (en : En) : Rs Sl := oN (own ss) (o1 (shr ss) fun ds => .ok (.fz (.tup ds)) en) fun ds => .ok (mkS true (.tup ds)) en
noncomputable def gLst0 (ss : List Sl) (en : En) : Rs Sl := oN (own ss) (o1 (shr ss) fun ds => .ok (.fz (.lst ds)) en) fun ds => .ok (.ow (.lst ds)) en
@[simp] theorem x_tup0 {ss : List Sl} : gTup0 ss en = oN (own ss) (o1 (shr ss) fun ds => .ok (.fz (.tup ds)) en) fun ds => .ok (mkS true (.tup ds)) en := id rfl
@[simp] theorem x_lst0 {ss : List Sl} : gLst0 ss en = oN (own ss) (o1 (shr ss) fun ds => .ok (.fz (.lst ds)) en) fun ds => .ok (.ow (.lst ds)) en := id rfl
@[simp] theorem x_tup {ss : List Sl} : T.gTup ss en = if inZ ss.length then gTup0 ss en else .no := by
  unfold T.gTup gTup0 oN o1
  rw [if_tst]
  cases own ss <;> cases shr ss <;> rfl
@[simp] theorem x_lst {ss : List Sl} : gLst ss en = if inZ ss.length then gLst0 ss en else .no := by
  unfold gLst gLst0 oN o1
  rw [if_tst]
  cases own ss <;> cases shr ss <;> rfl
@[simp] theorem x_own1o : own1 (.ow d) = some d := id rfl
@[simp] theorem x_own1f : own1 (.fz d) = if flat d then some d else none := id rfl
@[simp] theorem x_own1b : own1 (.bw i) = none := id rfl
def o2c (x : Option D) (y : Option (List D)) : Option (List D) := match x, y with | some a, some b => some (a :: b) | _, _ => none
@[simp] theorem o2c_s : o2c (some d) (some xs) = some (d :: xs) := id rfl
@[simp] theorem o2c_n1 {y : Option (List D)} : o2c none y = none := id rfl
@[simp] theorem o2c_n2 {x : Option D} : o2c x none = none := by cases x <;> rfl
@[simp] theorem x_own0 : own [] = some [] := id rfl
@[simp] theorem x_ownC {ss : List Sl} : own (s :: ss) = o2c (own1 s) (own ss) := by
  show (match own1 s, own ss with | some d, some ds => some (d :: ds) | _, _ => none) = _
  unfold o2c
  cases own1 s <;> cases own ss <;> rfl
@[simp] theorem x_shr1o : shr1 (.ow d) = some d := id rfl
@[simp] theorem x_shr1f : shr1 (.fz d) = some d := id rfl
@[simp] theorem x_shr1b : shr1 (.bw i) = none := id rfl
@[simp] theorem x_shr0 : shr [] = some [] := id rfl
@[simp] theorem x_shrC {ss : List Sl} : shr (s :: ss) = o2c (shr1 s) (shr ss) := by
  show (match shr1 s, shr ss with | some d, some ds => some (d :: ds) | _, _ => none) = _
  unfold o2c
  cases shr1 s <;> cases shr ss <;> rfl
@[simp] theorem x_mkS {o : Bool} : mkS o d = if flat d then .fz d else if o then .ow d else .fz d := id rfl
@[simp] theorem x_part : part s d en = if flat d then .ok (.fz d) en else o1 (shr1 s) fun _ => .ok (.fz d) en := by
  unfold part o1
  cases shr1 s <;> rfl
/-- an index into what is shown -/
def ixD (s : Sl) (i : Int) (en : En) : D → Rs Sl
    | .lst ds => o1 (atI ds i) fun d => part s d en
    | .tup ds => o1 (atI ds i) fun d => part s d en
    | .str z => if z.length ≤ sizeLine then (match atI z.cps.toList i with
        | some c => .ok (.fz (.str ⟨#[c]⟩)) en
        | none => .no) else .no
    | _ => .no
@[simp] theorem x_ixDl : ixD s x en (.lst xs) = o1 (atI xs x) fun d => part s d en := id rfl
@[simp] theorem x_ixDt : ixD s x en (.tup xs) = o1 (atI xs x) fun d => part s d en := id rfl
noncomputable def ixSt (z : Str) (i : Int) (en : En) : Rs Sl := if inZ z.length then o1 (atI z.cps.toList i) fun c => .ok (.fz (.str ⟨#[c]⟩)) en else .no
@[simp] theorem x_ixDs {z : Str} : ixD s x en (.str z) = ixSt z x en := by
  show (if z.length ≤ sizeLine then (match atI z.cps.toList x with
        | some c => Rs.ok (Sl.fz (.str ⟨#[c]⟩)) en
        | none => .no) else .no) = _
  rw [if_tst]
  unfold ixSt o1 inZ
  cases atI z.cps.toList x <;> rfl
@[simp] theorem x_ixSt {z : Str} : ixSt z x en = if inZ z.length then o1 (atI z.cps.toList x) fun c => .ok (.fz (.str ⟨#[c]⟩)) en else .no := id rfl
def ixT (en : En) (h : Int → Rs Sl) : D → Rs Sl
  | .int i => h i
  | _ => .no
@[simp] theorem x_ixT {h : Int → Rs Sl} : ixT en h (.int x) = h x := id rfl
@[simp] theorem x_ixRd {ns : List Int} : gIx (.rd ns) t en = o1 (dref en t) (ixT en fun i => o1 (atI ns i) fun n => .ok (.fz (.int n)) en) := by
  unfold gIx o1
  cases dref en t with
  | none => rfl
  | some d =>
    cases d <;> first
    | rfl
    | (simp only [ixT]
       split <;> rename_i h <;> simp only [h])
theorem gIx_of (h : ∀ ns, s ≠ .rd ns) : gIx s t en = o1 (dref en t) (ixT en fun i => o1 (dref en s) (ixD s i en)) := by
  have key : ∀ i : Int, (match dref en s with
    | some (.lst ds) => match atI ds i with
      | some d => part s d en
      | none => .no
    | some (.tup ds) => match atI ds i with
      | some d => part s d en
      | none => .no
    | some (.str z) => if z.length ≤ sizeLine then (match atI z.cps.toList i with
        | some c => .ok (.fz (.str ⟨#[c]⟩)) en
        | none => .no) else .no
    | _ => .no) = o1 (dref en s) (ixD s i en) := fun i => by
    unfold o1
    cases dref en s with
    | none => rfl
    | some d =>
      cases d <;> first
      | rfl
      | (simp only [ixD, o1]
         split <;> rename_i h <;> simp only [h])
  unfold gIx
  cases dref en t with
  | none => cases s <;> rfl
  | some d =>
    cases d with
    | int i =>
      cases s with
      | rd ns => exact absurd rfl (h ns)
      | _ => exact key i
    | _ => cases s <;> rfl
@[simp] theorem x_ixF : gIx (.fz d) t en = o1 (dref en t) (ixT en fun i => o1 (dref en (.fz d)) (ixD (.fz d) i en)) := gIx_of (by simp)
@[simp] theorem x_ixO : gIx (.ow d) t en = o1 (dref en t) (ixT en fun i => o1 (dref en (.ow d)) (ixD (.ow d) i en)) := gIx_of (by simp)
@[simp] theorem x_ixB : gIx (.bw j) t en = o1 (dref en t) (ixT en fun i => o1 (dref en (.bw j)) (ixD (.bw j) i en)) := gIx_of (by simp)
def opD (en : En) : D → Rs (Option Int)
  | .int i => .ok (some i) en
  | _ => .no
@[simp] theorem x_opD : opD en (.int x) = .ok (some x) en := id rfl
@[simp] theorem x_opN : oPart none en = .ok none en := id rfl
@[simp] theorem x_opS : oPart (some f) en = (f en).bind fun s e => o1 (dref e s) (opD e) := by
  show ((f en).bind fun s e => match dref e s with | some (.int i) => .ok (some i) e | _ => .no) = _
  cases f en with
  | ok s e =>
    show (match dref e s with | some (.int i) => Rs.ok (some i) e | _ => .no) = o1 (dref e s) (opD e)
    unfold o1
    cases dref e s with
    | none => rfl
    | some d => cases d <;> rfl
  | _ => rfl
@[simp] theorem x_sl {lo hi : Option Ev} : vSl f lo hi en = (f en).bind fun s e1 => (oPart lo e1).bind fun l e2 => (oPart hi e2).bind fun h e3 => gSl s l h e3 := id rfl
noncomputable def slD (s : Sl) (lo hi : Option Int) (en : En) : D → Rs Sl
    | .lst ds => if flats ds then .ok (.ow (.lst (cutL ds lo hi))) en else o1 (shr1 s) fun _ => .ok (.fz (.lst (cutL ds lo hi))) en
    | .tup ds => if flats ds then .ok (.fz (.tup (cutL ds lo hi))) en else .no
    | .str z => if inZ z.length then .ok (.fz (.str (cutS z lo hi))) en else .no
    | _ => .no
variable {lo hi : Option Int}
@[simp] theorem x_slDl : slD s lo hi en (.lst xs) = if flats xs then .ok (.ow (.lst (cutL xs lo hi))) en else o1 (shr1 s) fun _ => .ok (.fz (.lst (cutL xs lo hi))) en := id rfl
@[simp] theorem x_slDt : slD s lo hi en (.tup xs) = if flats xs then .ok (.fz (.tup (cutL xs lo hi))) en else .no := id rfl
@[simp] theorem x_slDs {z : Str} : slD s lo hi en (.str z) = if inZ z.length then .ok (.fz (.str (cutS z lo hi))) en else .no := id rfl
@[simp] theorem x_slR {ns : List Int} : gSl (.rd ns) lo hi en = .ok (.ow (.lst ((cutL ns lo hi).map .int))) en := id rfl
theorem gSl_of (h : ∀ ns, s ≠ .rd ns) : gSl s lo hi en = o1 (dref en s) (slD s lo hi en) := by
  have key : (match dref en s with
    | some (.lst ds) => if flats ds then .ok (.ow (.lst (cutL ds lo hi))) en else (match shr1 s with
      | some _ => .ok (.fz (.lst (cutL ds lo hi))) en
      | none => .no)
    | some (.tup ds) => if flats ds then .ok (.fz (.tup (cutL ds lo hi))) en else .no
    | some (.str z) => if z.length ≤ sizeLine then .ok (.fz (.str (cutS z lo hi))) en else .no
    | _ => .no) = o1 (dref en s) (slD s lo hi en) := by
    unfold o1
    cases dref en s with
    | none => rfl
    | some d =>
      cases d <;> first
      | rfl
      | exact if_tst
      | (simp only [slD, o1]
         cases shr1 s <;> rfl)
  cases s with
  | rd ns => exact absurd rfl (h ns)
  | _ => exact key
@[simp] theorem x_slF : gSl (.fz d) lo hi en = o1 (dref en (.fz d)) (slD (.fz d) lo hi en) := gSl_of (by simp)
@[simp] theorem x_slO : gSl (.ow d) lo hi en = o1 (dref en (.ow d)) (slD (.ow d) lo hi en) := gSl_of (by simp)
@[simp] theorem x_slB : gSl (.bw i) lo hi en = o1 (dref en (.bw i)) (slD (.bw i) lo hi en) := gSl_of (by simp)
noncomputable def lenK (en : En) : D → Rs Sl
  | .lst ds => .ok (.fz (.int ds.length)) en
  | .tup ds => .ok (.fz (.int ds.length)) en
  | .str z => if inZ z.length then .ok (.fz (.int z.length)) en else .no
  | _ => .no
@[simp] theorem x_lenl : lenK en (.lst xs) = .ok (.fz (.int xs.length)) en := id rfl
@[simp] theorem x_lent : lenK en (.tup xs) = .ok (.fz (.int xs.length)) en := id rfl
@[simp] theorem x_lens {z : Str} : lenK en (.str z) = if inZ z.length then .ok (.fz (.int z.length)) en else .no := id rfl
@[simp] theorem x_lenR {ns : List Int} : gLen (.rd ns) en = .ok (.fz (.int ns.length)) en := id rfl
theorem gLen_of (h : ∀ ns, s ≠ .rd ns) : gLen s en = o1 (dref en s) (lenK en) := by
  have key : (match dref en s with
    | some d => match lenD d with
      | some n => .ok (.fz (.int n)) en
      | none => .no
    | none => .no) = o1 (dref en s) (lenK en) := by
    unfold o1
    cases dref en s with
    | none => rfl
    | some d =>
      cases d <;> first
      | rfl
      | (simp only [lenD, lenK]
         rename_i z
         by_cases q : z.length ≤ sizeLine
         · rw [if_pos (show inZ z.length = true from tst_of q)]; simp only [if_pos q]
         · rw [if_neg (show ¬ inZ z.length = true from fun k => q (of_tst k))]; simp only [if_neg q])
  cases s with
  | rd ns => exact absurd rfl (h ns)
  | _ => exact key
@[simp] theorem x_lenF : gLen (.fz d) en = o1 (dref en (.fz d)) (lenK en) := gLen_of (by simp)
@[simp] theorem x_lenO : gLen (.ow d) en = o1 (dref en (.ow d)) (lenK en) := gLen_of (by simp)
@[simp] theorem x_lenB : gLen (.bw i) en = o1 (dref en (.bw i)) (lenK en) := gLen_of (by simp)
def listD (s : Sl) (en : En) : D → Rs Sl
  | .lst ds => if flats ds then .ok (.ow (.lst ds)) en else o1 (shr1 s) fun _ => .ok (.fz (.lst ds)) en
  | .tup ds => if flats ds then .ok (.ow (.lst ds)) en else o1 (shr1 s) fun _ => .ok (.fz (.lst ds)) en
  | _ => .no
@[simp] theorem x_listl : listD s en (.lst xs) = if flats xs then .ok (.ow (.lst xs)) en else o1 (shr1 s) fun _ => .ok (.fz (.lst xs)) en := id rfl
@[simp] theorem x_listt : listD s en (.tup xs) = if flats xs then .ok (.ow (.lst xs)) en else o1 (shr1 s) fun _ => .ok (.fz (.lst xs)) en := id rfl
@[simp] theorem x_listR {ns : List Int} : gList (.rd ns) en = .ok (.ow (.lst (ns.map .int))) en := id rfl
theorem gList_of (h : ∀ ns, s ≠ .rd ns) : gList s en = o1 (dref en s) (listD s en) := by
  have key : (match dref en s with
    | some (.lst ds) => if flats ds then .ok (.ow (.lst ds)) en else (match shr1 s with
      | some _ => .ok (.fz (.lst ds)) en
      | none => .no)
    | some (.tup ds) => if flats ds then .ok (.ow (.lst ds)) en else (match shr1 s with
      | some _ => .ok (.fz (.lst ds)) en
      | none => .no)
    | _ => .no) = o1 (dref en s) (listD s en) := by
    unfold o1
    cases dref en s with
    | none => rfl
    | some d =>
      cases d <;> first
      | rfl
      | (simp only [listD, o1]
         cases shr1 s <;> rfl)
  cases s with
  | rd ns => exact absurd rfl (h ns)
  | _ => exact key
@[simp] theorem x_listF : gList (.fz d) en = o1 (dref en (.fz d)) (listD (.fz d) en) := gList_of (by simp)
@[simp] theorem x_listO : gList (.ow d) en = o1 (dref en (.ow d)) (listD (.ow d) en) := gList_of (by simp)
@[simp] theorem x_listB : gList (.bw i) en = o1 (dref en (.bw i)) (listD (.bw i) en) := gList_of (by simp)
def tupOfD (s : Sl) (en : En) : D → Rs Sl
  | .lst ds => if flats ds then .ok (.fz (.tup ds)) en else o1 (shr1 s) fun _ => .ok (.fz (.tup ds)) en
  | .tup ds => if flats ds then .ok (.fz (.tup ds)) en else .no
  | _ => .no
@[simp] theorem x_tupOfl : tupOfD s en (.lst xs) = if flats xs then .ok (.fz (.tup xs)) en else o1 (shr1 s) fun _ => .ok (.fz (.tup xs)) en := id rfl
@[simp] theorem x_tupOft : tupOfD s en (.tup xs) = if flats xs then .ok (.fz (.tup xs)) en else .no := id rfl
@[simp] theorem x_tupOf : gTupOf s en = o1 (dref en s) (tupOfD s en) := by
  unfold gTupOf o1
  cases dref en s with
  | none => rfl
  | some d =>
    cases d <;> first
    | rfl
    | (simp only [tupOfD, o1]
       cases shr1 s <;> rfl)
def isiS (U : Ty) (en : En) : Sl → Rs Sl
  | .rd _ => .ok (.fz (.bl (isA (.lst []) U))) en
  | s => o1 (dref en s) fun d => .ok (.fz (.bl (isA d U))) en
@[simp] theorem x_isiR {U : Ty} {ns : List Int} : isiS U en (.rd ns) = .ok (.fz (.bl (isA (.lst []) U))) en := id rfl
@[simp] theorem x_isiF {U : Ty} : isiS U en (.fz d) = .ok (.fz (.bl (isA d U))) en := id rfl
@[simp] theorem x_isiO {U : Ty} : isiS U en (.ow d) = .ok (.fz (.bl (isA d U))) en := id rfl
@[simp] theorem x_isiB {U : Ty} : isiS U en (.bw i) = o1 (dref en (.bw i)) fun d => .ok (.fz (.bl (isA d U))) en := id rfl
@[simp] theorem x_isi {U : Ty} : vIsi f U en = (f en).bind fun s e => isiS U e s := by
  unfold vIsi
  cases f en with
  | ok s e =>
    simp only [rsb_ok]
    cases s <;> first | rfl | (simp only [isiS, o1]; cases dref e _ <;> rfl)
  | _ => rfl
def tyD (U : String) : D → Bool
  | .lst _ => U == "list"
  | .str _ => U == "str"
  | .dct _ _ => U == "dict"
  | _ => false
@[simp] theorem x_tyDl {U : String} : tyD U (.lst xs) = (U == "list") := id rfl
@[simp] theorem x_tyDs {U : String} {z : Str} : tyD U (.str z) = (U == "str") := id rfl
@[simp] theorem x_tyS {U : String} : tyS U s en = oN (dref en s) false (tyD U) := by
  unfold tyS oN
  cases dref en s with
  | none => rfl
  | some d => cases d <;> rfl
@[simp] theorem x_mt {U : String} {r : EvA} {h : Sl → List Sl → En → Rs Sl} : vMt U f r h en = (f en).bind fun s e1 => if tyS U s e1 then (r e1).bind fun ss e2 => h s ss e2 else .no := id rfl
@[simp] theorem x_mt0 {U : String} {h : Sl → En → Rs Sl} : vMt0 U f h en = (f en).bind fun s e1 => if tyS U s e1 then h s e1 else .no := id rfl
@[simp] theorem x_soAt : soAt en i = oN en[i]? none soOf := by
  unfold soAt oN
  cases en[i]? <;> rfl
@[simp] theorem x_soOfo : soOf (.ow (.lst xs)) = some xs := id rfl
@[simp] theorem x_soOfs : soOf (.so xs) = some xs := id rfl
@[simp] theorem x_soMk : soMk xs = if flats xs then .ow (.lst xs) else .so xs := id rfl
/-- what is put at the end: flat things -/
theorem x_append (h : en[i]? = some (.ow (.lst xs))) (h2 : own1 t = some d) : gAppend (.bw i) [t] en = if inZl xs.length then .ok (.fz .non) (en.set i (.ow (.lst (xs ++ [d])))) else .no := by
  unfold gAppend
  simp only [h, h2]
  exact if_tst
theorem x_appendS (h : en[i]? = some (.so xs)) (h2 : shr1 t = some d) : gAppend (.bw i) [t] en = if inZl xs.length then .ok (.fz .non) (en.set i (soMk (xs ++ [d]))) else .no := by
  unfold gAppend
  simp only [soAt, soOf, h, h2]
  exact if_tst
noncomputable def appS (i : Nat) (en : En) (t : Sl) : Sl → Rs Sl
  | .ow (.lst xs) => oN (own1 t) (o1 (shr1 t) fun d => if inZl xs.length then .ok (.fz .non) (en.set i (soMk (xs ++ [d]))) else .no) fun d => if inZl xs.length then .ok (.fz .non) (en.set i (.ow (.lst (xs ++ [d])))) else .no
  | .so xs => o1 (shr1 t) fun d => if inZl xs.length then .ok (.fz .non) (en.set i (soMk (xs ++ [d]))) else .no
  | _ => .no
@[simp] theorem x_apO : appS i en t (.ow (.lst xs)) = oN (own1 t) (o1 (shr1 t) fun d => if inZl xs.length then .ok (.fz .non) (en.set i (soMk (xs ++ [d]))) else .no) fun d => if inZl xs.length then .ok (.fz .non) (en.set i (.ow (.lst (xs ++ [d])))) else .no := id rfl
@[simp] theorem x_apS : appS i en t (.so xs) = o1 (shr1 t) fun d => if inZl xs.length then .ok (.fz .non) (en.set i (soMk (xs ++ [d]))) else .no := id rfl
@[simp] theorem x_app : gAppend (.bw i) [t] en = o1 en[i]? (appS i en t) := by
  unfold gAppend o1
  cases q : en[i]? with
  | none => simp only [soAt, q]
  | some s =>
    cases s with
    | ow d =>
      cases d with
      | lst xs =>
        simp only [appS, oN, o1, soAt, soOf, q]
        cases own1 t with
        | none =>
          cases shr1 t with
          | none => rfl
          | some d => exact if_tst
        | some d => exact if_tst
      | _ => simp only [soAt, soOf, q]; rfl
    | so xs =>
      simp only [appS, o1, soAt, soOf, q]
      cases shr1 t with
      | none => rfl
      | some d => exact if_tst
    | _ => simp only [soAt, soOf, q]; rfl
noncomputable def inZ2 (n : Nat) (p : Bool) : Bool := tst (n ≤ sizeLine ∧ p = true)
@[simp] theorem inZ2_of {p : Bool} (h : n ≤ 16777216) (h2 : p = true) : inZ2 n p = true := tst_of ⟨h, h2⟩
noncomputable def extD (i : Nat) (en : En) (ds : List D) : D → Rs Sl
  | .lst es => if inZ2 (ds.length + es.length) (flats es) then .ok (.fz .non) (en.set i (soMk (ds ++ es))) else .no
  | _ => .no
@[simp] theorem x_extD : extD i en xs (.lst ys) = if inZ2 (xs.length + ys.length) (flats ys) then .ok (.fz .non) (en.set i (soMk (xs ++ ys))) else .no := id rfl
@[simp] theorem x_ext : gExtend (.bw i) [t] en = o1 (soAt en i) fun ds => o1 (dref en t) (extD i en ds) := by
  show (match soAt en i, dref en t with
    | some ds, some (.lst es) => if ds.length + es.length ≤ sizeLine ∧ flats es = true then Rs.ok (Sl.fz .non) (en.set i (soMk (ds ++ es))) else .no
    | _, _ => .no) = _
  unfold o1
  cases soAt en i with
  | none => rfl
  | some ds =>
    cases dref en t with
    | none => rfl
    | some d => cases d <;> first | rfl | exact if_tst
noncomputable def kCnt (d : D) (ds : List D) : Bool := tst (nods ds = true ∧ nod d = true ∧ min (deps ds) (dep d) ≤ 150)
@[simp] theorem kCnt_of (h : nods xs = true) (h2 : nod d = true) (h3 : min (deps xs) (dep d) ≤ 150) : kCnt d xs = true := tst_of ⟨h, h2, h3⟩
noncomputable def cntD (en : En) : D → D → Rs Sl
  | .lst ds, d => if kCnt d ds then .ok (.fz (.int (ds.countP fun z => deq z d : Nat))) en else .no
  | _, _ => .no
@[simp] theorem x_cntD : cntD en (.lst xs) d = if kCnt d xs then .ok (.fz (.int (xs.countP fun z => deq z d : Nat))) en else .no := id rfl
@[simp] theorem x_cnt : gCount s [t] en = o2 (dref en s) (dref en t) (cntD en) := by
  show (match dref en s, dref en t with
    | some (.lst ds), some d => if nods ds = true ∧ nod d = true ∧ min (deps ds) (dep d) ≤ 150 then Rs.ok (Sl.fz (.int (ds.countP fun z => deq z d : Nat))) en else .no
    | _, _ => .no) = _
  unfold o2
  cases dref en s with
  | none => rfl
  | some d =>
    cases dref en t with
    | none => cases d <;> rfl
    | some e => cases d <;> first | rfl | exact if_tst
theorem x_appAt {ds es : List D} (h : atList en k j = some (ds, es)) (h2 : flat d = true) (h3 : es.length < 16777216) : vAppAt k j d en = .ok (.fz .non) (en.set k (.ow (.tup (ds.set j (.lst (es ++ [d])))))) := by
  unfold vAppAt
  rw [h]
  exact if_pos ⟨h2, h3⟩
theorem x_insAt {ds es : List D} {i : Int} (h : atList en k j = some (ds, es)) (h2 : flat d = true) (h3 : es.length < 16777216) (h4 : 0 ≤ i) (h5 : i < 16777216) : vInsAt k j i d en = .ok (.fz .non) (en.set k (.ow (.tup (ds.set j (.lst (es.take i.toNat ++ [d] ++ es.drop i.toNat)))))) := by
  unfold vInsAt
  rw [h]
  exact if_pos ⟨h2, h3, h4, by omega⟩
theorem x_atList {ds es : List D} (h : en[k]? = some (.ow (.tup ds))) (h2 : ds[j]? = some (.lst es)) (h3 : flats es = true) : atList en k j = some (ds, es) := by
  unfold atList
  simp only [h, h2, h3, if_true]
def iLS (en : En) : Sl → Rs (List Sl × List D)
  | .fz (.lst ds) => .ok ([.fz (.lst ds)], ds) en
  | .ow (.lst ds) => .ok ([.fz (.lst ds)], ds) en
  | .rd ns => .ok ([.rd ns], ns.map .int) en
  | _ => .no
@[simp] theorem x_iLF : iLS en (.fz (.lst xs)) = .ok ([.fz (.lst xs)], xs) en := id rfl
@[simp] theorem x_iLO : iLS en (.ow (.lst xs)) = .ok ([.fz (.lst xs)], xs) en := id rfl
@[simp] theorem x_iLR {ns : List Int} : iLS en (.rd ns) = .ok ([.rd ns], ns.map .int) en := id rfl
@[simp] theorem x_iL : iL f en = (f en).bind fun s e => iLS e s := by
  unfold iL
  cases f en with
  | ok s e =>
    simp only [rsb_ok]
    cases s with
    | fz d => cases d <;> rfl
    | ow d => cases d <;> rfl
    | _ => rfl
  | _ => rfl
def iTS (en : En) : Sl → Rs (List Sl × List D)
  | .fz (.tup ds) => .ok ([.fz (.tup ds)], ds) en
  | .ow (.tup ds) => .ok ([.fz (.tup ds)], ds) en
  | _ => .no
@[simp] theorem x_iTF : iTS en (.fz (.tup xs)) = .ok ([.fz (.tup xs)], xs) en := id rfl
@[simp] theorem x_iTO : iTS en (.ow (.tup xs)) = .ok ([.fz (.tup xs)], xs) en := id rfl
@[simp] theorem x_iT : iT f en = (f en).bind fun s e => iTS e s := by
  unfold iT
  cases f en with
  | ok s e =>
    simp only [rsb_ok]
    cases s with
    | fz d => cases d <;> rfl
    | ow d => cases d <;> rfl
    | _ => rfl
  | _ => rfl
def iSS (en : En) : Sl → Rs (List Sl × List D)
  | .fz (.str z) => .ok ([], signs z) en
  | _ => .no
@[simp] theorem x_iSF {z : Str} : iSS en (.fz (.str z)) = .ok ([], signs z) en := id rfl
@[simp] theorem x_iS : iS f en = (f en).bind fun s e => iSS e s := by
  unfold iS
  cases f en with
  | ok s e =>
    simp only [rsb_ok]
    cases s with
    | fz d => cases d <;> rfl
    | _ => rfl
  | _ => rfl
noncomputable def iRD (en : En) : D → Rs (List Sl × List D)
  | .int j => if inR j then .ok ([], rangeD 0 j.toNat) en else .no
  | _ => .no
@[simp] theorem x_iRD : iRD en (.int x) = if inR x then .ok ([], rangeD 0 x.toNat) en else .no := id rfl
noncomputable def iR1S (en : En) : List Sl → Rs (List Sl × List D)
  | [s] => o1 (dref en s) (iRD en)
  | _ => .no
@[simp] theorem x_iR1S : iR1S en [s] = o1 (dref en s) (iRD en) := id rfl
@[simp] theorem x_iR1 {fs : EvA} : iR1 fs en = (fs en).bind fun ss e => iR1S e ss := by
  unfold iR1
  cases fs en with
  | ok ss e =>
    simp only [rsb_ok]
    split
    · rename_i s
      simp only [iR1S, o1]
      cases dref e s with
      | none => rfl
      | some d =>
        cases d <;> first | rfl | exact if_tst
    · rename_i h
      unfold iR1S
      split
      · rename_i s
        exact absurd rfl (h s)
      · rfl
  | _ => rfl
noncomputable def iR2D (en : En) : D → D → Rs (List Sl × List D)
  | .int i, .int j => if inR2 i j then .ok ([], rangeD i (j - i).toNat) en else .no
  | _, _ => .no
@[simp] theorem x_iR2D : iR2D en (.int x) (.int y) = if inR2 x y then .ok ([], rangeD x (y - x).toNat) en else .no := id rfl
noncomputable def iR2S (en : En) : List Sl → Rs (List Sl × List D)
  | [s, t] => o2 (dref en s) (dref en t) (iR2D en)
  | _ => .no
@[simp] theorem x_iR2S : iR2S en [s, t] = o2 (dref en s) (dref en t) (iR2D en) := id rfl
@[simp] theorem x_iR2 {fs : EvA} : iR2 fs en = (fs en).bind fun ss e => iR2S e ss := by
  unfold iR2
  cases fs en with
  | ok ss e =>
    simp only [rsb_ok]
    split
    · rename_i s t
      simp only [iR2S, o2]
      cases dref e s with
      | none => rfl
      | some d =>
        cases dref e t with
        | none => cases d <;> rfl
        | some e' => cases d <;> cases e' <;> first | rfl | exact if_tst
    · rename_i h
      unfold iR2S
      split
      · rename_i s t
        exact absurd rfl (h s t)
      · rfl
  | _ => rfl
@[simp] theorem x_for {fi : EvI} {tf : Tf} : sFor fi tf a en = outK (fi en) fun p e => forL tf a p.2 e := by
  unfold sFor outK
  cases fi en <;> rfl
@[simp] theorem x_while {n : Nat} : sWhile n u a en = whL u a n en := id rfl
@[simp] theorem x_tfName : tfName k d en = oN en[k]? none fun _ => some (en.set k (.fz d)) := by
  unfold tfName oN
  cases en[k]? <;> rfl
@[simp] theorem x_tg {tf : Tf} : sTg f tf en = outK (f en) fun s e => oO (shr1 s) fun d => oO (tf d e) fun e' => .nx e' := by
  unfold sTg vS outK oO
  cases f en with
  | ok s e =>
    dsimp only
    cases shr1 s with
    | none => rfl
    | some d =>
      dsimp only
      cases tf d e <;> rfl
  | _ => rfl
@[simp] theorem x_tfTup {ks : List Nat} : tfTup ks (.tup xs) en = tfNames ks xs en := id rfl
@[simp] theorem x_tfNames0 : tfNames [] [] en = some en := id rfl
@[simp] theorem x_tfNamesC {ks : List Nat} : tfNames (k :: ks) (d :: xs) en = oN en[k]? none fun _ => tfNames ks xs (en.set k (.fz d)) := by
  show (match en[k]? with | some _ => tfNames ks xs (en.set k (.fz d)) | none => none) = _
  unfold oN
  cases en[k]? <;> rfl
/-- what a call leaves -/
def calR (ss : List Sl) (en : En) : Fr → Rs Sl
  | .no => .no
  | .ex c => .ex c en
  | .ok o d outs => o1 (putBack ss outs en) fun en' => if o then .ok (mkS true d) en' else if flat d then .ok (.fz d) en' else if noBw ss then .ok (.fz d) en' else .no
@[simp] theorem x_calO {ss : List Sl} {o : Bool} {outs : List D} : calR ss en (.ok o d outs) = o1 (putBack ss outs en) fun en' => if o then .ok (mkS true d) en' else if flat d then .ok (.fz d) en' else if noBw ss then .ok (.fz d) en' else .no := id rfl
@[simp] theorem x_calE {ss : List Sl} {c : Str} : calR ss en (.ex c) = .ex c en := id rfl
@[simp] theorem x_call {md : List Md} {fm : List Ag → Fr} {ss : List Sl} : gCall md fm ss en = o1 (agsOf md en ss) fun gs => calR ss en (fm gs) := by
  unfold gCall o1
  cases agsOf md en ss with
  | none => rfl
  | some gs =>
    dsimp only
    cases fm gs with
    | ok o d outs =>
      simp only [calR, o1]
      cases putBack ss outs en <;> rfl
    | _ => rfl
def o2a (x : Option Ag) (y : Option (List Ag)) : Option (List Ag) := match x, y with | some a, some b => some (a :: b) | _, _ => none
@[simp] theorem o2a_s {x : Ag} {y : List Ag} : o2a (some x) (some y) = some (x :: y) := id rfl
@[simp] theorem x_ags0 : agsOf [] en [] = some [] := id rfl
@[simp] theorem x_agsC {q : Md} {ms : List Md} {ss : List Sl} : agsOf (q :: ms) en (s :: ss) = o2a (ag1 q en s) (agsOf ms en ss) := by
  show (match ag1 q en s, agsOf ms en ss with | some g, some gs => some (g :: gs) | _, _ => none) = _
  unfold o2a
  cases ag1 q en s <;> cases agsOf ms en ss <;> rfl
@[simp] theorem x_agF : ag1 .d en (.fz d) = some (.d d) := id rfl
@[simp] theorem x_agO : ag1 .d en (.ow d) = some (.d d) := id rfl
@[simp] theorem x_agR {ns : List Int} : ag1 .d en (.rd ns) = some (.rd ns) := id rfl
@[simp] theorem x_agB : ag1 .d en (.bw i) = oN (dref en (.bw i)) none fun d => some (.d d) := by
  show (match dref en (.bw i) with
    | some d => some (Ag.d d)
    | none => none) = _
  unfold oN
  cases dref en (.bw i) <;> rfl
@[simp] theorem x_pb0 : putBack [] [] en = some en := id rfl
@[simp] theorem x_pbF {ss : List Sl} : putBack (.fz d :: ss) xs en = putBack ss xs en := by cases xs <;> rfl
@[simp] theorem x_pbO {ss : List Sl} : putBack (.ow d :: ss) xs en = putBack ss xs en := by cases xs <;> rfl
@[simp] theorem x_pbR {ss : List Sl} {ns : List Int} : putBack (.rd ns :: ss) xs en = putBack ss xs en := by cases xs <;> rfl
@[simp] theorem x_pbB {ss : List Sl} : putBack (.bw i :: ss) xs en = putBack ss xs en := by cases xs <;> rfl
@[simp] theorem x_nb0 : noBw [] = true := id rfl
@[simp] theorem x_nbF {ss : List Sl} : noBw (.fz d :: ss) = noBw ss := id rfl
@[simp] theorem x_nbO {ss : List Sl} : noBw (.ow d :: ss) = noBw ss := id rfl
@[simp] theorem x_nbR {ss : List Sl} {ns : List Int} : noBw (.rd ns :: ss) = noBw ss := id rfl
@[simp] theorem x_nbB {ss : List Sl} : noBw (.bw i :: ss) = false := id rfl
@[simp] theorem x_noOw0 : noOw [] = true := id rfl
@[simp] theorem x_noOwd {gs : List Ag} : noOw (.d d :: gs) = noOw gs := id rfl
@[simp] theorem x_noOwr {gs : List Ag} {ns : List Int} : noOw (.rd ns :: gs) = noOw gs := id rfl
@[simp] theorem x_runF {sb : Sv} {gs : List Ag} : runF n sb gs = endF (sb (startE n gs)) := id rfl
@[simp] theorem x_startE {gs : List Ag} : startE n gs = gs.map agSl ++ List.replicate (n - gs.length) .none := id rfl
@[simp] theorem x_agSld : agSl (.d d) = .fz d := id rfl
@[simp] theorem x_agSlr {ns : List Int} : agSl (.rd ns) = .rd ns := id rfl
def endS : Sl → Fr
  | .ow d => .ok true d []
  | .so ds => .ok false (.lst ds) []
  | _ => .no
@[simp] theorem x_endSo : endS (.ow d) = .ok true d [] := id rfl
@[simp] theorem x_endSs : endS (.so xs) = .ok false (.lst xs) [] := id rfl
@[simp] theorem x_endfz : endF (.rt (.fz d) en) = .ok false d [] := id rfl
@[simp] theorem x_endow : endF (.rt (.ow d) en) = .ok true d [] := id rfl
@[simp] theorem x_endbw : endF (.rt (.bw i) en) = oN en[i]? .no endS := by
  unfold endF oN
  dsimp only
  cases en[i]? with
  | none => rfl
  | some s => cases s <;> rfl
@[simp] theorem x_endnx : endF (.nx en) = .ok false .non [] := id rfl
@[simp] theorem x_endex {c : Str} : endF (.ex c en) = .ex c := id rfl
@[simp] theorem x_lc {o : Bool} {ks : List Nat} {fi : EvI} {tf : Tf} : vLc o ks fi tf u f en = (fi en).bind fun p e => lcL o ks tf u f p.2 [] (clr ks e) := id rfl
@[simp] theorem x_clr0 : clr [] en = en := id rfl
@[simp] theorem x_clrC {ks : List Nat} : clr (k :: ks) en = (clr ks en).set k .none := id rfl
@[simp] theorem x_yes : tYes1 en = .ok true en := id rfl
end
end T
/-! T17: what data of texts show. -/
namespace T
open PySem PySem.Spec L2
/-! ### indices, cuts -/
section
variable {α β : Type}
theorem atI_nat' {xs : List α} {k : Nat} : atI xs (k : Int) = xs[k]? := by
  unfold atI ixN
  by_cases h : k < xs.length
  · rw [if_pos (by omega), if_pos (by omega)]; simp
  · rw [if_pos (by omega), if_neg (by omega)]; simp; omega
@[simp] theorem atI_0 {xs : List α} : atI xs 0 = xs[0]? := atI_nat' (k := 0)
@[simp] theorem atI_1 {xs : List α} : atI xs 1 = xs[1]? := atI_nat' (k := 1)
@[simp] theorem atI_2 {xs : List α} : atI xs 2 = xs[2]? := atI_nat' (k := 2)
theorem atI_of {xs : List α} {i : Int} (h : 0 ≤ i) : atI xs i = xs[i.toNat]? := by
  obtain ⟨k, rfl⟩ := Int.eq_ofNat_of_zero_le h
  exact atI_nat'
@[simp] theorem atI_m1 {xs : List α} : atI xs (-1) = xs.getLast? := by
  unfold atI ixN
  rw [if_neg (by omega)]
  cases xs with
  | nil => rfl
  | cons x xs =>
    rw [if_pos (by simp; omega), List.getLast?_eq_getElem?]
    have e : (-1 + ((x :: xs).length : Int)).toNat = (x :: xs).length - 1 := by simp; omega
    simp only [Option.bind_some]
    rw [e]
@[simp] theorem cut_nn {xs : List α} : cutL xs none none = xs := by simp [cutL, HT.sIx]
theorem cut_hi {xs : List α} {k : Nat} : cutL xs none (some (k : Int)) = xs.take k := by
  unfold cutL
  rw [HT.sIx_nat]
  simp [HT.sIx, List.take_eq_take_iff]
theorem cut_lo {xs : List α} {k : Nat} : cutL xs (some (k : Int)) none = xs.drop k := by
  unfold cutL
  rw [HT.sIx_nat]
  simp only [HT.sIx]
  by_cases h : k ≤ xs.length
  · rw [Nat.min_eq_left h, List.take_of_length_le (by simp)]
  · rw [Nat.min_eq_right (by omega), Nat.sub_self, List.take_zero, List.drop_eq_nil_of_le (by omega)]
theorem cut_lohi {xs : List α} {j k : Nat} (h : j ≤ k) : cutL xs (some (j : Int)) (some (k : Int)) = (xs.drop j).take (k - j) := by
  unfold cutL
  rw [HT.sIx_nat, HT.sIx_nat]
  by_cases h1 : k ≤ xs.length
  · rw [Nat.min_eq_left h1, Nat.min_eq_left (by omega)]
  · by_cases h2 : j ≤ xs.length
    · rw [Nat.min_eq_right (by omega), Nat.min_eq_left h2, List.take_of_length_le (by simp), List.take_of_length_le (by simp; omega)]
    · rw [Nat.min_eq_right (by omega), Nat.min_eq_right (by omega), List.drop_eq_nil_of_le (by omega), List.drop_eq_nil_of_le (by omega)]
      simp
theorem cut_hi_of {xs : List α} {i : Int} (h : 0 ≤ i) : cutL xs none (some i) = xs.take i.toNat := by
  obtain ⟨k, rfl⟩ := Int.eq_ofNat_of_zero_le h
  exact cut_hi
theorem cut_lo_of {xs : List α} {i : Int} (h : 0 ≤ i) : cutL xs (some i) none = xs.drop i.toNat := by
  obtain ⟨k, rfl⟩ := Int.eq_ofNat_of_zero_le h
  exact cut_lo
end
/-! ### a list of texts -/
def lS (l : List Str) : D := .lst (l.map .str)
section
variable {l m : List Str} {x y : Str}
@[simp] theorem flat_str : flat (.str x) = true := id rfl
@[simp] theorem flat_int {i : Int} : flat (.int i) = true := id rfl
@[simp] theorem flat_bl {i : Bool} : flat (.bl i) = true := id rfl
@[simp] theorem flat_non : flat .non = true := id rfl
@[simp] theorem flat_lst {ds : List D} : flat (.lst ds) = false := id rfl
@[simp] theorem flat_lS : flat (lS l) = false := id rfl
@[simp] theorem flat_tup {ds : List D} : flat (.tup ds) = flats ds := id rfl
@[simp] theorem flats_nil : flats [] = true := id rfl
@[simp] theorem flats_cons {d : D} {ds : List D} : flats (d :: ds) = (flat d && flats ds) := id rfl
@[simp] theorem flats_str : flats (l.map .str) = true := by induction l with | nil => rfl | cons x l ih => simp [ih]
@[simp] theorem nod_str : nod (.str x) = true := id rfl
@[simp] theorem nod_int {i : Int} : nod (.int i) = true := id rfl
@[simp] theorem nod_bl {i : Bool} : nod (.bl i) = true := id rfl
@[simp] theorem nod_non : nod .non = true := id rfl
@[simp] theorem nod_tup {ds : List D} : nod (.tup ds) = nods ds := id rfl
@[simp] theorem nod_lst {ds : List D} : nod (.lst ds) = nods ds := id rfl
@[simp] theorem nods_nil : nods [] = true := id rfl
@[simp] theorem nods_cons {d : D} {ds : List D} : nods (d :: ds) = (nod d && nods ds) := id rfl
@[simp] theorem nods_str : nods (l.map .str) = true := by induction l with | nil => rfl | cons x l ih => simp [ih]
@[simp] theorem nod_lS : nod (lS l) = true := nods_str
@[simp] theorem dep_str : dep (.str x) = 0 := id rfl
@[simp] theorem dep_int {i : Int} : dep (.int i) = 0 := id rfl
@[simp] theorem dep_bl {i : Bool} : dep (.bl i) = 0 := id rfl
@[simp] theorem dep_non : dep .non = 0 := id rfl
@[simp] theorem dep_tup {ds : List D} : dep (.tup ds) = deps ds + 1 := id rfl
@[simp] theorem dep_lst {ds : List D} : dep (.lst ds) = deps ds + 1 := id rfl
@[simp] theorem deps_nil : deps [] = 0 := id rfl
@[simp] theorem deps_cons {d : D} {ds : List D} : deps (d :: ds) = max (dep d) (deps ds) := id rfl
@[simp] theorem deps_str : deps (l.map .str) = 0 := by induction l with | nil => rfl | cons x l ih => simp [ih]
@[simp] theorem dep_lS : dep (lS l) = 1 := by simp [lS]
@[simp] theorem deq_int {i j : Int} : deq (.int i) (.int j) = decide (i = j) := by simp only [deq, toP, PyData.eqv]; rfl
theorem eqvAll_str : ∀ {l m : List Str}, PyData.eqvAll (toPs (l.map .str)) (toPs (m.map .str)) = decide (l = m)
  | [], [] => by simp [toPs, PyData.eqvAll]
  | [], _ :: _ => by simp [toPs, PyData.eqvAll]
  | _ :: _, [] => by simp [toPs, PyData.eqvAll]
  | x :: l, y :: m => by
    simp only [List.map_cons, toPs, PyData.eqvAll, eqvAll_str (l := l) (m := m), toP, PyData.eqv, List.cons.injEq]
    rw [Bool.decide_and]
    congr 1
@[simp] theorem deq_str : deq (.str x) (.str y) = decide (x = y) := by simp only [deq, toP, PyData.eqv]; rfl
@[simp] theorem deq_lS : deq (lS l) (lS m) = decide (l = m) := by simp only [deq, lS, toP, PyData.eqv]; exact eqvAll_str
theorem deq_lst {ds es : List D} : deq (.lst ds) (.lst es) = PyData.eqvAll (toPs ds) (toPs es) := by simp only [deq, toP, PyData.eqv]
theorem deq_tup {ds es : List D} : deq (.tup ds) (.tup es) = PyData.eqvAll (toPs ds) (toPs es) := by simp only [deq, toP, PyData.eqv]
@[simp] theorem dereq2 {a b c d : D} : deq (.tup [a, b]) (.tup [c, d]) = (deq a c && deq b d) := by rw [deq_tup]; simp only [toPs, PyData.eqvAll, deq, Bool.and_true]
theorem size_line : sizeLine = 16777216 := rfl
end
end T
/-! T18: loops on data. -/
namespace T
open PySem PySem.Spec L2
section
variable {α β γ : Type} {tf : Tf} {body : Sv} {mk : α → D} {t : EvT} {f : Ev}
theorem forL_nil {en : En} : forL tf body [] en = .nx en := rfl
theorem forL_cons {d : D} {ds : List D} {en e1 : En} (h : tf d en = some e1) : forL tf body (d :: ds) en = (match body e1 with
      | .nx e2 => forL tf body ds e2
      | .ct e2 => forL tf body ds e2
      | .bk e2 => .nx e2
      | .rt s e2 => .rt s e2
      | .ex c e2 => .ex c e2
      | .no => .no) := by
  show (match tf d en with
    | none => Out.no
    | some e => match body e with
      | .nx e2 => forL tf body ds e2
      | .ct e2 => forL tf body ds e2
      | .bk e2 => .nx e2
      | .rt s e2 => .rt s e2
      | .ex c e2 => .ex c e2
      | .no => Out.no) = _
  rw [h]
theorem forL_fold (R : β → En → Prop) (step : β → α → β) : ∀ (xs : List α) (b : β) (en : En), R b en → (∀ b x en, x ∈ xs → R b en → ∃ e1 e2, tf (mk x) en = some e1 ∧ body e1 = .nx e2 ∧ R (step b x) e2) →
    ∃ en', forL tf body (xs.map mk) en = .nx en' ∧ R (xs.foldl step b) en'
  | [], b, en, r, h => ⟨en, rfl, r⟩
  | x :: xs, b, en, r, h => by
    obtain ⟨e1, e2, h1, h2, r2⟩ := h b x en List.mem_cons_self r
    obtain ⟨en', h3, r3⟩ := forL_fold R step xs (step b x) e2 r2 fun b y en m q => h b y en (List.mem_cons_of_mem _ m) q
    refine ⟨en', ?_, r3⟩
    rw [List.map_cons, forL_cons h1, h2]
    exact h3
/-- a walk that may end early -/
def sumL (step : β → α → Sum γ β) : List α → β → Sum γ β
  | [], b => .inr b
  | x :: xs, b => match step b x with
    | .inl g => .inl g
    | .inr b' => sumL step xs b'
theorem forL_sum (R : β → En → Prop) (step : β → α → Sum γ β) (S : γ → Sl) : ∀ (xs : List α) (b : β) (en : En), R b en → (∀ b x en, x ∈ xs → R b en → ∃ e1, tf (mk x) en = some e1 ∧ match step b x with
      | .inl g => ∃ e2, body e1 = .rt (S g) e2
      | .inr b' => ∃ e2, body e1 = .nx e2 ∧ R b' e2) →
    match sumL step xs b with
    | .inl g => ∃ e2, forL tf body (xs.map mk) en = .rt (S g) e2
    | .inr b' => ∃ e2, forL tf body (xs.map mk) en = .nx e2 ∧ R b' e2
  | [], b, en, r, h => ⟨en, rfl, r⟩
  | x :: xs, b, en, r, h => by
    obtain ⟨e1, h1, h2⟩ := h b x en List.mem_cons_self r
    unfold sumL
    cases q : step b x with
    | inl g =>
      rw [q] at h2
      obtain ⟨e2, h2⟩ := h2
      exact ⟨e2, by rw [List.map_cons, forL_cons h1, h2]⟩
    | inr b' =>
      rw [q] at h2
      obtain ⟨e2, h2, r2⟩ := h2
      have z := forL_sum R step S xs b' e2 r2 fun b y en m q => h b y en (List.mem_cons_of_mem _ m) q
      dsimp only
      cases w : sumL step xs b' with
      | inl g =>
        rw [w] at z
        obtain ⟨e3, z⟩ := z
        exact ⟨e3, by rw [List.map_cons, forL_cons h1, h2]; exact z⟩
      | inr b2 =>
        rw [w] at z
        obtain ⟨e3, z, r3⟩ := z
        exact ⟨e3, by rw [List.map_cons, forL_cons h1, h2]; exact z, r3⟩
theorem forL_rel {α : Type} {tf : Tf} {body : Sv} {mk : α → D} (R : List α → En → Prop) (Q : Sl → En → Prop) (xs : List α) (h : ∀ t x u en, xs = t ++ x :: u → R t en → ∃ e1, tf (mk x) en = some e1 ∧ ((∃ e2, body e1 = .nx e2 ∧ R (t ++ [x]) e2) ∨ ∃ s e2, body e1 = .rt s e2 ∧ Q s e2)) :
    ∀ en, R [] en → (∃ en', forL tf body (xs.map mk) en = .nx en' ∧ R xs en') ∨ ∃ s e2, forL tf body (xs.map mk) en = .rt s e2 ∧ Q s e2 := by
  have go : ∀ (u t : List α) (en : En), xs = t ++ u → R t en → (∃ en', forL tf body (u.map mk) en = .nx en' ∧ R xs en') ∨ ∃ s e2, forL tf body (u.map mk) en = .rt s e2 ∧ Q s e2 := by
    intro u
    induction u with
    | nil => intro t en e r; exact .inl ⟨en, rfl, by rw [e, List.append_nil]; exact r⟩
    | cons x u ih =>
      intro t en e r
      obtain ⟨e1, h1, h2⟩ := h t x u en e r
      rw [List.map_cons, forL_cons h1]
      rcases h2 with ⟨e2, h2, r2⟩ | ⟨s, e2, h2, q⟩
      · rw [h2]
        exact ih (t ++ [x]) e2 (by rw [e]; simp) r2
      · rw [h2]
        exact .inr ⟨s, e2, rfl, q⟩
  exact fun en r => go xs [] en rfl r
theorem forL_pre {α : Type} {tf : Tf} {body : Sv} {mk : α → D} (R : List α → En → Prop) (xs : List α) (h : ∀ t x u en, xs = t ++ x :: u → R t en → ∃ e1 e2, tf (mk x) en = some e1 ∧ body e1 = .nx e2 ∧ R (t ++ [x]) e2) (en : En) (r : R [] en) :
    ∃ en', forL tf body (xs.map mk) en = .nx en' ∧ R xs en' := by
  rcases forL_rel R (fun _ _ => False) xs (fun t x u en e r => by
    obtain ⟨e1, e2, h1, h2, r2⟩ := h t x u en e r
    exact ⟨e1, h1, .inl ⟨e2, h2, r2⟩⟩) en r with z | ⟨_, _, _, z⟩
  · exact z
  · exact z.elim
theorem forL_nmR {α : Type} {k : Nat} {body : Sv} {mk : α → D} (R : List α → En → Prop) (Q : Sl → En → Prop) (xs : List α) (h : ∀ t x u en, xs = t ++ x :: u → R t en → k < en.length ∧ ((∃ e2, body (en.set k (.fz (mk x))) = .nx e2 ∧ R (t ++ [x]) e2) ∨ ∃ s e2, body (en.set k (.fz (mk x))) = .rt s e2 ∧ Q s e2)) :
    ∀ en, R [] en → (∃ en', forL (tfName k) body (xs.map mk) en = .nx en' ∧ R xs en') ∨ ∃ s e2, forL (tfName k) body (xs.map mk) en = .rt s e2 ∧ Q s e2 :=
  forL_rel R Q xs fun t x u en e r => by
    obtain ⟨hk, h2⟩ := h t x u en e r
    exact ⟨_, by rw [x_tfName, List.getElem?_eq_getElem hk]; rfl, h2⟩
theorem forL_nm {α : Type} {k : Nat} {body : Sv} {mk : α → D} (R : List α → En → Prop) (xs : List α) (h : ∀ t x u en, xs = t ++ x :: u → R t en → k < en.length ∧ ∃ e2, body (en.set k (.fz (mk x))) = .nx e2 ∧ R (t ++ [x]) e2) (en : En) (r : R [] en) :
    ∃ en', forL (tfName k) body (xs.map mk) en = .nx en' ∧ R xs en' :=
  forL_pre R xs (fun t x u en e r => by
    obtain ⟨hk, e2, h2, r2⟩ := h t x u en e r
    exact ⟨_, e2, by rw [x_tfName, List.getElem?_eq_getElem hk]; rfl, h2, r2⟩) en r
theorem whL_run (R : β → En → Prop) (c : β → Bool) (step : β → β) (μ : β → Nat) (h : ∀ b en, R b en → ∃ e1, t en = .ok (c b) e1 ∧ if c b = true then ∃ e2, body e1 = .nx e2 ∧ R (step b) e2 ∧ μ (step b) < μ b else R b e1) :
    ∀ (n : Nat) (b : β) (en : En), R b en → μ b < n → ∃ en' b', whL t body n en = .nx en' ∧ R b' en' ∧ c b' = false
  | 0, b, en, r, l => absurd l (by omega)
  | n + 1, b, en, r, l => by
    obtain ⟨e1, h1, h2⟩ := h b en r
    unfold whL
    rw [h1]
    cases q : c b with
    | false =>
      rw [q, if_neg Bool.false_ne_true] at h2
      exact ⟨e1, b, rfl, h2, q⟩
    | true =>
      rw [q, if_pos rfl] at h2
      obtain ⟨e2, h3, r2, l2⟩ := h2
      dsimp only
      rw [h3]
      exact whL_run R c step μ h n (step b) e2 r2 (by omega)
theorem lcL_map {ks : List Nat} (R : En → Prop) (F : α → D) : ∀ (xs : List α) (acc : List D) (en : En), R en → (∀ x en, x ∈ xs → R en → ∃ e1 s e3, tf (mk x) en = some e1 ∧ f e1 = .ok s e3 ∧ shr1 s = some (F x) ∧ R (clr ks e3)) → acc.length + xs.length ≤ sizeLine →
    ∃ en', lcL false ks tf tYes1 f (xs.map mk) acc en = .ok (lcEnd false (acc ++ xs.map F)) en' ∧ R en'
  | [], acc, en, r, h, l => ⟨en, by rw [List.map_nil, List.map_nil, List.append_nil]; rfl, r⟩
  | x :: xs, acc, en, r, h, l => by
    obtain ⟨e1, s, e3, h1, h2, h3, r2⟩ := h x en List.mem_cons_self r
    rw [List.length_cons] at l
    obtain ⟨en', h4, r3⟩ := lcL_map (ks := ks) R F xs (acc ++ [F x]) (clr ks e3) r2 (fun y en m q => h y en (List.mem_cons_of_mem _ m) q) (by rw [List.length_append, List.length_singleton]; omega)
    refine ⟨en', ?_, r3⟩
    rw [List.map_cons, List.map_cons]
    unfold lcL
    simp only [h1, tYes1, h2, h3, if_neg Bool.false_ne_true]
    rw [if_pos (by omega), h4]
    simp
end
theorem rangeD_map {lo : Int} {n : Nat} : rangeD lo n = (List.range n).map fun i => .int (lo + (i : Nat)) := rfl
theorem signs_map {z : Str} : signs z = z.cps.toList.map fun c => .str ⟨#[c]⟩ := rfl
end T
/-! M1: endless words with a stem and a ring; least forms. -/
namespace M
section
variable {α : Type} [DecidableEq α] [Inhabited α]
def rot (l : List α) (k : Nat) : List α := l.drop k ++ l.take k
/-- what stands at a place of the endless word -/
def wd (s r : List α) (n : Nat) : α := if n < s.length then s.getD n default else r.getD ((n - s.length) % r.length) default
def pre (w : Nat → α) (n : Nat) : List α := (List.range n).map w
theorem pre_succ {w : Nat → α} {n : Nat} : pre w (n + 1) = pre w n ++ [w n] := by simp [pre, List.range_succ]
theorem pre_len {w : Nat → α} {n : Nat} : (pre w n).length = n := by simp [pre]
theorem pre_get {w : Nat → α} {n i : Nat} (h : i < n) : (pre w n)[i]? = some (w i) := by simp [pre, h]
theorem pre_app {w : Nat → α} {n m : Nat} : pre w (n + m) = pre w n ++ pre (fun i => w (n + i)) m := by
  simp [pre, List.range_add]
theorem wd_lt {s r : List α} {n : Nat} (h : n < s.length) : wd s r n = s.getD n default := if_pos h
theorem wd_ge {s r : List α} {n : Nat} (h : s.length ≤ n) : wd s r n = r.getD ((n - s.length) % r.length) default := if_neg (by omega)
theorem wd_per {s r : List α} {n : Nat} (h : s.length ≤ n) : wd s r (n + r.length) = wd s r n := by
  rw [wd_ge h, wd_ge (by omega)]
  congr 1
  rw [show n + r.length - s.length = (n - s.length) + r.length by omega, Nat.add_mod_right]
theorem wd_pers {s r : List α} {n k : Nat} (h : s.length ≤ n) : wd s r (n + k * r.length) = wd s r n := by
  induction k with
  | zero => simp
  | succ k ih => rw [Nat.succ_mul, ← Nat.add_assoc, wd_per (by omega), ih]
theorem wd_ring {s r : List α} {i : Nat} (h : i < r.length) : wd s r (s.length + i) = r.getD i default := by
  rw [wd_ge (by omega), show s.length + i - s.length = i by omega, Nat.mod_eq_of_lt h]
theorem getD_get {l : List α} {i : Nat} (h : i < l.length) : l[i]? = some (l.getD i default) := by
  simp [List.getD, List.getElem?_eq_getElem h]
theorem ext_getD {l m : List α} (h : l.length = m.length) (h2 : ∀ i, i < l.length → l.getD i default = m.getD i default) : l = m := by
  apply List.ext_getElem? 
  intro i
  by_cases hi : i < l.length
  · rw [getD_get hi, getD_get (by omega), h2 i hi]
  · rw [List.getElem?_eq_none (by omega), List.getElem?_eq_none (by omega)]
theorem pre_stem {s r : List α} : pre (wd s r) s.length = s := by
  apply ext_getD pre_len
  intro i hi
  rw [pre_len] at hi
  have := pre_get (w := wd s r) hi
  rw [getD_get (by rw [pre_len]; exact hi)] at this
  rw [Option.some.inj this, wd_lt hi]
theorem pre_ring {s r : List α} {k : Nat} : pre (fun i => wd s r (s.length + k * r.length + i)) r.length = r := by
  apply ext_getD pre_len
  intro i hi
  rw [pre_len] at hi
  have := pre_get (w := fun i => wd s r (s.length + k * r.length + i)) hi
  rw [getD_get (by rw [pre_len]; exact hi)] at this
  rw [Option.some.inj this]
  rw [show s.length + k * r.length + i = (s.length + i) + k * r.length by omega, wd_pers (by omega), wd_ring hi]
theorem flat_succ {r : List α} {k : Nat} : (List.replicate (k + 1) r).flatten = (List.replicate k r).flatten ++ r := by
  rw [List.replicate_succ']
  simp
/-- the word's beginning, by whole rings -/
theorem pre_un {s r : List α} {k : Nat} : pre (wd s r) (s.length + k * r.length) = s ++ (List.replicate k r).flatten := by
  induction k with
  | zero => simp [pre_stem]
  | succ k ih =>
    rw [Nat.succ_mul, ← Nat.add_assoc, pre_app, ih, pre_ring, flat_succ, List.append_assoc]
theorem rot_len {l : List α} {k : Nat} : (rot l k).length = l.length := by simp [rot]; omega
theorem rot_get {l : List α} {k i : Nat} (hk : k ≤ l.length) (hi : i < l.length) : (rot l k).getD i default = l.getD ((i + k) % l.length) default := by
  unfold rot
  by_cases h : i < l.length - k
  · rw [Nat.mod_eq_of_lt (by omega)]
    simp [List.getD, List.getElem?_append, h, Nat.add_comm k i]
    rw [List.getElem?_eq_getElem (by omega)]
    rfl
  · have e : (i + k) % l.length = i + k - l.length := by
      rw [show i + k = (i + k - l.length) + l.length by omega, Nat.add_mod_right, Nat.mod_eq_of_lt (by omega)]
      omega
    rw [e]
    simp [List.getD, List.getElem?_append, h]
    rw [List.getElem?_take_of_lt (by omega)]
    congr 2
    omega
/-- some of the ring told with the stem -/
theorem wd_rot {s r : List α} {a : Nat} (ha : a ≤ r.length) (hr : 0 < r.length) (n : Nat) : wd (s ++ r.take a) (rot r a) n = wd s r n := by
  have hl : (s ++ r.take a).length = s.length + a := by simp; omega
  by_cases h1 : n < s.length
  · rw [wd_lt (by omega), wd_lt h1]
    simp [List.getD, List.getElem?_append, h1]
  · by_cases h2 : n < s.length + a
    · rw [wd_lt (by omega), wd_ge (by omega), Nat.mod_eq_of_lt (by omega)]
      simp [List.getD, List.getElem?_append, h1]
      rw [List.getElem?_take_of_lt (by omega)]
    · rw [wd_ge (by omega), wd_ge (by omega), rot_len, hl, rot_get ha (Nat.mod_lt _ hr)]
      congr 1
      rw [Nat.mod_add_mod]
      congr 1
      omega

/-! ### least forms -/
def Prim (r : List α) : Prop := ∀ p, 1 ≤ p → p < r.length → r.length % p = 0 → rot r p ≠ r
def Pull (s r : List α) : Prop := s = [] ∨ s.getLast? ≠ r.getLast?
theorem per_gcd {w : Nat → α} {N : Nat} : ∀ p q : Nat, (∀ n, N ≤ n → w (n + p) = w n) → (∀ n, N ≤ n → w (n + q) = w n) → ∀ n, N ≤ n → w (n + Nat.gcd p q) = w n := by
  intro p q
  induction p, q using Nat.gcd.induction with
  | H0 q => intro _ h2; simpa using h2
  | H1 p q hp ih =>
    intro h1 h2
    rw [Nat.gcd_rec]
    refine ih ?_ h1
    have mul : ∀ k n, N ≤ n → w (n + p * k) = w n := by
      intro k
      induction k with
      | zero => simp
      | succ k ihk =>
        intro n hn
        rw [Nat.mul_succ, ← Nat.add_assoc, h1 _ (by omega), ihk n hn]
    intro n hn
    rw [← mul (q / p) (n + q % p) (by omega), Nat.add_assoc, Nat.mod_add_div, h2 n hn]
theorem prim_per {s r : List α} {N p : Nat} (hr : 0 < r.length) (P : Prim r) (hp : 0 < p) (hd : r.length % p = 0) (h : ∀ n, N ≤ n → wd s r (n + p) = wd s r n) : p = r.length := by
  have hle : p ≤ r.length := Nat.le_of_dvd hr (Nat.dvd_of_mod_eq_zero hd)
  by_cases hlt : p < r.length
  · exfalso
    apply P p hp hlt hd
    apply ext_getD rot_len
    intro i hi
    rw [rot_len] at hi
    rw [rot_get hle hi]
    have h1 := h (s.length + i + N * r.length) (by have : N ≤ N * r.length := Nat.le_mul_of_pos_right N hr; omega)
    rw [wd_pers (by omega), wd_ring hi, show s.length + i + N * r.length + p = s.length + (i + p) + N * r.length by omega, wd_pers (by omega), wd_ge (by omega), show s.length + (i + p) - s.length = i + p by omega] at h1
    exact h1
  · omega
theorem least_len {s r s' r' : List α} (h' : 0 < r'.length) (P' : Pull s' r') (e : r.length = r'.length) (hw : ∀ n, wd s r n = wd s' r' n) : s'.length ≤ s.length := by
  by_cases hlt : s.length < s'.length
  · exfalso
    rcases P' with P' | P'
    · rw [P'] at hlt; simp at hlt
    · apply P'
      have h1 : s'.getLast? = some (wd s' r' (s'.length - 1)) := by
        rw [List.getLast?_eq_getElem?, wd_lt (by omega), getD_get (by omega)]
      have h2 : r'.getLast? = some (wd s' r' (s'.length - 1 + r'.length)) := by
        rw [List.getLast?_eq_getElem?, wd_ge (by omega), getD_get (by omega)]
        congr 2
        rw [show s'.length - 1 + r'.length - s'.length = r'.length - 1 by omega, Nat.mod_eq_of_lt (by omega)]
      rw [h1, h2, ← hw, ← hw, ← e, wd_per (by omega)]
  · omega
theorem least_unique {s r s' r' : List α} (h : 0 < r.length) (h' : 0 < r'.length) (Q : Prim r) (Q' : Prim r') (P : Pull s r) (P' : Pull s' r') (hw : ∀ n, wd s r n = wd s' r' n) : s = s' ∧ r = r' := by
  have hg : ∀ n, max s.length s'.length ≤ n → wd s r (n + Nat.gcd r.length r'.length) = wd s r n :=
    per_gcd _ _ (fun n hn => wd_per (by omega)) fun n hn => by rw [hw, hw, wd_per (by omega)]
  have gp : 0 < Nat.gcd r.length r'.length := Nat.gcd_pos_of_pos_left _ h
  have e1 := prim_per h Q gp (Nat.mod_eq_zero_of_dvd (Nat.gcd_dvd_left _ _)) hg
  have e2 := prim_per h' Q' gp (Nat.mod_eq_zero_of_dvd (Nat.gcd_dvd_right _ _)) (N := max s.length s'.length) fun n hn => by rw [← hw, ← hw, hg n hn]
  have e : r.length = r'.length := e1.symm.trans e2
  have el : s.length = s'.length := Nat.le_antisymm (least_len h P e.symm fun n => (hw n).symm) (least_len h' P' e hw)
  refine ⟨ext_getD el fun i hi => ?_, ext_getD e fun i hi => ?_⟩
  · have := hw i
    rwa [wd_lt hi, wd_lt (by omega)] at this
  · have := hw (s.length + i)
    rw [wd_ring hi, el, wd_ring (by omega)] at this
    exact this
end
end M
/-! M2: the least form as the program finds it. -/
namespace M
section
variable {α : Type} [DecidableEq α] [Inhabited α]
def per (l : List α) (m : Nat) : Bool := decide (l.length % m = 0) && decide (l.drop m = l.take (l.length - m))
/-- a ring's part that tells the whole -/
theorem per_get {l : List α} {m : Nat} (hm : 0 < m) (h : l.drop m = l.take (l.length - m)) : ∀ i, i < l.length → l.getD i default = (l.take m).getD (i % m) default := by
  intro i
  induction i using Nat.strongRecOn with
  | _ i ih =>
    intro hi
    by_cases h1 : i < m
    · rw [Nat.mod_eq_of_lt h1]
      simp [List.getD, List.getElem?_take_of_lt h1]
    · have e : l.getD i default = l.getD (i - m) default := by
        have z : (l.drop m)[i - m]? = (l.take (l.length - m))[i - m]? := by rw [h]
        rw [List.getElem?_drop, List.getElem?_take_of_lt (by omega), show m + (i - m) = i by omega] at z
        simp [List.getD, z]
      rw [e, ih (i - m) (by omega) (by omega)]
      congr 1
      conv => rhs; rw [show i = (i - m) + m by omega, Nat.add_mod_right]
theorem wd_take {s l : List α} {m : Nat} (hm : 0 < m) (hl : m ≤ l.length) (h : per l m = true) (n : Nat) : wd s (l.take m) n = wd s l n := by
  unfold per at h
  rw [Bool.and_eq_true, decide_eq_true_iff, decide_eq_true_iff] at h
  by_cases h1 : n < s.length
  · rw [wd_lt h1, wd_lt h1]
  · rw [wd_ge (by omega), wd_ge (by omega)]
    have e : (l.take m).length = m := by simp; omega
    rw [e, per_get hm h.2 _ (Nat.mod_lt _ (by omega)), Nat.mod_mod_of_dvd _ (Nat.dvd_of_mod_eq_zero h.1)]
theorem per_of_rot {l : List α} {p : Nat} (hp : p < l.length) (hd : l.length % p = 0) (h : rot l p = l) : per l p = true := by
  unfold per
  rw [Bool.and_eq_true, decide_eq_true_iff, decide_eq_true_iff]
  refine ⟨hd, ?_⟩
  have z : (rot l p).take (l.length - p) = l.take (l.length - p) := by rw [h]
  unfold rot at z
  rw [List.take_append_of_le_length (by simp)] at z
  rw [← z, List.take_of_length_le (by simp)]
theorem prim_of {l : List α} (h : ∀ p, 1 ≤ p → p < l.length → per l p = false) : Prim l := by
  intro p h1 h2 h3 h4
  have := per_of_rot h2 h3 h4
  rw [h p h1 h2] at this
  cases this
theorem prim_take {l : List α} {m : Nat} (hm : 0 < m) (hl : m ≤ l.length) (h : per l m = true) (hmin : ∀ p, 1 ≤ p → p < m → per l p = false) : Prim (l.take m) := by
  have e : (l.take m).length = m := by simp; omega
  have hd : l.length % m = 0 := by
    unfold per at h
    rw [Bool.and_eq_true, decide_eq_true_iff] at h
    exact h.1
  intro p h1 h2 h3 h4
  rw [e] at h2 h3
  have hd2 : l.length % p = 0 := Nat.mod_eq_zero_of_dvd (Nat.dvd_trans (Nat.dvd_of_mod_eq_zero h3) (Nat.dvd_of_mod_eq_zero hd))
  have key : per l p = true := by
    unfold per
    rw [Bool.and_eq_true, decide_eq_true_iff, decide_eq_true_iff]
    refine ⟨hd2, ?_⟩
    apply ext_getD (by simp)
    intro i hi
    rw [List.length_drop] at hi
    have q : ∀ n, wd ([] : List α) l (n + p) = wd [] l n := fun n => by
      rw [← wd_take hm hl h, ← wd_take hm hl h, wd_ge (by simp), wd_ge (by simp)]
      have z := rot_get (l := l.take m) (k := p) (i := n % m) (by omega) (by rw [e]; exact Nat.mod_lt _ hm)
      rw [h4, e, Nat.mod_add_mod] at z
      simp only [List.length_nil, Nat.sub_zero, e]
      exact z.symm
    have q1 := q i
    rw [wd_ge (by simp), wd_ge (by simp)] at q1
    simp only [List.length_nil, Nat.sub_zero] at q1
    rw [Nat.mod_eq_of_lt (by omega), Nat.mod_eq_of_lt (by omega)] at q1
    simp only [List.getD, List.getElem?_drop, List.getElem?_take_of_lt (show i < l.length - p by omega), Nat.add_comm p i]
    exact q1
  rw [hmin p h1 h2] at key
  cases key
/-- what the search of a ring's least part gives -/
structure RingOk (l r : List α) : Prop where
  pos : 0 < r.length
  le : r.length ≤ l.length
  prim : Prim r
  wd : ∀ s n, wd s r n = wd s l n
  pre : ∃ m, r = l.take m
/-- one step of the ring told backwards -/
def back (r : List α) (k : Nat) : Nat := ((0 - 1 - (k : Int)) % (r.length : Int)).toNat
def turn (r : List α) (k : Nat) : Nat := ((0 - (k : Int)) % (r.length : Int)).toNat
theorem turn_lt {r : List α} {k : Nat} (h : 0 < r.length) : turn r k < r.length := by
  unfold turn
  have := Int.emod_nonneg (0 - (k : Int)) (b := r.length) (by omega)
  have := Int.emod_lt_of_pos (0 - (k : Int)) (b := r.length) (by omega)
  omega
theorem turn_succ {r : List α} {k : Nat} (h : 0 < r.length) : turn r (k + 1) = if turn r k = 0 then r.length - 1 else turn r k - 1 := by
  have hl := turn_lt (k := k) h
  unfold turn at hl ⊢
  have e1 := Int.emod_nonneg (0 - (k : Int)) (b := r.length) (by omega)
  have e2 := Int.emod_lt_of_pos (0 - (k : Int)) (b := r.length) (by omega)
  have e3 : (0 - ((k + 1 : Nat) : Int)) % (r.length : Int) = ((0 - (k : Int)) % (r.length : Int) - 1) % (r.length : Int) := by
    rw [Int.sub_emod ((0 - (k : Int)) % (r.length : Int)), Int.emod_emod_of_dvd _ (Int.dvd_refl _), ← Int.sub_emod]
    congr 1
    omega
  rw [e3]
  generalize (0 - (k : Int)) % (r.length : Int) = z at *
  split
  · rename_i hz
    have : z = 0 := by omega
    subst this
    rw [show (0 - 1 : Int) = -1 by rfl, ← Int.add_emod_right, Int.emod_eq_of_lt (by omega) (by omega)]
    omega
  · rw [Int.emod_eq_of_lt (by omega) (by omega)]
    omega
theorem back_eq {r : List α} {k : Nat} (h : 0 < r.length) : back r k = turn r (k + 1) := by
  unfold back turn
  congr 2
  omega
/-- pulling one thing back into the ring -/
theorem rot_back {r : List α} {j j' : Nat} (h : 0 < r.length) (hj : j < r.length) (hj' : j' = if j = 0 then r.length - 1 else j - 1) : rot (rot r j') 1 = rot r j ∧ (rot r j').take 1 = [r.getD j' default] := by
  have hl : j' < r.length := by split at hj' <;> omega
  constructor
  · apply ext_getD (by simp [rot_len])
    intro i hi
    rw [rot_len, rot_len] at hi
    rw [rot_get (by rw [rot_len]; omega) (by rw [rot_len]; exact hi), rot_len, rot_get (by omega) (Nat.mod_lt _ h), rot_get (by omega) hi, Nat.mod_add_mod]
    congr 1
    split at hj'
    · rename_i z
      subst z hj'
      rw [show i + 1 + (r.length - 1) = i + r.length by omega, Nat.add_mod_right]
      simp
    · subst hj'
      congr 1
      omega
  · unfold rot
    rw [List.take_append_of_le_length (by simp; omega), List.drop_eq_getElem_cons hl]
    simp only [List.take_succ_cons, List.take_zero, List.getD, List.getElem?_eq_getElem hl, Option.getD_some]
theorem wd_pull {s r : List α} {m k : Nat} (h : 0 < r.length) (hm : k + m + 1 = s.length) (he : s.getD m default = r.getD (back r k) default) (n : Nat) : wd (s.take m) (rot r (turn r (k + 1))) n = wd (s.take (m + 1)) (rot r (turn r k)) n := by
  obtain ⟨e1, e2⟩ := rot_back h (turn_lt (k := k) h) (turn_succ h)
  rw [← wd_rot (a := 1) (by rw [rot_len]; omega) (by rw [rot_len]; exact h) n, e1, e2]
  congr 1
  rw [List.take_add_one, getD_get (by omega), he, back_eq h]
  rfl
theorem rot_prim {r : List α} {j : Nat} (hj : j ≤ r.length) (h : Prim r) : Prim (rot r j) := by
  intro p h1 h2 h3 h4
  rw [rot_len] at h2 h3
  refine h p h1 h2 h3 ?_
  apply ext_getD rot_len
  intro i hi
  rw [rot_len] at hi
  have hr : 0 < r.length := by omega
  have z := rot_get (l := rot r j) (k := p) (i := (i + (r.length - j)) % r.length) (by rw [rot_len]; omega) (by rw [rot_len]; exact Nat.mod_lt _ hr)
  rw [h4, rot_len, rot_get hj (Nat.mod_lt _ hr), rot_get hj (Nat.mod_lt _ hr), Nat.mod_add_mod, Nat.mod_add_mod, Nat.add_assoc ((i + (r.length - j)) % r.length) p j, Nat.mod_add_mod] at z
  rw [rot_get (by omega) hi]
  rw [show i + (r.length - j) + j = i + r.length by omega, Nat.add_mod_right, Nat.mod_eq_of_lt hi] at z
  rw [show i + (r.length - j) + (p + j) = i + p + r.length by omega, Nat.add_mod_right] at z
  exact z.symm
/-- what the least form keeps -/
structure LeastOk (s0 r0 s r : List α) : Prop where
  pos : 0 < r.length
  lr : r.length ≤ r0.length
  ls : s.length ≤ s0.length
  prim : Prim r
  pull : Pull s r
  wd : ∀ n, wd s r n = wd s0 r0 n
end
end M
/-! M3: words told thin. -/
namespace M
section
variable {α : Type} [DecidableEq α] [Inhabited α]
def thStep (acc : List α) (x : α) : List α := if acc.getLast? = some x then acc else acc ++ [x]
def thin (l : List α) : List α := l.foldl thStep []
theorem thin_snoc {l : List α} {x : α} : thin (l ++ [x]) = thStep (thin l) x := by simp [thin, List.foldl_append]
theorem thStep_last {l : List α} {x : α} : (thStep l x).getLast? = some x := by
  unfold thStep
  split
  · assumption
  · simp
theorem thin_last (l : List α) : (thin l).getLast? = l.getLast? := by
  rcases List.eq_nil_or_concat l with rfl | ⟨m, x, rfl⟩
  · rfl
  · rw [List.concat_eq_append, thin_snoc, thStep_last]; simp
theorem thin_ne {l : List α} (h : l ≠ []) : thin l ≠ [] := by
  intro e
  have := thin_last l
  rw [e] at this
  exact h (by simpa using this.symm)
theorem snoc_ind {P : List α → Prop} (h0 : P []) (h1 : ∀ l x, P l → P (l ++ [x])) (l : List α) : P l := by
  have : ∀ n, ∀ l : List α, l.length = n → P l := by
    intro n
    induction n with
    | zero => intro l hl; rw [List.eq_nil_of_length_eq_zero hl]; exact h0
    | succ n ih =>
      intro l hl
      rcases List.eq_nil_or_concat l with rfl | ⟨m, x, rfl⟩
      · exact h0
      · rw [List.concat_eq_append] at hl ⊢
        exact h1 m x (ih m (by simpa using hl))
  exact this _ l rfl
theorem thin_pre (l m : List α) : thin l <+: thin (l ++ m) := by
  induction m using snoc_ind with
  | h0 => simp
  | h1 m x ih =>
    rw [← List.append_assoc, thin_snoc]
    unfold thStep
    split
    · exact ih
    · exact ih.trans (List.prefix_append _ _)
theorem thin_len (l : List α) : (thin l).length ≤ l.length := by
  induction l using snoc_ind with
  | h0 => simp [thin]
  | h1 m x ih =>
    rw [thin_snoc]
    unfold thStep
    split
    · simp; omega
    · simp; omega
theorem getLast_dropLast {l : List α} {x : α} (h : l.getLast? = some x) : l.dropLast ++ [x] = l := by
  rcases List.eq_nil_or_concat l with rfl | ⟨m, y, rfl⟩
  · simp at h
  · rw [List.concat_eq_append] at h ⊢
    simp at h
    subst h
    simp
theorem last_app {D T : List α} (h : T ≠ []) : (D ++ T).getLast? = T.getLast? := by
  rw [List.getLast?_append]
  cases e : T.getLast? with
  | none => exact absurd (by simpa using e) h
  | some x => rfl
theorem thStep_app {D T : List α} {y : α} (h : T ≠ []) : thStep (D ++ T) y = D ++ thStep T y := by
  unfold thStep
  rw [last_app h]
  split <;> simp
theorem thin_cons_ne {x : α} {Y : List α} : thin (x :: Y) ≠ [] := thin_ne (by simp)
theorem thin_app_cons (A : List α) (x : α) (Y : List α) : thin (A ++ x :: Y) = (thin (A ++ [x])).dropLast ++ thin (x :: Y) := by
  induction Y using snoc_ind with
  | h0 =>
    have e : thin [x] = [x] := rfl
    rw [e, getLast_dropLast]
    rw [thin_last]
    simp
  | h1 Y y ih =>
    rw [show A ++ x :: (Y ++ [y]) = (A ++ x :: Y) ++ [y] by simp, thin_snoc, ih, show x :: (Y ++ [y]) = (x :: Y) ++ [y] by rfl, thin_snoc (l := x :: Y), thStep_app thin_cons_ne]
theorem thin_app_ne {A : List α} {x : α} {Y : List α} (h : A.getLast? ≠ some x) : thin (A ++ x :: Y) = thin A ++ thin (x :: Y) := by
  rw [thin_app_cons, thin_snoc]
  unfold thStep
  rw [thin_last, if_neg h]
  simp
theorem thin_pow {x : α} {Y : List α} (h : (x :: Y).getLast? ≠ some x) : ∀ k, thin (List.replicate k (x :: Y)).flatten = (List.replicate k (thin (x :: Y))).flatten
  | 0 => rfl
  | k + 1 => by
    rw [flat_succ, flat_succ]
    by_cases hk : k = 0
    · subst hk
      simp
    · have e : (List.replicate k (x :: Y)).flatten.getLast? = (x :: Y).getLast? := by
        obtain ⟨j, rfl⟩ : ∃ j, k = j + 1 := ⟨k - 1, by omega⟩
        rw [flat_succ, last_app (by simp)]
      rw [thin_app_ne (by rw [e]; exact h), thin_pow h k]
/-- no two beside each other alike -/
def NA (l : List α) : Prop := ∀ i, i + 1 < l.length → l[i]? ≠ l[i + 1]?
theorem thin_na (l : List α) : NA (thin l) := by
  induction l using snoc_ind with
  | h0 => intro i hi; simp [thin] at hi
  | h1 m x ih =>
    rw [thin_snoc]
    unfold thStep
    split
    · exact ih
    · rename_i hx
      intro i hi
      rw [List.length_append, List.length_singleton] at hi
      by_cases h : i + 1 < (thin m).length
      · rw [List.getElem?_append_left (by omega), List.getElem?_append_left h]
        exact ih i h
      · rw [List.getElem?_append_left (by omega), List.getElem?_append_right (by omega), show i + 1 - (thin m).length = 0 by omega]
        rw [List.getLast?_eq_getElem?, show (thin m).length - 1 = i by omega] at hx
        exact hx
theorem thin_drop_last {A : List α} {x : α} : (thin (A ++ [x])).dropLast.getLast? ≠ some x := by
  intro h
  have na := thin_na (A ++ [x])
  have e := getLast_dropLast (l := thin (A ++ [x])) (x := x) (by rw [thin_last]; simp)
  generalize (thin (A ++ [x])).dropLast = t at *
  rw [← e] at na
  have hne : t ≠ [] := by rintro rfl; simp at h
  have hl := List.length_pos_iff.mpr hne
  have z := na (t.length - 1) (by simp; omega)
  rw [List.getLast?_eq_getElem?] at h
  rw [List.getElem?_append_left (by omega), h, List.getElem?_append_right (by omega), show t.length - 1 + 1 - t.length = 0 by omega] at z
  exact z rfl

/-! ### a word and its thin word -/
/-- v is the thin word of w -/
structure Thn (w v : Nat → α) : Prop where
  at_ : ∀ n i x, (thin (pre w n))[i]? = some x → v i = x
  end_ : ∀ k, (∀ n, (thin (pre w n)).length ≤ k + 1) → v (k + 1) = v k
theorem Thn.unique {w v v' : Nat → α} (h : Thn w v) (h' : Thn w v') : ∀ k, v k = v' k := by
  intro k
  induction k with
  | zero =>
    have e : (thin (pre w 1))[0]? = some (w 0) := rfl
    rw [h.at_ 1 0 _ e, h'.at_ 1 0 _ e]
  | succ k ih =>
    by_cases q : ∀ n, (thin (pre w n)).length ≤ k + 1
    · rw [h.end_ k q, h'.end_ k q, ih]
    · have ⟨n, hn⟩ : ∃ n, ¬ (thin (pre w n)).length ≤ k + 1 := Classical.not_forall.mp q
      have e := getD_get (l := thin (pre w n)) (i := k + 1) (by omega)
      rw [h.at_ n _ _ e, h'.at_ n _ _ e]
theorem pre_le {w : Nat → α} {n m : Nat} (h : n ≤ m) : pre w n <+: pre w m := by
  obtain ⟨d, rfl⟩ : ∃ d, m = n + d := ⟨m - n, by omega⟩
  rw [pre_app]
  exact List.prefix_append _ _
theorem thin_mono {l m : List α} (h : l <+: m) : thin l <+: thin m := by
  obtain ⟨t, rfl⟩ := h
  exact thin_pre l t
theorem get_pre {l m : List α} {i : Nat} {x : α} (h : l <+: m) (e : l[i]? = some x) : m[i]? = some x := by
  obtain ⟨t, rfl⟩ := h
  have : i < l.length := (List.getElem?_eq_some_iff.mp e).1
  rw [List.getElem?_append_left this, e]
/-- by whole rings -/
theorem Thn.of_un {s r : List α} {v : Nat → α} (hr : 0 < r.length) (h1 : ∀ k i x, (thin (s ++ (List.replicate k r).flatten))[i]? = some x → v i = x)
    (h2 : ∀ k, (∀ n, (thin (s ++ (List.replicate n r).flatten)).length ≤ k + 1) → v (k + 1) = v k) : Thn (wd s r) v := by
  constructor
  · intro n i x e
    have le : n ≤ s.length + n * r.length := by have : n ≤ n * r.length := Nat.le_mul_of_pos_right n hr; omega
    refine h1 n i x ?_
    rw [← pre_un]
    exact get_pre (thin_mono (pre_le le)) e
  · intro k h
    refine h2 k fun n => ?_
    rw [← pre_un]
    exact h _
theorem Thn.un_at {s r : List α} {v : Nat → α} (h : Thn (wd s r) v) {k i : Nat} {x : α} (e : (thin (s ++ (List.replicate k r).flatten))[i]? = some x) : v i = x := by
  rw [← pre_un] at e
  exact h.at_ _ _ _ e
theorem Thn.un_end {s r : List α} {v : Nat → α} (hr : 0 < r.length) (h : Thn (wd s r) v) {k : Nat} (q : ∀ n, (thin (s ++ (List.replicate n r).flatten)).length ≤ k + 1) : v (k + 1) = v k := by
  refine h.end_ k fun n => ?_
  have le : n ≤ s.length + n * r.length := by have : n ≤ n * r.length := Nat.le_mul_of_pos_right n hr; omega
  have := q n
  rw [← pre_un] at this
  exact Nat.le_trans (thin_mono (pre_le le)).length_le this

/-! ### stretched -/
inductive Stretch : List α → List α → Prop
  | nil : Stretch [] []
  | snoc {l l' : List α} (x : α) (m : Nat) : Stretch l l' → Stretch (l ++ [x]) (l' ++ List.replicate (m + 1) x)
theorem thin_rep {l : List α} {x : α} : ∀ m, thin (l ++ List.replicate (m + 1) x) = thin (l ++ [x])
  | 0 => rfl
  | m + 1 => by
    rw [List.replicate_succ', ← List.append_assoc, thin_snoc, thin_rep m, thin_snoc]
    exact if_pos thStep_last
theorem Stretch.thin_eq {l l' : List α} (h : Stretch l l') : thin l' = thin l := by
  induction h with
  | nil => rfl
  | snoc x m h ih => 
    rw [thin_rep, thin_snoc, thin_snoc, ih]
theorem Stretch.app {l l' m m' : List α} (h : Stretch l l') (h2 : Stretch m m') : Stretch (l ++ m) (l' ++ m') := by
  induction h2 with
  | nil => simpa using h
  | snoc x k h2 ih =>
    rw [← List.append_assoc, ← List.append_assoc]
    exact .snoc x k ih
theorem Stretch.pow {l l' : List α} (h : Stretch l l') : ∀ k, Stretch (List.replicate k l).flatten (List.replicate k l').flatten
  | 0 => .nil
  | k + 1 => by
    rw [flat_succ, flat_succ]
    exact (h.pow k).app h
theorem Stretch.pos {l l' : List α} (h : Stretch l l') : 0 < l.length → 0 < l'.length := by
  cases h with
  | nil => simp
  | snoc x m h => simp; omega
theorem Thn.stretch {s r s' r' : List α} {v : Nat → α} (hs : Stretch s s') (hr : Stretch r r') (h0 : 0 < r.length) (h : Thn (wd s r) v) : Thn (wd s' r') v := by
  refine .of_un (hr.pos h0) (fun k i x e => ?_) fun k q => ?_
  · rw [(hs.app (hr.pow k)).thin_eq] at e
    exact h.un_at e
  · refine h.un_end h0 fun n => ?_
    have := q n
    rwa [(hs.app (hr.pow n)).thin_eq] at this
end
end M
/-! M4: what the thin form keeps. -/
namespace M
section
variable {α : Type} [DecidableEq α] [Inhabited α]
theorem rep_one {c : α} : ∀ k, (List.replicate k [c]).flatten = List.replicate k c
  | 0 => rfl
  | k + 1 => by rw [List.replicate_succ, List.replicate_succ, List.flatten_cons, rep_one k]; rfl
theorem thn_const (s : List α) (c : α) : Thn (wd s [c]) (wd (thin s) [c]) := by
  have tail : ∀ {i : Nat}, (thin s).length ≤ i → wd (thin s) [c] i = c := fun {i} h => by
    rw [wd_ge h]
    simp [Nat.mod_one]
  have key : ∀ k, thin (s ++ (List.replicate k [c]).flatten) <+: thin (s ++ [c]) := fun k => by
    rw [rep_one]
    cases k with
    | zero => exact thin_mono (by simp)
    | succ k => rw [thin_rep]; exact List.prefix_refl _
  refine .of_un (by simp) (fun k i x e => ?_) fun k q => ?_
  · have e := get_pre (key k) e
    rw [thin_snoc] at e
    by_cases h : i < (thin s).length
    · rw [wd_lt h]
      have e2 : (thin s)[i]? = some x := by
        unfold thStep at e
        split at e
        · exact e
        · rwa [List.getElem?_append_left h] at e
      simp [List.getD, e2]
    · rw [tail (by omega)]
      unfold thStep at e
      split at e
      · rw [List.getElem?_eq_none (by omega)] at e; cases e
      · rw [List.getElem?_append_right (by omega)] at e
        have hi : i - (thin s).length = 0 := by
          have := (List.getElem?_eq_some_iff.mp e).1
          simp at this
          omega
        rw [hi] at e
        exact Option.some.inj e
  · have h1 := q 1
    rw [rep_one, List.replicate_one, thin_snoc] at h1
    unfold thStep at h1
    split at h1
    · rename_i hl
      rw [tail h1]
      by_cases h2 : (thin s).length ≤ k
      · rw [tail h2]
      · rw [wd_lt (by omega)]
        rw [List.getLast?_eq_getElem?, show (thin s).length - 1 = k by omega, getD_get (by omega)] at hl
        exact (Option.some.inj hl).symm
    · rw [List.length_append, List.length_singleton] at h1
      rw [tail (by omega), tail (by omega)]
theorem thn_ring (A : List α) (x : α) (Y : List α) (h : (x :: Y).getLast? ≠ some x) : Thn (wd A (x :: Y)) (wd (thin (A ++ [x])).dropLast (thin (x :: Y))) := by
  have key : ∀ k, thin (A ++ (List.replicate (k + 1) (x :: Y)).flatten) = (thin (A ++ [x])).dropLast ++ (List.replicate (k + 1) (thin (x :: Y))).flatten := fun k => by
    rw [← thin_pow h, List.replicate_succ, List.flatten_cons, List.cons_append, thin_app_cons]
  have hp : 0 < (thin (x :: Y)).length := List.length_pos_iff.mpr thin_cons_ne
  refine .of_un (by simp) (fun k i z e => ?_) fun k q => ?_
  · have e2 : (thin (A ++ (List.replicate (k + 1) (x :: Y)).flatten))[i]? = some z := by
      refine get_pre (thin_mono ?_) e
      rw [flat_succ, ← List.append_assoc]
      exact List.prefix_append _ _
    rw [key, ← pre_un] at e2
    have hi := (List.getElem?_eq_some_iff.mp e2).1
    rw [pre_len] at hi
    rw [pre_get hi] at e2
    exact Option.some.inj e2
  · have h1 := q (k + 1 + 1)
    rw [key, ← pre_un, pre_len] at h1
    have : k + 1 + 1 ≤ (k + 1 + 1) * (thin (x :: Y)).length := Nat.le_mul_of_pos_right _ hp
    omega
structure ThinOk (s0 r0 s r : List α) : Prop where
  pos : 0 < r.length
  lr : r.length ≤ r0.length
  ls : s.length ≤ s0.length + r0.length
  prim : Prim r
  pull : Pull s r
  thn : Thn (wd s0 r0) (wd s r)
theorem ThinOk.unique {s0 r0 s r s' r' : List α} {s1 r1 : List α} (h : ThinOk s0 r0 s r) (h' : ThinOk s1 r1 s' r') (hs : Stretch s0 s1) (hr : Stretch r0 r1) (h0 : 0 < r0.length) : s = s' ∧ r = r' :=
  least_unique h.pos h'.pos h.prim h'.prim h.pull h'.pull ((h.thn.stretch hs hr h0).unique h'.thn)
/-- a ring of one kind -/
theorem wd_one {s r : List α} {c : α} (hr : 0 < r.length) (h : ∀ x ∈ r, x = c) (n : Nat) : wd s r n = wd s [c] n := by
  by_cases h1 : n < s.length
  · rw [wd_lt h1, wd_lt h1]
  · rw [wd_ge (by omega), wd_ge (by omega)]
    have hl := Nat.mod_lt (n - s.length) hr
    rw [h _ (List.mem_of_getElem? (getD_get hl))]
    simp [Nat.mod_one]
theorem ThinOk.still {s0 r0 s r : List α} {c : α} (h : ThinOk s0 r0 s r) (h0 : 0 < r0.length) (hc : ∀ x ∈ r0, x = c) : s = (thin (s0 ++ [c])).dropLast ∧ r = [c] := by
  refine least_unique h.pos (by simp) h.prim (fun p h1 h2 => by simp at h2; omega) h.pull (.inr ?_) ?_
  · simpa using thin_drop_last
  · refine h.thn.unique ?_
    have e : wd s0 r0 = wd s0 [c] := funext (wd_one h0 hc)
    rw [e]
    have e2 : wd (thin s0) [c] = wd (thin (s0 ++ [c])).dropLast [c] := funext fun n => by
      have e3 := getLast_dropLast (l := thin (s0 ++ [c])) (x := c) (by rw [thin_last]; simp)
      by_cases hl : (thin s0).getLast? = some c
      · rw [thin_snoc] at e3 ⊢
        unfold thStep at e3 ⊢
        rw [if_pos hl] at e3 ⊢
        conv => lhs; rw [← e3]
        exact wd_rot (s := (thin s0).dropLast) (r := [c]) (a := 1) (by simp) (by simp) n
      · rw [thin_snoc]
        unfold thStep
        rw [if_neg hl]
        simp
    rw [← e2]
    exact thn_const s0 c
/-- it grows -/
theorem thin_grow {L m : List α} (h : (thin (L ++ m)).length = (thin L).length) : ∀ x ∈ m, L.getLast? = some x := by
  induction m using snoc_ind with
  | h0 => simp
  | h1 m y ih =>
    rw [← List.append_assoc, thin_snoc] at h
    have le := (thin_pre L m).length_le
    unfold thStep at h
    split at h
    · rename_i hl
      have ih := ih h
      intro x hx
      rcases List.mem_append.mp hx with hx | hx
      · exact ih x hx
      · rw [List.mem_singleton.mp hx]
        rw [thin_last] at hl
        cases m with
        | nil => simpa using hl
        | cons z m' =>
          rw [last_app (by simp)] at hl
          have z1 := List.mem_of_getLast? hl
          exact ih y z1
    · rw [List.length_append, List.length_singleton] at h
      omega
theorem thin_many {s r : List α} (h : ∀ c, ∃ x ∈ r, x ≠ c) : ∀ k, k ≤ (thin (pre (wd s r) (s.length + k * r.length))).length
  | 0 => Nat.zero_le _
  | k + 1 => by
    have ih := thin_many (s := s) h k
    rw [pre_un] at ih ⊢
    rw [flat_succ, ← List.append_assoc]
    have le := (thin_pre (s ++ (List.replicate k r).flatten) r).length_le
    by_cases e : (thin (s ++ (List.replicate k r).flatten ++ r)).length = (thin (s ++ (List.replicate k r).flatten)).length
    · exfalso
      have g := thin_grow e
      obtain ⟨x0, hx0, _⟩ := h default
      obtain ⟨x1, hx1, hne⟩ := h x0
      have := g x0 hx0
      rw [g x1 hx1] at this
      exact hne (Option.some.inj this)
    · omega
theorem Thn.list {w v : Nat → α} (h : Thn w v) {n : Nat} : thin (pre w n) = pre v (thin (pre w n)).length := by
  apply ext_getD (by rw [pre_len])
  intro i hi
  have e := h.at_ n i _ (getD_get hi)
  have e2 := pre_get (w := v) hi
  rw [getD_get (by rw [pre_len]; exact hi), e] at e2
  exact (Option.some.inj e2).symm
end
end M
/-! The walk of each def of the text. -/
namespace W
open PySem PySem.Spec L2 T
def topS (i : Nat) : Stmt := PySem.Challenge.pw_lassoscribe_k09_thinned.main.body.getD i (.Pass ⟨0, 0, 0, 0⟩)
section
variable {P : Program} {w : World} {K : PySem.W.Frag} {mg : Str → Option Value} {base : Heap} {cv : Str → Value}
/-! ### turned_ring -/
abbrev st_turned_ring : Stmt := topS 1
theorem sc_turned_ring : FnScope ["ring", "many"] ["ring", "many"] (defScope st_turned_ring) := ⟨rfl, rfl, rfl, by decide +kernel, rfl, by decide +kernel, by decide +kernel⟩
noncomputable def sb_turned_ring : Sv :=
  (sRet (v2 (vSl (vName 0) (some (vName 1)) none) (vSl (vName 0) none (some (vName 1))) gAdd))
noncomputable def fm_turned_ring : List Ag → Fr := fmOf 2 2 sb_turned_ring
theorem ok_turned_ring (D : Dx K mg "turned_ring" st_turned_ring ["ring", "many"])  : OkF P w K mg base (0 + 1) "turned_ring" ["ring", "many"] (spF K cv fm_turned_ring) :=
  ok_T (k := 0) D sc_turned_ring (fun f cdv A outer s H E hr =>
  (ds_one (ds_ret (d_op op_addAll l_add (d_sl (d_name (pv 0)) (do_some (d_name (pv 1))) do_none rfl) (d_sl (d_name (pv 0)) do_none (do_some (d_name (pv 1))) rfl))))) fmOf_hm
/-! ### least_ring -/
abbrev st_least_ring : Stmt := topS 2
theorem sc_least_ring : FnScope ["ring", "many"] ["ring"] (defScope st_least_ring) := ⟨rfl, rfl, rfl, by decide +kernel, rfl, by decide +kernel, by decide +kernel⟩
noncomputable def bd_least_ring_1 : Sv :=
  (sIf (tAnd2 (t1 (v2 (v2 (vA (aCons (vName 0) aNil) (g1 gLen)) (vName 1) gMod) (vC (.int 0)) gEq)) (t1 (v2 (vSl (vName 0) (some (vName 1)) none) (vSl (vName 0) none (some (v2 (vA (aCons (vName 0) aNil) (g1 gLen)) (vName 1) gSub))) gEq))) (sRet (vSl (vName 0) none (some (vName 1)))) sNil)
noncomputable def sb_least_ring : Sv :=
  (sSeq (sFor (iR2 (aCons (vC (.int 1)) (aCons (vA (aCons (vName 0) aNil) (g1 gLen)) aNil))) (tfName 1)
  bd_least_ring_1)
  (sRet (vA (aCons (vName 0) aNil) (g1 gList))))
noncomputable def fm_least_ring : List Ag → Fr := fmOf 1 2 sb_least_ring
theorem ok_least_ring (D : Dx K mg "least_ring" st_least_ring ["ring"]) (z_len : mg "len" = none) (z_list : mg "list" = none) (z_range : mg "range" = none) : OkF P w K mg base (0 + 1) "least_ring" ["ring"] (spF K cv fm_least_ring) :=
  ok_T (k := 0) D sc_least_ring (fun f cdv A outer s H E hr =>
  (ds_cons (ds_for (passes_of rfl) rfl (di_range2 (by rfl) z_range (da_cons d_int (da_cons (d_blt call_len (lift_g1 l_len) (by rfl) z_len (da_cons (d_name (pv 0)) da_nil)) da_nil))) (pg_name (i := 1) sc_least_ring.nd rfl (by first | exact .inl rfl | exact .inr rfl)) tgt_name
  (ds_one (ds_if (PW.pt (dw_and (dt_cmp (op_eqT (hu200 hr)) l_eq (d_op op_mod l_mod (d_blt call_len (lift_g1 l_len) (by rfl) z_len (da_cons (d_name (pv 0)) da_nil)) (d_name (pv 1))) d_int (nomark _)) (dw_and1 (dt_cmp (op_eqT (hu200 hr)) l_eq (d_sl (d_name (pv 0)) (do_some (d_name (pv 1))) do_none rfl) (d_sl (d_name (pv 0)) do_none (do_some (d_op op_sub l_sub (d_blt call_len (lift_g1 l_len) (by rfl) z_len (da_cons (d_name (pv 0)) da_nil)) (d_name (pv 1)))) rfl) (nomark _))))) (ds_one (ds_ret (d_sl (d_name (pv 0)) do_none (do_some (d_name (pv 1))) rfl))) ds_nil)))
  (ds_one (ds_ret (d_bty call_list_of (lift_g1 l_list) (by rfl) z_list (da_cons (d_name (pv 0)) da_nil)))))) fmOf_hm
/-! ### least -/
abbrev st_least : Stmt := topS 3
theorem sc_least : FnScope ["run", "stem", "ring", "many"] ["run"] (defScope st_least) := ⟨rfl, rfl, rfl, by decide +kernel, rfl, by decide +kernel, by decide +kernel⟩
noncomputable def tw_least_1 : EvT :=
  (tAnd2 (t1 (v2 (vName 3) (vA (aCons (vName 1) aNil) (g1 gLen)) gLt)) (t1 (v2 (v2 (vName 1) (v2 (v2 (vA (aCons (vName 1) aNil) (g1 gLen)) (vC (.int 1)) gSub) (vName 3) gSub) gIx) (v2 (vName 2) (v2 (v2 (v2 (vC (.int 0)) (vC (.int 1)) gSub) (vName 3) gSub) (vA (aCons (vName 2) aNil) (g1 gLen)) gMod) gIx) gEq)))
noncomputable def bd_least_1 : Sv :=
  (sAsg 3 (vShr (v2 (vName 3) (vC (.int 1)) gAdd)))
noncomputable def sb_least : Sv :=
  (sSeq (sAsg 1 (vShr (v2 (vName 0) (vC (.int 0)) gIx)))
  (sSeq (sAsg 2 (vShr (vA (aCons (v2 (vName 0) (vC (.int 1)) gIx) aNil) (gCall [.d] fm_least_ring))))
  (sSeq (sAsg 3 (vShr (vC (.int 0))))
  (sSeq (sWhile FU tw_least_1
  bd_least_1)
  (sRet (vA (aCons (vSl (vName 1) none (some (v2 (vA (aCons (vName 1) aNil) (g1 gLen)) (vName 3) gSub))) (aCons (vA (aCons (vName 2) (aCons (v2 (v2 (vC (.int 0)) (vName 3) gSub) (vA (aCons (vName 2) aNil) (g1 gLen)) gMod) aNil)) (gCall [.d, .d] fm_turned_ring)) aNil)) gTup))))))
noncomputable def fm_least : List Ag → Fr := fmOf 1 4 sb_least
theorem ok_least (D : Dx K mg "least" st_least ["run"]) (z_len : mg "len" = none) (h_least_ring : OkF P w K mg base 1 "least_ring" ["ring"] (spF K cv fm_least_ring)) (h_turned_ring : OkF P w K mg base 1 "turned_ring" ["ring", "many"] (spF K cv fm_turned_ring)) : OkF P w K mg base (1 + 1) "least" ["run"] (spF K cv fm_least) :=
  ok_T (k := 1) D sc_least (fun f cdv A outer s H E hr =>
  (ds_cons (ds_asg sc_least.nd (i := 1) rfl (by first | exact .inl rfl | exact .inr rfl) (d_shr (d_ix (d_name (pv 0)) d_int rfl)))
  (ds_cons (ds_asg sc_least.nd (i := 2) rfl (by first | exact .inl rfl | exact .inr rfl) (d_shr (d_fn h_least_ring (hr.mono (by omega)) (by rfl) (takes_of rfl rfl rfl rfl) rfl (da_cons (d_ix (d_name (pv 0)) d_int rfl) da_nil))))
  (ds_cons (ds_asg sc_least.nd (i := 3) rfl (by first | exact .inl rfl | exact .inr rfl) (d_shr d_int))
  (ds_cons (ds_while (passes_of rfl) (PW.pt (dw_and (dt_cmp op_lt l_lt (d_name (pv 3)) (d_blt call_len (lift_g1 l_len) (by rfl) z_len (da_cons (d_name (pv 1)) da_nil)) (nomark _)) (dw_and1 (dt_cmp (op_eqT (hu200 hr)) l_eq (d_ix (d_name (pv 1)) (d_op op_sub l_sub (d_op op_sub l_sub (d_blt call_len (lift_g1 l_len) (by rfl) z_len (da_cons (d_name (pv 1)) da_nil)) d_int) (d_name (pv 3))) rfl) (d_ix (d_name (pv 2)) (d_op op_mod l_mod (d_op op_sub l_sub (d_op op_sub l_sub d_int d_int) (d_name (pv 3))) (d_blt call_len (lift_g1 l_len) (by rfl) z_len (da_cons (d_name (pv 2)) da_nil))) rfl) (nomark _)))))
  (ds_one (ds_asg sc_least.nd (i := 3) rfl (by first | exact .inl rfl | exact .inr rfl) (d_shr (d_op op_addAll l_add (d_name (pv 3)) d_int)))))
  (ds_one (ds_ret (d_tup (da_cons (d_sl (d_name (pv 1)) do_none (do_some (d_op op_sub l_sub (d_blt call_len (lift_g1 l_len) (by rfl) z_len (da_cons (d_name (pv 1)) da_nil)) (d_name (pv 3)))) rfl) (da_cons (d_fn h_turned_ring (hr.mono (by omega)) (by rfl) (takes_of rfl rfl rfl rfl) rfl (da_cons (d_name (pv 2)) (da_cons (d_op op_mod l_mod (d_op op_sub l_sub d_int (d_name (pv 3))) (d_blt call_len (lift_g1 l_len) (by rfl) z_len (da_cons (d_name (pv 2)) da_nil))) da_nil))) da_nil)))))))))) fmOf_hm
/-! ### thin_list -/
abbrev st_thin_list : Stmt := topS 4
theorem sc_thin_list : FnScope ["some", "left", "one"] ["some"] (defScope st_thin_list) := ⟨rfl, rfl, rfl, by decide +kernel, rfl, by decide +kernel, by decide +kernel⟩
noncomputable def bd_thin_list_1 : Sv :=
  (sIf (tOr2 (t1 (v2 (vName 1) (vA aNil gLst) gEq)) (t1 (v2 (v2 (vName 1) (v1 (vC (.int 1)) gNeg) gIx) (vName 2) gNe))) (sExpr (vMt "list" (vName 1) (aCons (vName 2) aNil) gAppend)) sNil)
noncomputable def sb_thin_list : Sv :=
  (sSeq (sAsg 1 (vA aNil gLst))
  (sSeq (sFor (iL (vName 0)) (tfName 2)
  bd_thin_list_1)
  (sRet (vName 1))))
noncomputable def fm_thin_list : List Ag → Fr := fmOf 1 3 sb_thin_list
theorem ok_thin_list (D : Dx K mg "thin_list" st_thin_list ["some"])  : OkF P w K mg base (0 + 1) "thin_list" ["some"] (spF K cv fm_thin_list) :=
  ok_T (k := 0) D sc_thin_list (fun f cdv A outer s H E hr =>
  (ds_cons (ds_asg sc_thin_list.nd (i := 1) rfl (by first | exact .inl rfl | exact .inr rfl) (d_lst da_nil))
  (ds_cons (ds_for (passes_of rfl) rfl (di_list (d_name (pv 0)) rfl) (pg_name (i := 2) sc_thin_list.nd rfl (by first | exact .inl rfl | exact .inr rfl)) tgt_name
  (ds_one (ds_if (PW.pt (dw_or (dt_cmp (op_eqT (hu200 hr)) l_eq (d_name (pv 1)) (d_lst da_nil) (nomark _)) (dw_or1 (dt_cmp (op_neT (hu200 hr)) l_ne (d_ix (d_name (pv 1)) (d_un un_neg l_neg d_int) rfl) (d_name (pv 2)) (nomark _))))) (ds_one (ds_expr (d_mt PySem.F.plainAttrs_list PySem.F.slot_list_append PySem.F.type_list_append mt_append l_append (d_name (pv 1)) (da_cons (d_name (pv 2)) da_nil) rfl))) ds_nil)))
  (ds_one (ds_ret (d_name (pv 1))))))) fmOf_hm
/-! ### thinned -/
abbrev st_thinned : Stmt := topS 5
theorem sc_thinned : FnScope ["run", "at", "round_it", "way", "stem", "ring"] ["run"] (defScope st_thinned) := ⟨rfl, rfl, rfl, by decide +kernel, rfl, by decide +kernel, by decide +kernel⟩
noncomputable def tw_thinned_1 : EvT :=
  (t1 (v2 (v2 (vName 5) (vName 1) gIx) (v2 (vName 5) (v2 (vName 1) (vC (.int 1)) gSub) gIx) gEq))
noncomputable def bd_thinned_1 : Sv :=
  (sAsg 1 (vShr (v2 (vName 1) (vC (.int 1)) gAdd)))
noncomputable def sb_thinned : Sv :=
  (sSeq (sTg (vA (aCons (vName 0) aNil) (gCall [.d] fm_least)) (tfTup [4, 5]))
  (sSeq (sIf (t1 (v2 (vA (aCons (vName 5) aNil) (g1 gLen)) (vC (.int 1)) gEq)) (sRet (vA (aCons (vA (aCons (vA (aCons (vName 4) aNil) (gCall [.d] fm_thin_list)) (aCons (vName 5) aNil)) gTup) aNil) (gCall [.d] fm_least))) sNil)
  (sSeq (sAsg 1 (vShr (vC (.int 0))))
  (sSeq (sWhile FU tw_thinned_1
  bd_thinned_1)
  (sSeq (sAsg 2 (vShr (vA (aCons (vName 5) (aCons (vName 1) aNil)) (gCall [.d, .d] fm_turned_ring))))
  (sSeq (sAsg 3 (vShr (vA (aCons (v2 (v2 (vName 4) (vSl (vName 5) none (some (vName 1))) gAdd) (vSl (vName 2) none (some (vC (.int 1)))) gAdd) aNil) (gCall [.d] fm_thin_list))))
  (sRet (vA (aCons (vA (aCons (vSl (vName 3) none (some (v2 (vA (aCons (vName 3) aNil) (g1 gLen)) (vC (.int 1)) gSub))) (aCons (vA (aCons (vName 2) aNil) (gCall [.d] fm_thin_list)) aNil)) gTup) aNil) (gCall [.d] fm_least)))))))))
noncomputable def fm_thinned : List Ag → Fr := fmOf 1 6 sb_thinned
theorem ok_thinned (D : Dx K mg "thinned" st_thinned ["run"]) (z_len : mg "len" = none) (h_least : OkF P w K mg base 2 "least" ["run"] (spF K cv fm_least)) (h_turned_ring : OkF P w K mg base 1 "turned_ring" ["ring", "many"] (spF K cv fm_turned_ring)) (h_thin_list : OkF P w K mg base 1 "thin_list" ["some"] (spF K cv fm_thin_list)) : OkF P w K mg base (2 + 1) "thinned" ["run"] (spF K cv fm_thinned) :=
  ok_T (k := 2) D sc_thinned (fun f cdv A outer s H E hr =>
  (ds_cons (ds_tg (d_fn h_least (hr.mono (by omega)) (by rfl) (takes_of rfl rfl rfl rfl) rfl (da_cons (d_name (pv 0)) da_nil)) (pg_tup rfl (pgs_cons (pg_name (i := 4) sc_thinned.nd rfl (by first | exact .inl rfl | exact .inr rfl)) (pgs_cons (pg_name (i := 5) sc_thinned.nd rfl (by first | exact .inl rfl | exact .inr rfl)) pgs_nil))) (tgt_tup (ks := [4, 5])))
  (ds_cons (ds_if (dt_cmp (op_eqT (hu200 hr)) l_eq (d_blt call_len (lift_g1 l_len) (by rfl) z_len (da_cons (d_name (pv 5)) da_nil)) d_int (nomark _)) (ds_one (ds_ret (d_fn h_least (hr.mono (by omega)) (by rfl) (takes_of rfl rfl rfl rfl) rfl (da_cons (d_tup (da_cons (d_fn h_thin_list (hr.mono (by omega)) (by rfl) (takes_of rfl rfl rfl rfl) rfl (da_cons (d_name (pv 4)) da_nil)) (da_cons (d_name (pv 5)) da_nil))) da_nil)))) ds_nil)
  (ds_cons (ds_asg sc_thinned.nd (i := 1) rfl (by first | exact .inl rfl | exact .inr rfl) (d_shr d_int))
  (ds_cons (ds_while (passes_of rfl) (dt_cmp (op_eqT (hu200 hr)) l_eq (d_ix (d_name (pv 5)) (d_name (pv 1)) rfl) (d_ix (d_name (pv 5)) (d_op op_sub l_sub (d_name (pv 1)) d_int) rfl) (nomark _))
  (ds_one (ds_asg sc_thinned.nd (i := 1) rfl (by first | exact .inl rfl | exact .inr rfl) (d_shr (d_op op_addAll l_add (d_name (pv 1)) d_int)))))
  (ds_cons (ds_asg sc_thinned.nd (i := 2) rfl (by first | exact .inl rfl | exact .inr rfl) (d_shr (d_fn h_turned_ring (hr.mono (by omega)) (by rfl) (takes_of rfl rfl rfl rfl) rfl (da_cons (d_name (pv 5)) (da_cons (d_name (pv 1)) da_nil)))))
  (ds_cons (ds_asg sc_thinned.nd (i := 3) rfl (by first | exact .inl rfl | exact .inr rfl) (d_shr (d_fn h_thin_list (hr.mono (by omega)) (by rfl) (takes_of rfl rfl rfl rfl) rfl (da_cons (d_op op_addAll l_add (d_op op_addAll l_add (d_name (pv 4)) (d_sl (d_name (pv 5)) do_none (do_some (d_name (pv 1))) rfl)) (d_sl (d_name (pv 2)) do_none (do_some d_int) rfl)) da_nil))))
  (ds_one (ds_ret (d_fn h_least (hr.mono (by omega)) (by rfl) (takes_of rfl rfl rfl rfl) rfl (da_cons (d_tup (da_cons (d_sl (d_name (pv 3)) do_none (do_some (d_op op_sub l_sub (d_blt call_len (lift_g1 l_len) (by rfl) z_len (da_cons (d_name (pv 3)) da_nil)) d_int)) rfl) (da_cons (d_fn h_thin_list (hr.mono (by omega)) (by rfl) (takes_of rfl rfl rfl rfl) rfl (da_cons (d_name (pv 2)) da_nil)) da_nil))) da_nil))))))))))) fmOf_hm
/-! ### _law_cell -/
abbrev st_law_cell : Stmt := topS 7
theorem sc_law_cell : FnScope ["_law_script", "_law_k", "_law_number"] ["_law_script", "_law_k"] (defScope st_law_cell) := ⟨rfl, rfl, rfl, by decide +kernel, rfl, by decide +kernel, by decide +kernel⟩
noncomputable def sb_law_cell : Sv :=
  (sSeq (sIf (t1 (v2 (vName 1) (vA (aCons (vName 0) aNil) (g1 gLen)) gLt)) (sRet (v2 (vName 0) (vName 1) gIx)) sNil)
  (sSeq (sAsg 2 (vShr (v2 (v2 (vName 1) (vC (.int 7919)) gMul) (vC (.int 5)) gAdd)))
  (sSeq (sIf (t1 (v2 (vA (aCons (vName 0) aNil) (g1 gLen)) (vC (.int 0)) gGt)) (sAsg 2 (vShr (v2 (v2 (v2 (v2 (vName 0) (v2 (v2 (vName 1) (vC (.int 7)) gMul) (vA (aCons (vName 0) aNil) (g1 gLen)) gMod) gIx) (vC (.int 48271)) gMul) (v2 (vName 1) (vC (.int 7919)) gMul) gAdd) (vC (.int 2147483647)) gMod))) sNil)
  (sRet (v2 (v2 (vName 2) (vName 2) gMul) (vC (.int 2147483629)) gMod)))))
noncomputable def fm_law_cell : List Ag → Fr := fmOf 2 3 sb_law_cell
theorem ok_law_cell (D : Dx K mg "_law_cell" st_law_cell ["_law_script", "_law_k"]) (z_len : mg "len" = none) : OkF P w K mg base (0 + 1) "_law_cell" ["_law_script", "_law_k"] (spF K cv fm_law_cell) :=
  ok_T (k := 0) D sc_law_cell (fun f cdv A outer s H E hr =>
  (ds_cons (ds_if (dt_cmp op_lt l_lt (d_name (pv 1)) (d_blt call_len (lift_g1 l_len) (by rfl) z_len (da_cons (d_name (pv 0)) da_nil)) (nomark _)) (ds_one (ds_ret (d_ix (d_name (pv 0)) (d_name (pv 1)) rfl))) ds_nil)
  (ds_cons (ds_asg sc_law_cell.nd (i := 2) rfl (by first | exact .inl rfl | exact .inr rfl) (d_shr (d_op op_addAll l_add (d_op op_mulAll l_mul (d_name (pv 1)) d_int) d_int)))
  (ds_cons (ds_if (dt_cmp op_gt l_gt (d_blt call_len (lift_g1 l_len) (by rfl) z_len (da_cons (d_name (pv 0)) da_nil)) d_int (nomark _)) (ds_one (ds_asg sc_law_cell.nd (i := 2) rfl (by first | exact .inl rfl | exact .inr rfl) (d_shr (d_op op_mod l_mod (d_op op_addAll l_add (d_op op_mulAll l_mul (d_ix (d_name (pv 0)) (d_op op_mod l_mod (d_op op_mulAll l_mul (d_name (pv 1)) d_int) (d_blt call_len (lift_g1 l_len) (by rfl) z_len (da_cons (d_name (pv 0)) da_nil))) rfl) d_int) (d_op op_mulAll l_mul (d_name (pv 1)) d_int)) d_int)))) ds_nil)
  (ds_one (ds_ret (d_op op_mod l_mod (d_op op_mulAll l_mul (d_name (pv 2)) (d_name (pv 2))) d_int))))))) fmOf_hm
/-! ### _law_lit -/
abbrev st_law_lit : Stmt := topS 8
theorem sc_law_lit : FnScope ["_law_number", "_law_lit_here", "_law_letter"] ["_law_number"] (defScope st_law_lit) := ⟨rfl, rfl, rfl, by decide +kernel, rfl, by decide +kernel, by decide +kernel⟩
noncomputable def bd_law_lit_1 : Sv :=
  (sSeq (sIf (t1 (v2 (v2 (vName 0) (vC (.int 2)) gMod) (vC (.int 1)) gEq)) (sAsg 1 (vShr (v2 (vName 1) (vName 2) gAdd))) sNil)
  (sAsg 0 (vShr (v2 (vName 0) (vC (.int 2)) gDiv))))
noncomputable def sb_law_lit : Sv :=
  (sSeq (sAsg 1 (vShr (vC (.str (Str.ofString "")))))
  (sSeq (sFor (iS (vC (.str (Str.ofString "abcdefghijklmnopqrstuvwxyz")))) (tfName 2)
  bd_law_lit_1)
  (sRet (vName 1))))
noncomputable def fm_law_lit : List Ag → Fr := fmOf 1 3 sb_law_lit
theorem ok_law_lit (D : Dx K mg "_law_lit" st_law_lit ["_law_number"])  : OkF P w K mg base (0 + 1) "_law_lit" ["_law_number"] (spF K cv fm_law_lit) :=
  ok_T (k := 0) D sc_law_lit (fun f cdv A outer s H E hr =>
  (ds_cons (ds_asg sc_law_lit.nd (i := 1) rfl (by first | exact .inl rfl | exact .inr rfl) (d_shr d_str))
  (ds_cons (ds_for (passes_of rfl) rfl (di_str d_str) (pg_name (i := 2) sc_law_lit.nd rfl (by first | exact .inl rfl | exact .inr rfl)) tgt_name
  (ds_cons (ds_if (dt_cmp (op_eqT (hu200 hr)) l_eq (d_op op_mod l_mod (d_name (pv 0)) d_int) d_int (nomark _)) (ds_one (ds_asg sc_law_lit.nd (i := 1) rfl (by first | exact .inl rfl | exact .inr rfl) (d_shr (d_op op_addAll l_add (d_name (pv 1)) (d_name (pv 2)))))) ds_nil)
  (ds_one (ds_asg sc_law_lit.nd (i := 0) rfl (by first | exact .inl rfl | exact .inr rfl) (d_shr (d_op op_fdiv l_div (d_name (pv 0)) d_int))))))
  (ds_one (ds_ret (d_name (pv 1))))))) fmOf_hm
/-! ### _law_palette -/
abbrev st_law_palette : Stmt := topS 9
theorem sc_law_palette : FnScope ["_law_script", "_law_some", "_law_k"] ["_law_script"] (defScope st_law_palette) := ⟨rfl, rfl, rfl, by decide +kernel, rfl, by decide +kernel, by decide +kernel⟩
noncomputable def bd_law_palette_1 : Sv :=
  (sExpr (vMt "list" (vName 1) (aCons (vA (aCons (v2 (vA (aCons (vName 0) (aCons (v2 (vC (.int 1)) (vName 2) gAdd) aNil)) (gCall [.d, .d] fm_law_cell)) (v2 (vC (.int 2)) (vC (.int 26)) gPow) gMod) aNil) (gCall [.d] fm_law_lit)) aNil) gAppend))
noncomputable def sb_law_palette : Sv :=
  (sSeq (sAsg 1 (vA aNil gLst))
  (sSeq (sFor (iR1 (aCons (v2 (vC (.int 1)) (v2 (vA (aCons (vName 0) (aCons (vC (.int 0)) aNil)) (gCall [.d, .d] fm_law_cell)) (vC (.int 3)) gMod) gAdd) aNil)) (tfName 2)
  bd_law_palette_1)
  (sRet (vName 1))))
noncomputable def fm_law_palette : List Ag → Fr := fmOf 1 3 sb_law_palette
theorem ok_law_palette (D : Dx K mg "_law_palette" st_law_palette ["_law_script"]) (z_range : mg "range" = none) (h_law_lit : OkF P w K mg base 1 "_law_lit" ["_law_number"] (spF K cv fm_law_lit)) (h_law_cell : OkF P w K mg base 1 "_law_cell" ["_law_script", "_law_k"] (spF K cv fm_law_cell)) : OkF P w K mg base (1 + 1) "_law_palette" ["_law_script"] (spF K cv fm_law_palette) :=
  ok_T (k := 1) D sc_law_palette (fun f cdv A outer s H E hr =>
  (ds_cons (ds_asg sc_law_palette.nd (i := 1) rfl (by first | exact .inl rfl | exact .inr rfl) (d_lst da_nil))
  (ds_cons (ds_for (passes_of rfl) rfl (di_range1 (by rfl) z_range (da_cons (d_op op_addAll l_add d_int (d_op op_mod l_mod (d_fn h_law_cell (hr.mono (by omega)) (by rfl) (takes_of rfl rfl rfl rfl) rfl (da_cons (d_name (pv 0)) (da_cons d_int da_nil))) d_int)) da_nil)) (pg_name (i := 2) sc_law_palette.nd rfl (by first | exact .inl rfl | exact .inr rfl)) tgt_name
  (ds_one (ds_expr (d_mt PySem.F.plainAttrs_list PySem.F.slot_list_append PySem.F.type_list_append mt_append l_append (d_name (pv 1)) (da_cons (d_fn h_law_lit (hr.mono (by omega)) (by rfl) (takes_of rfl rfl rfl rfl) rfl (da_cons (d_op op_mod l_mod (d_fn h_law_cell (hr.mono (by omega)) (by rfl) (takes_of rfl rfl rfl rfl) rfl (da_cons (d_name (pv 0)) (da_cons (d_op op_addAll l_add d_int (d_name (pv 2))) da_nil))) (d_op op_pow l_pow d_int d_int)) da_nil)) da_nil) rfl))))
  (ds_one (ds_ret (d_name (pv 1))))))) fmOf_hm
/-! ### _law_moments -/
abbrev st_law_moments : Stmt := topS 10
theorem sc_law_moments : FnScope ["_law_script", "_law_start", "_law_many", "_law_palette_here", "_law_some", "_law_k"] ["_law_script", "_law_start", "_law_many", "_law_palette_here"] (defScope st_law_moments) := ⟨rfl, rfl, rfl, by decide +kernel, rfl, by decide +kernel, by decide +kernel⟩
noncomputable def bd_law_moments_1 : Sv :=
  (sExpr (vMt "list" (vName 4) (aCons (v2 (vName 3) (v2 (v2 (vA (aCons (vName 0) (aCons (v2 (vName 1) (vName 5) gAdd) aNil)) (gCall [.d, .d] fm_law_cell)) (v2 (vC (.int 1)) (v2 (vName 5) (vC (.int 2)) gMod) gAdd) gDiv) (vA (aCons (vName 3) aNil) (g1 gLen)) gMod) gIx) aNil) gAppend))
noncomputable def sb_law_moments : Sv :=
  (sSeq (sAsg 4 (vA aNil gLst))
  (sSeq (sFor (iR1 (aCons (vName 2) aNil)) (tfName 5)
  bd_law_moments_1)
  (sRet (vName 4))))
noncomputable def fm_law_moments : List Ag → Fr := fmOf 4 6 sb_law_moments
theorem ok_law_moments (D : Dx K mg "_law_moments" st_law_moments ["_law_script", "_law_start", "_law_many", "_law_palette_here"]) (z_len : mg "len" = none) (z_range : mg "range" = none) (h_law_cell : OkF P w K mg base 1 "_law_cell" ["_law_script", "_law_k"] (spF K cv fm_law_cell)) : OkF P w K mg base (1 + 1) "_law_moments" ["_law_script", "_law_start", "_law_many", "_law_palette_here"] (spF K cv fm_law_moments) :=
  ok_T (k := 1) D sc_law_moments (fun f cdv A outer s H E hr =>
  (ds_cons (ds_asg sc_law_moments.nd (i := 4) rfl (by first | exact .inl rfl | exact .inr rfl) (d_lst da_nil))
  (ds_cons (ds_for (passes_of rfl) rfl (di_range1 (by rfl) z_range (da_cons (d_name (pv 2)) da_nil)) (pg_name (i := 5) sc_law_moments.nd rfl (by first | exact .inl rfl | exact .inr rfl)) tgt_name
  (ds_one (ds_expr (d_mt PySem.F.plainAttrs_list PySem.F.slot_list_append PySem.F.type_list_append mt_append l_append (d_name (pv 4)) (da_cons (d_ix (d_name (pv 3)) (d_op op_mod l_mod (d_op op_fdiv l_div (d_fn h_law_cell (hr.mono (by omega)) (by rfl) (takes_of rfl rfl rfl rfl) rfl (da_cons (d_name (pv 0)) (da_cons (d_op op_addAll l_add (d_name (pv 1)) (d_name (pv 5))) da_nil))) (d_op op_addAll l_add d_int (d_op op_mod l_mod (d_name (pv 5)) d_int))) (d_blt call_len (lift_g1 l_len) (by rfl) z_len (da_cons (d_name (pv 3)) da_nil))) rfl) da_nil) rfl))))
  (ds_one (ds_ret (d_name (pv 4))))))) fmOf_hm
/-! ### _law_run -/
abbrev st_law_run : Stmt := topS 11
theorem sc_law_run : FnScope ["_law_script", "_law_palette_here", "_law_stem_many", "_law_ring_many", "_law_stem"] ["_law_script"] (defScope st_law_run) := ⟨rfl, rfl, rfl, by decide +kernel, rfl, by decide +kernel, by decide +kernel⟩
noncomputable def sb_law_run : Sv :=
  (sSeq (sAsg 1 (vShr (vA (aCons (vName 0) aNil) (gCall [.d] fm_law_palette))))
  (sSeq (sAsg 2 (vShr (v2 (vA (aCons (vName 0) (aCons (vC (.int 4)) aNil)) (gCall [.d, .d] fm_law_cell)) (vC (.int 9)) gMod)))
  (sSeq (sAsg 3 (vShr (v2 (vC (.int 1)) (v2 (vA (aCons (vName 0) (aCons (vC (.int 5)) aNil)) (gCall [.d, .d] fm_law_cell)) (vC (.int 8)) gMod) gAdd)))
  (sSeq (sIf (t1 (v2 (v2 (vA (aCons (vName 0) (aCons (vC (.int 6)) aNil)) (gCall [.d, .d] fm_law_cell)) (vC (.int 8)) gMod) (vC (.int 1)) gEq)) (sSeq (sAsg 2 (vShr (v2 (v2 (vA (aCons (vName 0) (aCons (vC (.int 4)) aNil)) (gCall [.d, .d] fm_law_cell)) (vC (.int 9)) gDiv) (vC (.int 31)) gMod)))
  (sAsg 3 (vShr (v2 (vC (.int 1)) (v2 (v2 (vA (aCons (vName 0) (aCons (vC (.int 5)) aNil)) (gCall [.d, .d] fm_law_cell)) (vC (.int 8)) gDiv) (vC (.int 30)) gMod) gAdd)))) sNil)
  (sSeq (sAsg 4 (vShr (vA (aCons (vName 0) (aCons (vC (.int 7)) (aCons (vName 2) (aCons (vName 1) aNil)))) (gCall [.d, .d, .d, .d] fm_law_moments))))
  (sRet (vA (aCons (vName 4) (aCons (vA (aCons (vName 0) (aCons (v2 (vC (.int 7)) (vName 2) gAdd) (aCons (vName 3) (aCons (vName 1) aNil)))) (gCall [.d, .d, .d, .d] fm_law_moments)) aNil)) gTup)))))))
noncomputable def fm_law_run : List Ag → Fr := fmOf 1 5 sb_law_run
theorem ok_law_run (D : Dx K mg "_law_run" st_law_run ["_law_script"]) (h_law_palette : OkF P w K mg base 2 "_law_palette" ["_law_script"] (spF K cv fm_law_palette)) (h_law_moments : OkF P w K mg base 2 "_law_moments" ["_law_script", "_law_start", "_law_many", "_law_palette_here"] (spF K cv fm_law_moments)) (h_law_cell : OkF P w K mg base 1 "_law_cell" ["_law_script", "_law_k"] (spF K cv fm_law_cell)) : OkF P w K mg base (2 + 1) "_law_run" ["_law_script"] (spF K cv fm_law_run) :=
  ok_T (k := 2) D sc_law_run (fun f cdv A outer s H E hr =>
  (ds_cons (ds_asg sc_law_run.nd (i := 1) rfl (by first | exact .inl rfl | exact .inr rfl) (d_shr (d_fn h_law_palette (hr.mono (by omega)) (by rfl) (takes_of rfl rfl rfl rfl) rfl (da_cons (d_name (pv 0)) da_nil))))
  (ds_cons (ds_asg sc_law_run.nd (i := 2) rfl (by first | exact .inl rfl | exact .inr rfl) (d_shr (d_op op_mod l_mod (d_fn h_law_cell (hr.mono (by omega)) (by rfl) (takes_of rfl rfl rfl rfl) rfl (da_cons (d_name (pv 0)) (da_cons d_int da_nil))) d_int)))
  (ds_cons (ds_asg sc_law_run.nd (i := 3) rfl (by first | exact .inl rfl | exact .inr rfl) (d_shr (d_op op_addAll l_add d_int (d_op op_mod l_mod (d_fn h_law_cell (hr.mono (by omega)) (by rfl) (takes_of rfl rfl rfl rfl) rfl (da_cons (d_name (pv 0)) (da_cons d_int da_nil))) d_int))))
  (ds_cons (ds_if (dt_cmp (op_eqT (hu200 hr)) l_eq (d_op op_mod l_mod (d_fn h_law_cell (hr.mono (by omega)) (by rfl) (takes_of rfl rfl rfl rfl) rfl (da_cons (d_name (pv 0)) (da_cons d_int da_nil))) d_int) d_int (nomark _)) (ds_cons (ds_asg sc_law_run.nd (i := 2) rfl (by first | exact .inl rfl | exact .inr rfl) (d_shr (d_op op_mod l_mod (d_op op_fdiv l_div (d_fn h_law_cell (hr.mono (by omega)) (by rfl) (takes_of rfl rfl rfl rfl) rfl (da_cons (d_name (pv 0)) (da_cons d_int da_nil))) d_int) d_int)))
  (ds_one (ds_asg sc_law_run.nd (i := 3) rfl (by first | exact .inl rfl | exact .inr rfl) (d_shr (d_op op_addAll l_add d_int (d_op op_mod l_mod (d_op op_fdiv l_div (d_fn h_law_cell (hr.mono (by omega)) (by rfl) (takes_of rfl rfl rfl rfl) rfl (da_cons (d_name (pv 0)) (da_cons d_int da_nil))) d_int) d_int)))))) ds_nil)
  (ds_cons (ds_asg sc_law_run.nd (i := 4) rfl (by first | exact .inl rfl | exact .inr rfl) (d_shr (d_fn h_law_moments (hr.mono (by omega)) (by rfl) (takes_of rfl rfl rfl rfl) rfl (da_cons (d_name (pv 0)) (da_cons d_int (da_cons (d_name (pv 2)) (da_cons (d_name (pv 1)) da_nil)))))))
  (ds_one (ds_ret (d_tup (da_cons (d_name (pv 4)) (da_cons (d_fn h_law_moments (hr.mono (by omega)) (by rfl) (takes_of rfl rfl rfl rfl) rfl (da_cons (d_name (pv 0)) (da_cons (d_op op_addAll l_add d_int (d_name (pv 2))) (da_cons (d_name (pv 3)) (da_cons (d_name (pv 1)) da_nil))))) da_nil))))))))))) fmOf_hm
/-! ### _law_said -/
abbrev st_law_said : Stmt := topS 12
theorem sc_law_said : FnScope ["_law_script", "_law_some", "_law_start", "_law_longer", "_law_k", "_law_times"] ["_law_script", "_law_some", "_law_start"] (defScope st_law_said) := ⟨rfl, rfl, rfl, by decide +kernel, rfl, by decide +kernel, by decide +kernel⟩
noncomputable def bd_law_said_1 : Sv :=
  (sSeq (sAsg 5 (vShr (v2 (vC (.int 1)) (v2 (v2 (vA (aCons (vName 0) (aCons (v2 (vName 2) (vName 4) gAdd) aNil)) (gCall [.d, .d] fm_law_cell)) (vC (.int 3)) gDiv) (vC (.int 3)) gMod) gAdd)))
  (sSeq (sIf (tAnd2 (t1 (v2 (vName 4) (vC (.int 0)) gEq)) (t1 (v2 (v2 (v2 (vA (aCons (vName 0) (aCons (vName 2) aNil)) (gCall [.d, .d] fm_law_cell)) (vC (.int 9)) gDiv) (vC (.int 8)) gMod) (vC (.int 5)) gEq))) (sAsg 5 (vShr (v2 (vC (.int 1)) (v2 (v2 (vA (aCons (vName 0) (aCons (vName 2) aNil)) (gCall [.d, .d] fm_law_cell)) (vC (.int 72)) gDiv) (vC (.int 2900)) gMod) gAdd))) sNil)
  (sExpr (vMt "list" (vName 3) (aCons (v2 (vA (aCons (v2 (vName 1) (vName 4) gIx) aNil) gLst) (vName 5) gMul) aNil) gExtend))))
noncomputable def sb_law_said : Sv :=
  (sSeq (sAsg 3 (vA aNil gLst))
  (sSeq (sFor (iR1 (aCons (vA (aCons (vName 1) aNil) (g1 gLen)) aNil)) (tfName 4)
  bd_law_said_1)
  (sRet (vName 3))))
noncomputable def fm_law_said : List Ag → Fr := fmOf 3 6 sb_law_said
theorem ok_law_said (D : Dx K mg "_law_said" st_law_said ["_law_script", "_law_some", "_law_start"]) (z_len : mg "len" = none) (z_range : mg "range" = none) (h_law_cell : OkF P w K mg base 1 "_law_cell" ["_law_script", "_law_k"] (spF K cv fm_law_cell)) : OkF P w K mg base (1 + 1) "_law_said" ["_law_script", "_law_some", "_law_start"] (spF K cv fm_law_said) :=
  ok_T (k := 1) D sc_law_said (fun f cdv A outer s H E hr =>
  (ds_cons (ds_asg sc_law_said.nd (i := 3) rfl (by first | exact .inl rfl | exact .inr rfl) (d_lst da_nil))
  (ds_cons (ds_for (passes_of rfl) rfl (di_range1 (by rfl) z_range (da_cons (d_blt call_len (lift_g1 l_len) (by rfl) z_len (da_cons (d_name (pv 1)) da_nil)) da_nil)) (pg_name (i := 4) sc_law_said.nd rfl (by first | exact .inl rfl | exact .inr rfl)) tgt_name
  (ds_cons (ds_asg sc_law_said.nd (i := 5) rfl (by first | exact .inl rfl | exact .inr rfl) (d_shr (d_op op_addAll l_add d_int (d_op op_mod l_mod (d_op op_fdiv l_div (d_fn h_law_cell (hr.mono (by omega)) (by rfl) (takes_of rfl rfl rfl rfl) rfl (da_cons (d_name (pv 0)) (da_cons (d_op op_addAll l_add (d_name (pv 2)) (d_name (pv 4))) da_nil))) d_int) d_int))))
  (ds_cons (ds_if (PW.pt (dw_and (dt_cmp (op_eqT (hu200 hr)) l_eq (d_name (pv 4)) d_int (nomark _)) (dw_and1 (dt_cmp (op_eqT (hu200 hr)) l_eq (d_op op_mod l_mod (d_op op_fdiv l_div (d_fn h_law_cell (hr.mono (by omega)) (by rfl) (takes_of rfl rfl rfl rfl) rfl (da_cons (d_name (pv 0)) (da_cons (d_name (pv 2)) da_nil))) d_int) d_int) d_int (nomark _))))) (ds_one (ds_asg sc_law_said.nd (i := 5) rfl (by first | exact .inl rfl | exact .inr rfl) (d_shr (d_op op_addAll l_add d_int (d_op op_mod l_mod (d_op op_fdiv l_div (d_fn h_law_cell (hr.mono (by omega)) (by rfl) (takes_of rfl rfl rfl rfl) rfl (da_cons (d_name (pv 0)) (da_cons (d_name (pv 2)) da_nil))) d_int) d_int))))) ds_nil)
  (ds_one (ds_expr (d_mt PySem.F.plainAttrs_list PySem.F.slot_list_extend PySem.F.type_list_extend mt_extend l_extend (d_name (pv 3)) (da_cons (d_op op_mulAll l_mul (d_lst (da_cons (d_ix (d_name (pv 1)) (d_name (pv 4)) rfl) da_nil)) (d_name (pv 5))) da_nil) rfl))))))
  (ds_one (ds_ret (d_name (pv 3))))))) fmOf_hm
/-! ### _law_at -/
abbrev st_law_at : Stmt := topS 13
theorem sc_law_at : FnScope ["_law_run_here", "_law_place"] ["_law_run_here", "_law_place"] (defScope st_law_at) := ⟨rfl, rfl, rfl, by decide +kernel, rfl, by decide +kernel, by decide +kernel⟩
noncomputable def sb_law_at : Sv :=
  (sSeq (sIf (t1 (v2 (vName 1) (vA (aCons (v2 (vName 0) (vC (.int 0)) gIx) aNil) (g1 gLen)) gLt)) (sRet (v2 (v2 (vName 0) (vC (.int 0)) gIx) (vName 1) gIx)) sNil)
  (sRet (v2 (v2 (vName 0) (vC (.int 1)) gIx) (v2 (v2 (vName 1) (vA (aCons (v2 (vName 0) (vC (.int 0)) gIx) aNil) (g1 gLen)) gSub) (vA (aCons (v2 (vName 0) (vC (.int 1)) gIx) aNil) (g1 gLen)) gMod) gIx)))
noncomputable def fm_law_at : List Ag → Fr := fmOf 2 2 sb_law_at
theorem ok_law_at (D : Dx K mg "_law_at" st_law_at ["_law_run_here", "_law_place"]) (z_len : mg "len" = none) : OkF P w K mg base (0 + 1) "_law_at" ["_law_run_here", "_law_place"] (spF K cv fm_law_at) :=
  ok_T (k := 0) D sc_law_at (fun f cdv A outer s H E hr =>
  (ds_cons (ds_if (dt_cmp op_lt l_lt (d_name (pv 1)) (d_blt call_len (lift_g1 l_len) (by rfl) z_len (da_cons (d_ix (d_name (pv 0)) d_int rfl) da_nil)) (nomark _)) (ds_one (ds_ret (d_ix (d_ix (d_name (pv 0)) d_int rfl) (d_name (pv 1)) rfl))) ds_nil)
  (ds_one (ds_ret (d_ix (d_ix (d_name (pv 0)) d_int rfl) (d_op op_mod l_mod (d_op op_sub l_sub (d_name (pv 1)) (d_blt call_len (lift_g1 l_len) (by rfl) z_len (da_cons (d_ix (d_name (pv 0)) d_int rfl) da_nil))) (d_blt call_len (lift_g1 l_len) (by rfl) z_len (da_cons (d_ix (d_name (pv 0)) d_int rfl) da_nil))) rfl))))) fmOf_hm
/-! ### _law_neighbours -/
abbrev st_law_neighbours : Stmt := topS 14
theorem sc_law_neighbours : FnScope ["_law_run_here", "_law_many", "_law_shown", "_law_place", "_law_one"] ["_law_run_here", "_law_many"] (defScope st_law_neighbours) := ⟨rfl, rfl, rfl, by decide +kernel, rfl, by decide +kernel, by decide +kernel⟩
noncomputable def tw_law_neighbours_1 : EvT :=
  (t1 (v2 (vA (aCons (vName 2) aNil) (g1 gLen)) (vName 1) gLt))
noncomputable def bd_law_neighbours_1 : Sv :=
  (sSeq (sAsg 4 (vShr (vA (aCons (vName 0) (aCons (vName 3) aNil)) (gCall [.d, .d] fm_law_at))))
  (sSeq (sIf (tOr2 (t1 (v2 (vName 2) (vA aNil gLst) gEq)) (t1 (v2 (v2 (vName 2) (v1 (vC (.int 1)) gNeg) gIx) (vName 4) gNe))) (sExpr (vMt "list" (vName 2) (aCons (vName 4) aNil) gAppend)) sNil)
  (sAsg 3 (vShr (v2 (vName 3) (vC (.int 1)) gAdd)))))
noncomputable def sb_law_neighbours : Sv :=
  (sSeq (sAsg 2 (vA aNil gLst))
  (sSeq (sAsg 3 (vShr (vC (.int 0))))
  (sSeq (sWhile FU tw_law_neighbours_1
  bd_law_neighbours_1)
  (sRet (vName 2)))))
noncomputable def fm_law_neighbours : List Ag → Fr := fmOf 2 5 sb_law_neighbours
theorem ok_law_neighbours (D : Dx K mg "_law_neighbours" st_law_neighbours ["_law_run_here", "_law_many"]) (z_len : mg "len" = none) (h_law_at : OkF P w K mg base 1 "_law_at" ["_law_run_here", "_law_place"] (spF K cv fm_law_at)) : OkF P w K mg base (1 + 1) "_law_neighbours" ["_law_run_here", "_law_many"] (spF K cv fm_law_neighbours) :=
  ok_T (k := 1) D sc_law_neighbours (fun f cdv A outer s H E hr =>
  (ds_cons (ds_asg sc_law_neighbours.nd (i := 2) rfl (by first | exact .inl rfl | exact .inr rfl) (d_lst da_nil))
  (ds_cons (ds_asg sc_law_neighbours.nd (i := 3) rfl (by first | exact .inl rfl | exact .inr rfl) (d_shr d_int))
  (ds_cons (ds_while (passes_of rfl) (dt_cmp op_lt l_lt (d_blt call_len (lift_g1 l_len) (by rfl) z_len (da_cons (d_name (pv 2)) da_nil)) (d_name (pv 1)) (nomark _))
  (ds_cons (ds_asg sc_law_neighbours.nd (i := 4) rfl (by first | exact .inl rfl | exact .inr rfl) (d_shr (d_fn h_law_at (hr.mono (by omega)) (by rfl) (takes_of rfl rfl rfl rfl) rfl (da_cons (d_name (pv 0)) (da_cons (d_name (pv 3)) da_nil)))))
  (ds_cons (ds_if (PW.pt (dw_or (dt_cmp (op_eqT (hu200 hr)) l_eq (d_name (pv 2)) (d_lst da_nil) (nomark _)) (dw_or1 (dt_cmp (op_neT (hu200 hr)) l_ne (d_ix (d_name (pv 2)) (d_un un_neg l_neg d_int) rfl) (d_name (pv 4)) (nomark _))))) (ds_one (ds_expr (d_mt PySem.F.plainAttrs_list PySem.F.slot_list_append PySem.F.type_list_append mt_append l_append (d_name (pv 2)) (da_cons (d_name (pv 4)) da_nil) rfl))) ds_nil)
  (ds_one (ds_asg sc_law_neighbours.nd (i := 3) rfl (by first | exact .inl rfl | exact .inr rfl) (d_shr (d_op op_addAll l_add (d_name (pv 3)) d_int)))))))
  (ds_one (ds_ret (d_name (pv 2)))))))) fmOf_hm
/-! ### _law_a_run -/
abbrev st_law_a_run : Stmt := topS 15
theorem sc_law_a_run : FnScope ["_law_found", "_law_one"] ["_law_found"] (defScope st_law_a_run) := ⟨rfl, rfl, rfl, by decide +kernel, rfl, by decide +kernel, by decide +kernel⟩
noncomputable def bd_law_a_run_1 : Sv :=
  (sIf (tNot1 (t1 (vIsi (vName 1) .str))) (sRet (vC (.bl false))) sNil)
noncomputable def sb_law_a_run : Sv :=
  (sSeq (sIf (tOr2 (tNot1 (t1 (vIsi (vName 0) .tuple))) (t1 (v2 (vA (aCons (vName 0) aNil) (g1 gLen)) (vC (.int 2)) gNe))) (sRet (vC (.bl false))) sNil)
  (sSeq (sIf (tOr2 (tNot1 (t1 (vIsi (v2 (vName 0) (vC (.int 0)) gIx) .list))) (tOr2 (tNot1 (t1 (vIsi (v2 (vName 0) (vC (.int 1)) gIx) .list))) (t1 (v2 (vA (aCons (v2 (vName 0) (vC (.int 1)) gIx) aNil) (g1 gLen)) (vC (.int 0)) gEq)))) (sRet (vC (.bl false))) sNil)
  (sSeq (sFor (iL (v2 (v2 (vName 0) (vC (.int 0)) gIx) (v2 (vName 0) (vC (.int 1)) gIx) gAdd)) (tfName 1)
  bd_law_a_run_1)
  (sRet (vC (.bl true))))))
noncomputable def fm_law_a_run : List Ag → Fr := fmOf 1 2 sb_law_a_run
theorem ok_law_a_run (D : Dx K mg "_law_a_run" st_law_a_run ["_law_found"]) (z_isinstance : mg "isinstance" = none) (z_len : mg "len" = none) (z_list : mg "list" = none) (z_str : mg "str" = none) (z_tuple : mg "tuple" = none) : OkF P w K mg base (0 + 1) "_law_a_run" ["_law_found"] (spF K cv fm_law_a_run) :=
  ok_T (k := 0) D sc_law_a_run (fun f cdv A outer s H E hr =>
  (ds_cons (ds_if (PW.pt (dw_or (dt_not (dt_val (d_isi (by rfl) z_isinstance (d_name (pv 0)) (pe_bltn (by rfl) z_tuple (by decide +kernel) rfl) rfl))) (dw_or1 (dt_cmp (op_neT (hu200 hr)) l_ne (d_blt call_len (lift_g1 l_len) (by rfl) z_len (da_cons (d_name (pv 0)) da_nil)) d_int (nomark _))))) (ds_one (ds_ret d_bl)) ds_nil)
  (ds_cons (ds_if (PW.pt (dw_or (dt_not (dt_val (d_isi (by rfl) z_isinstance (d_ix (d_name (pv 0)) d_int rfl) (pe_bltn (by rfl) z_list (by decide +kernel) rfl) rfl))) (dw_or (dt_not (dt_val (d_isi (by rfl) z_isinstance (d_ix (d_name (pv 0)) d_int rfl) (pe_bltn (by rfl) z_list (by decide +kernel) rfl) rfl))) (dw_or1 (dt_cmp (op_eqT (hu200 hr)) l_eq (d_blt call_len (lift_g1 l_len) (by rfl) z_len (da_cons (d_ix (d_name (pv 0)) d_int rfl) da_nil)) d_int (nomark _)))))) (ds_one (ds_ret d_bl)) ds_nil)
  (ds_cons (ds_for (passes_of rfl) rfl (di_list (d_op op_addAll l_add (d_ix (d_name (pv 0)) d_int rfl) (d_ix (d_name (pv 0)) d_int rfl)) rfl) (pg_name (i := 1) sc_law_a_run.nd rfl (by first | exact .inl rfl | exact .inr rfl)) tgt_name
  (ds_one (ds_if (dt_not (dt_val (d_isi (by rfl) z_isinstance (d_name (pv 1)) (pe_bltn (by rfl) z_str (by decide +kernel) rfl) rfl))) (ds_one (ds_ret d_bl)) ds_nil)))
  (ds_one (ds_ret d_bl)))))) fmOf_hm
/-! ### _law_is_least -/
abbrev st_law_is_least : Stmt := topS 16
theorem sc_law_is_least : FnScope ["_law_found", "_law_many", "_law_part"] ["_law_found"] (defScope st_law_is_least) := ⟨rfl, rfl, rfl, by decide +kernel, rfl, by decide +kernel, by decide +kernel⟩
noncomputable def bd_law_is_least_1 : Sv :=
  (sIf (tAnd2 (t1 (v2 (v2 (vName 1) (vName 2) gMod) (vC (.int 0)) gEq)) (t1 (v2 (v2 (vSl (v2 (vName 0) (vC (.int 1)) gIx) (some (vName 2)) none) (vSl (v2 (vName 0) (vC (.int 1)) gIx) none (some (vName 2))) gAdd) (v2 (vName 0) (vC (.int 1)) gIx) gEq))) (sRet (vC (.bl false))) sNil)
noncomputable def sb_law_is_least : Sv :=
  (sSeq (sAsg 1 (vShr (vA (aCons (v2 (vName 0) (vC (.int 1)) gIx) aNil) (g1 gLen))))
  (sSeq (sFor (iR2 (aCons (vC (.int 1)) (aCons (vName 1) aNil))) (tfName 2)
  bd_law_is_least_1)
  (sRet (vOr2 (v2 (vA (aCons (v2 (vName 0) (vC (.int 0)) gIx) aNil) (g1 gLen)) (vC (.int 0)) gEq) (v2 (v2 (v2 (vName 0) (vC (.int 0)) gIx) (v1 (vC (.int 1)) gNeg) gIx) (v2 (v2 (vName 0) (vC (.int 1)) gIx) (v1 (vC (.int 1)) gNeg) gIx) gNe)))))
noncomputable def fm_law_is_least : List Ag → Fr := fmOf 1 3 sb_law_is_least
theorem ok_law_is_least (D : Dx K mg "_law_is_least" st_law_is_least ["_law_found"]) (z_len : mg "len" = none) (z_range : mg "range" = none) : OkF P w K mg base (0 + 1) "_law_is_least" ["_law_found"] (spF K cv fm_law_is_least) :=
  ok_T (k := 0) D sc_law_is_least (fun f cdv A outer s H E hr =>
  (ds_cons (ds_asg sc_law_is_least.nd (i := 1) rfl (by first | exact .inl rfl | exact .inr rfl) (d_shr (d_blt call_len (lift_g1 l_len) (by rfl) z_len (da_cons (d_ix (d_name (pv 0)) d_int rfl) da_nil))))
  (ds_cons (ds_for (passes_of rfl) rfl (di_range2 (by rfl) z_range (da_cons d_int (da_cons (d_name (pv 1)) da_nil))) (pg_name (i := 2) sc_law_is_least.nd rfl (by first | exact .inl rfl | exact .inr rfl)) tgt_name
  (ds_one (ds_if (PW.pt (dw_and (dt_cmp (op_eqT (hu200 hr)) l_eq (d_op op_mod l_mod (d_name (pv 1)) (d_name (pv 2))) d_int (nomark _)) (dw_and1 (dt_cmp (op_eqT (hu200 hr)) l_eq (d_op op_addAll l_add (d_sl (d_ix (d_name (pv 0)) d_int rfl) (do_some (d_name (pv 2))) do_none rfl) (d_sl (d_ix (d_name (pv 0)) d_int rfl) do_none (do_some (d_name (pv 2))) rfl)) (d_ix (d_name (pv 0)) d_int rfl) (nomark _))))) (ds_one (ds_ret d_bl)) ds_nil)))
  (ds_one (ds_ret (d_or (d_cmp (op_eqT (hu200 hr)) l_eq (d_blt call_len (lift_g1 l_len) (by rfl) z_len (da_cons (d_ix (d_name (pv 0)) d_int rfl) da_nil)) d_int (nomark _)) (d_one (d_cmp (op_neT (hu200 hr)) l_ne (d_ix (d_ix (d_name (pv 0)) d_int rfl) (d_un un_neg l_neg d_int) rfl) (d_ix (d_ix (d_name (pv 0)) d_int rfl) (d_un un_neg l_neg d_int) rfl) (nomark _))))))))) fmOf_hm
/-! ### _law_still -/
abbrev st_law_still : Stmt := topS 17
theorem sc_law_still : FnScope ["_law_found", "_law_run_here", "_law_left", "_law_one"] ["_law_found", "_law_run_here"] (defScope st_law_still) := ⟨rfl, rfl, rfl, by decide +kernel, rfl, by decide +kernel, by decide +kernel⟩
noncomputable def bd_law_still_1 : Sv :=
  (sIf (tOr2 (t1 (v2 (vName 2) (vA aNil gLst) gEq)) (t1 (v2 (v2 (vName 2) (v1 (vC (.int 1)) gNeg) gIx) (vName 3) gNe))) (sExpr (vMt "list" (vName 2) (aCons (vName 3) aNil) gAppend)) sNil)
noncomputable def sb_law_still : Sv :=
  (sSeq (sAsg 2 (vA aNil gLst))
  (sSeq (sFor (iL (v2 (v2 (vName 1) (vC (.int 0)) gIx) (vSl (v2 (vName 1) (vC (.int 1)) gIx) none (some (vC (.int 1)))) gAdd)) (tfName 3)
  bd_law_still_1)
  (sRet (v2 (vName 0) (vA (aCons (vSl (vName 2) none (some (v2 (vA (aCons (vName 2) aNil) (g1 gLen)) (vC (.int 1)) gSub))) (aCons (vSl (v2 (vName 1) (vC (.int 1)) gIx) none (some (vC (.int 1)))) aNil)) gTup) gEq))))
noncomputable def fm_law_still : List Ag → Fr := fmOf 2 4 sb_law_still
theorem ok_law_still (D : Dx K mg "_law_still" st_law_still ["_law_found", "_law_run_here"]) (z_len : mg "len" = none) : OkF P w K mg base (0 + 1) "_law_still" ["_law_found", "_law_run_here"] (spF K cv fm_law_still) :=
  ok_T (k := 0) D sc_law_still (fun f cdv A outer s H E hr =>
  (ds_cons (ds_asg sc_law_still.nd (i := 2) rfl (by first | exact .inl rfl | exact .inr rfl) (d_lst da_nil))
  (ds_cons (ds_for (passes_of rfl) rfl (di_list (d_op op_addAll l_add (d_ix (d_name (pv 1)) d_int rfl) (d_sl (d_ix (d_name (pv 1)) d_int rfl) do_none (do_some d_int) rfl)) rfl) (pg_name (i := 3) sc_law_still.nd rfl (by first | exact .inl rfl | exact .inr rfl)) tgt_name
  (ds_one (ds_if (PW.pt (dw_or (dt_cmp (op_eqT (hu200 hr)) l_eq (d_name (pv 2)) (d_lst da_nil) (nomark _)) (dw_or1 (dt_cmp (op_neT (hu200 hr)) l_ne (d_ix (d_name (pv 2)) (d_un un_neg l_neg d_int) rfl) (d_name (pv 3)) (nomark _))))) (ds_one (ds_expr (d_mt PySem.F.plainAttrs_list PySem.F.slot_list_append PySem.F.type_list_append mt_append l_append (d_name (pv 2)) (da_cons (d_name (pv 3)) da_nil) rfl))) ds_nil)))
  (ds_one (ds_ret (d_cmp (op_eqT (hu200 hr)) l_eq (d_name (pv 0)) (d_tup (da_cons (d_sl (d_name (pv 2)) do_none (do_some (d_op op_sub l_sub (d_blt call_len (lift_g1 l_len) (by rfl) z_len (da_cons (d_name (pv 2)) da_nil)) d_int)) rfl) (da_cons (d_sl (d_ix (d_name (pv 1)) d_int rfl) do_none (do_some d_int) rfl) da_nil))) (nomark _))))))) fmOf_hm
/-! ### _law_holds -/
abbrev st_law_holds : Stmt := topS 18
theorem sc_law_holds : FnScope ["_law_found", "_law_run_here", "_law_many", "_law_k"] ["_law_found", "_law_run_here"] (defScope st_law_holds) := ⟨rfl, rfl, rfl, by decide +kernel, rfl, by decide +kernel, by decide +kernel⟩
noncomputable def el_law_holds_1 : Ev :=
  (vA (aCons (vName 0) (aCons (vName 3) aNil)) (gCall [.d, .d] fm_law_at))
noncomputable def sb_law_holds : Sv :=
  (sSeq (sIf (tOr2 (tNot1 (t1 (vA (aCons (vName 0) aNil) (gCall [.d] fm_law_a_run)))) (tNot1 (t1 (vA (aCons (vName 0) aNil) (gCall [.d] fm_law_is_least))))) (sRet (vC (.bl false))) sNil)
  (sSeq (sIf (t1 (v2 (vMt "list" (v2 (vName 1) (vC (.int 1)) gIx) (aCons (v2 (v2 (vName 1) (vC (.int 1)) gIx) (vC (.int 0)) gIx) aNil) gCount) (vA (aCons (v2 (vName 1) (vC (.int 1)) gIx) aNil) (g1 gLen)) gEq)) (sRet (vA (aCons (vName 0) (aCons (vName 1) aNil)) (gCall [.d, .d] fm_law_still))) sNil)
  (sSeq (sIf (tOr2 (t1 (v2 (vA (aCons (v2 (vName 0) (vC (.int 0)) gIx) aNil) (g1 gLen)) (v2 (vA (aCons (v2 (vName 1) (vC (.int 0)) gIx) aNil) (g1 gLen)) (vA (aCons (v2 (vName 1) (vC (.int 1)) gIx) aNil) (g1 gLen)) gAdd) gGt)) (t1 (v2 (vA (aCons (v2 (vName 0) (vC (.int 1)) gIx) aNil) (g1 gLen)) (vA (aCons (v2 (vName 1) (vC (.int 1)) gIx) aNil) (g1 gLen)) gGt))) (sRet (vC (.bl false))) sNil)
  (sSeq (sAsg 2 (vShr (v2 (vA (aCons (v2 (vName 1) (vC (.int 0)) gIx) aNil) (g1 gLen)) (v2 (vC (.int 3)) (vA (aCons (v2 (vName 1) (vC (.int 1)) gIx) aNil) (g1 gLen)) gMul) gAdd)))
  (sRet (v2 (vA (aCons (vName 1) (aCons (vName 2) aNil)) (gCall [.d, .d] fm_law_neighbours)) (vLc false [3] (iR1 (aCons (vName 2) aNil)) (tfName 3) tYes1 el_law_holds_1) gEq))))))
noncomputable def fm_law_holds : List Ag → Fr := fmOf 2 4 sb_law_holds
theorem ok_law_holds (D : Dx K mg "_law_holds" st_law_holds ["_law_found", "_law_run_here"]) (z_len : mg "len" = none) (z_range : mg "range" = none) (h_law_still : OkF P w K mg base 1 "_law_still" ["_law_found", "_law_run_here"] (spF K cv fm_law_still)) (h_law_neighbours : OkF P w K mg base 2 "_law_neighbours" ["_law_run_here", "_law_many"] (spF K cv fm_law_neighbours)) (h_law_a_run : OkF P w K mg base 1 "_law_a_run" ["_law_found"] (spF K cv fm_law_a_run)) (h_law_is_least : OkF P w K mg base 1 "_law_is_least" ["_law_found"] (spF K cv fm_law_is_least)) (h_law_at : OkF P w K mg base 1 "_law_at" ["_law_run_here", "_law_place"] (spF K cv fm_law_at)) : OkF P w K mg base (2 + 1) "_law_holds" ["_law_found", "_law_run_here"] (spF K cv fm_law_holds) :=
  ok_T (k := 2) D sc_law_holds (fun f cdv A outer s H E hr =>
  (ds_cons (ds_if (PW.pt (dw_or (dt_not (dt_val (d_fn h_law_a_run (hr.mono (by omega)) (by rfl) (takes_of rfl rfl rfl rfl) rfl (da_cons (d_name (pv 0)) da_nil)))) (dw_or1 (dt_not (dt_val (d_fn h_law_is_least (hr.mono (by omega)) (by rfl) (takes_of rfl rfl rfl rfl) rfl (da_cons (d_name (pv 0)) da_nil))))))) (ds_one (ds_ret d_bl)) ds_nil)
  (ds_cons (ds_if (dt_cmp (op_eqT (hu200 hr)) l_eq (d_mt PySem.F.plainAttrs_list PySem.F.slot_list_count PySem.F.type_list_count (mt_countT (hu200 hr)) l_count (d_ix (d_name (pv 1)) d_int rfl) (da_cons (d_ix (d_ix (d_name (pv 1)) d_int rfl) d_int rfl) da_nil) rfl) (d_blt call_len (lift_g1 l_len) (by rfl) z_len (da_cons (d_ix (d_name (pv 1)) d_int rfl) da_nil)) (nomark _)) (ds_one (ds_ret (d_fn h_law_still (hr.mono (by omega)) (by rfl) (takes_of rfl rfl rfl rfl) rfl (da_cons (d_name (pv 0)) (da_cons (d_name (pv 1)) da_nil))))) ds_nil)
  (ds_cons (ds_if (PW.pt (dw_or (dt_cmp op_gt l_gt (d_blt call_len (lift_g1 l_len) (by rfl) z_len (da_cons (d_ix (d_name (pv 0)) d_int rfl) da_nil)) (d_op op_addAll l_add (d_blt call_len (lift_g1 l_len) (by rfl) z_len (da_cons (d_ix (d_name (pv 1)) d_int rfl) da_nil)) (d_blt call_len (lift_g1 l_len) (by rfl) z_len (da_cons (d_ix (d_name (pv 1)) d_int rfl) da_nil))) (nomark _)) (dw_or1 (dt_cmp op_gt l_gt (d_blt call_len (lift_g1 l_len) (by rfl) z_len (da_cons (d_ix (d_name (pv 0)) d_int rfl) da_nil)) (d_blt call_len (lift_g1 l_len) (by rfl) z_len (da_cons (d_ix (d_name (pv 1)) d_int rfl) da_nil)) (nomark _))))) (ds_one (ds_ret d_bl)) ds_nil)
  (ds_cons (ds_asg sc_law_holds.nd (i := 2) rfl (by first | exact .inl rfl | exact .inr rfl) (d_shr (d_op op_addAll l_add (d_blt call_len (lift_g1 l_len) (by rfl) z_len (da_cons (d_ix (d_name (pv 1)) d_int rfl) da_nil)) (d_op op_mulAll l_mul d_int (d_blt call_len (lift_g1 l_len) (by rfl) z_len (da_cons (d_ix (d_name (pv 1)) d_int rfl) da_nil))))))
  (ds_one (ds_ret (d_cmp (op_eqT (hu200 hr)) l_eq (d_fn h_law_neighbours (hr.mono (by omega)) (by rfl) (takes_of rfl rfl rfl rfl) rfl (da_cons (d_name (pv 1)) (da_cons (d_name (pv 2)) da_nil))) (d_lc (own := [("_law_k", 3)]) (o := false) rfl sc_law_holds.nd (di_range1 (by rfl) z_range (da_cons (d_name (pv 2)) da_nil)) (blkOk_by (by with_unfolding_all rfl)) (fun _ _ _ _ _ => (pg_name (i := 3) sc_law_holds.nd rfl (Or.inl rfl))) (fun _ _ _ _ _ => dts_nil) (fun _ _ _ _ _ => (d_fn h_law_at (hr.mono (by omega)) (by rfl) takes0 rfl (da_cons (d_name (pv 0)) (da_cons (d_name (pv 3)) da_nil)))) tgt_name wipe_name) (nomark _))))))))) fmOf_hm
/-! ### law -/
abbrev st_law : Stmt := topS 19
theorem sc_law : FnScope ["_law_script", "_law_run_here", "_law_longer", "_law_handed", "_law_kept", "_law_found", "_law_other"] ["_law_script"] (defScope st_law) := ⟨rfl, rfl, rfl, by decide +kernel, rfl, by decide +kernel, by decide +kernel⟩
noncomputable def sb_law : Sv :=
  (sSeq (sAsg 1 (vShr (vA (aCons (vName 0) aNil) (gCall [.d] fm_law_run))))
  (sSeq (sAsg 2 (vShr (vA (aCons (vA (aCons (vName 0) (aCons (v2 (vName 1) (vC (.int 0)) gIx) (aCons (vC (.int 40)) aNil))) (gCall [.d, .d, .d] fm_law_said)) (aCons (vA (aCons (vName 0) (aCons (v2 (vName 1) (vC (.int 1)) gIx) (aCons (v2 (vC (.int 41)) (vA (aCons (v2 (vName 1) (vC (.int 0)) gIx) aNil) (g1 gLen)) gAdd) aNil))) (gCall [.d, .d, .d] fm_law_said)) aNil)) gTup)))
  (sSeq (sAsg 3 (vShr (vA (aCons (vA (aCons (v2 (vName 1) (vC (.int 0)) gIx) aNil) (g1 gList)) (aCons (vA (aCons (v2 (vName 1) (vC (.int 1)) gIx) aNil) (g1 gList)) aNil)) gTup)))
  (sSeq (sAsg 4 (vShr (vA (aCons (vA (aCons (v2 (vName 2) (vC (.int 0)) gIx) aNil) (g1 gList)) (aCons (vA (aCons (v2 (vName 2) (vC (.int 1)) gIx) aNil) (g1 gList)) aNil)) gTup)))
  (sSeq (sAsg 5 (vA (aCons (vName 3) aNil) (gCall [.d] fm_thinned)))
  (sSeq (sAsg 6 (vShr (vA (aCons (vName 2) aNil) (gCall [.d] fm_thinned))))
  (sSeq (sIf (tOr2 (tNot1 (t1 (vA (aCons (vName 5) (aCons (vName 1) aNil)) (gCall [.d, .d] fm_law_holds)))) (tOr2 (tNot1 (t1 (vA (aCons (vName 6) (aCons (vName 1) aNil)) (gCall [.d, .d] fm_law_holds)))) (tOr2 (t1 (v2 (vName 3) (vName 1) gNe)) (t1 (v2 (vName 2) (vName 4) gNe))))) (sRet (vC (.bl false))) sNil)
  (sSeq (sIf (t1 (v2 (vName 5) (vName 6) gNe)) (sRet (vC (.bl false))) sNil)
  (sSeq (sExpr (vAppAt 5 0 (.str (Str.ofString "z"))))
  (sSeq (sExpr (vInsAt 5 1 0 (.str (Str.ofString "q"))))
  (sRet (vAnd2 (v2 (vName 3) (vName 1) gEq) (v2 (vA (aCons (vName 3) aNil) (gCall [.d] fm_thinned)) (vName 6) gEq)))))))))))))
noncomputable def fm_law : List Ag → Fr := fmOf 1 7 sb_law
theorem ok_law {f0 : Addr} {fd0 : FuncData} (D : Df K mg "law" st_law ["_law_script"] f0 fd0) (z_len : mg "len" = none) (z_list : mg "list" = none) (h_law_run : OkF P w K mg base 3 "_law_run" ["_law_script"] (spF K cv fm_law_run)) (h_thinned : OkF P w K mg base 3 "thinned" ["run"] (spF K cv fm_thinned)) (h_law_said : OkF P w K mg base 2 "_law_said" ["_law_script", "_law_some", "_law_start"] (spF K cv fm_law_said)) (h_law_holds : OkF P w K mg base 3 "_law_holds" ["_law_found", "_law_run_here"] (spF K cv fm_law_holds)) : FnOk P w K mg base (L2.CX P w) (3 + 1) f0 fd0 ["_law_script"] (spF K cv fm_law) :=
  okd_T (k := 3) D sc_law (fun f cdv A outer s H E hr =>
  (ds_cons (ds_asg sc_law.nd (i := 1) rfl (by first | exact .inl rfl | exact .inr rfl) (d_shr (d_fn h_law_run (hr.mono (by omega)) (by rfl) (takes_of rfl rfl rfl rfl) rfl (da_cons (d_name (pv 0)) da_nil))))
  (ds_cons (ds_asg sc_law.nd (i := 2) rfl (by first | exact .inl rfl | exact .inr rfl) (d_shr (d_tup (da_cons (d_fn h_law_said (hr.mono (by omega)) (by rfl) (takes_of rfl rfl rfl rfl) rfl (da_cons (d_name (pv 0)) (da_cons (d_ix (d_name (pv 1)) d_int rfl) (da_cons d_int da_nil)))) (da_cons (d_fn h_law_said (hr.mono (by omega)) (by rfl) (takes_of rfl rfl rfl rfl) rfl (da_cons (d_name (pv 0)) (da_cons (d_ix (d_name (pv 1)) d_int rfl) (da_cons (d_op op_addAll l_add d_int (d_blt call_len (lift_g1 l_len) (by rfl) z_len (da_cons (d_ix (d_name (pv 1)) d_int rfl) da_nil))) da_nil)))) da_nil)))))
  (ds_cons (ds_asg sc_law.nd (i := 3) rfl (by first | exact .inl rfl | exact .inr rfl) (d_shr (d_tup (da_cons (d_bty call_list_of (lift_g1 l_list) (by rfl) z_list (da_cons (d_ix (d_name (pv 1)) d_int rfl) da_nil)) (da_cons (d_bty call_list_of (lift_g1 l_list) (by rfl) z_list (da_cons (d_ix (d_name (pv 1)) d_int rfl) da_nil)) da_nil)))))
  (ds_cons (ds_asg sc_law.nd (i := 4) rfl (by first | exact .inl rfl | exact .inr rfl) (d_shr (d_tup (da_cons (d_bty call_list_of (lift_g1 l_list) (by rfl) z_list (da_cons (d_ix (d_name (pv 2)) d_int rfl) da_nil)) (da_cons (d_bty call_list_of (lift_g1 l_list) (by rfl) z_list (da_cons (d_ix (d_name (pv 2)) d_int rfl) da_nil)) da_nil)))))
  (ds_cons (ds_asg sc_law.nd (i := 5) rfl (by first | exact .inl rfl | exact .inr rfl) (d_fn h_thinned (hr.mono (by omega)) (by rfl) (takes_of rfl rfl rfl rfl) rfl (da_cons (d_name (pv 3)) da_nil)))
  (ds_cons (ds_asg sc_law.nd (i := 6) rfl (by first | exact .inl rfl | exact .inr rfl) (d_shr (d_fn h_thinned (hr.mono (by omega)) (by rfl) (takes_of rfl rfl rfl rfl) rfl (da_cons (d_name (pv 2)) da_nil))))
  (ds_cons (ds_if (PW.pt (dw_or (dt_not (dt_val (d_fn h_law_holds (hr.mono (by omega)) (by rfl) (takes_of rfl rfl rfl rfl) rfl (da_cons (d_name (pv 5)) (da_cons (d_name (pv 1)) da_nil))))) (dw_or (dt_not (dt_val (d_fn h_law_holds (hr.mono (by omega)) (by rfl) (takes_of rfl rfl rfl rfl) rfl (da_cons (d_name (pv 6)) (da_cons (d_name (pv 1)) da_nil))))) (dw_or (dt_cmp (op_neT (hu200 hr)) l_ne (d_name (pv 3)) (d_name (pv 1)) (nomark _)) (dw_or1 (dt_cmp (op_neT (hu200 hr)) l_ne (d_name (pv 2)) (d_name (pv 4)) (nomark _))))))) (ds_one (ds_ret d_bl)) ds_nil)
  (ds_cons (ds_if (dt_cmp (op_neT (hu200 hr)) l_ne (d_name (pv 5)) (d_name (pv 6)) (nomark _)) (ds_one (ds_ret d_bl)) ds_nil)
  (ds_cons (ds_expr (d_appAt (k := 5) (j := 0) (pv 5) pe_int (d_k d_str (fun n => by rfl)) rfl))
  (ds_cons (ds_expr (d_insAt (k := 5) (j := 1) (i := 0) (pv 5) pe_int pe_int (d_k d_str (fun n => by rfl)) rfl))
  (ds_one (ds_ret (d_and (d_cmp (op_eqT (hu200 hr)) l_eq (d_name (pv 3)) (d_name (pv 1)) (nomark _)) (d_one (d_cmp (op_eqT (hu200 hr)) l_eq (d_fn h_thinned (hr.mono (by omega)) (by rfl) (takes_of rfl rfl rfl rfl) rfl (da_cons (d_name (pv 3)) da_nil)) (d_name (pv 6)) (nomark _))))))))))))))))) fmOf_hm
end
/-! ### the top -/
theorem all_mk {P : Program} {w : World} {K : PySem.W.Frag} {h : Heap} {mg : Str → Option Value} {fa f0 f1 f2 f3 f4 f5 f6 f7 f8 f9 f10 f11 f12 f13 f14 f15 f16 f17 : Addr} (X : K.In h) (G : h.Ns mainGlobals mg) (hfa : mg "law" = some (.ref fa))
    {od0 an0 od1 an1 od2 an2 od3 an3 od4 an4 od5 an5 od6 an6 od7 an7 od8 an8 od9 an9 od10 an10 od11 an11 od12 an12 od13 an13 od14 an14 od15 an15 od16 an16 od17 an17 : Option Addr} {sl0 sl1 sl2 sl3 sl4 sl5 sl6 sl7 sl8 sl9 sl10 sl11 sl12 sl13 sl14 sl15 sl16 sl17 : Array (Option Value)} {oc0 kV0 dc0 pm0 cd0 ct0 oc1 kV1 dc1 pm1 cd1 ct1 oc2 kV2 dc2 pm2 cd2 ct2 oc3 kV3 dc3 pm3 cd3 ct3 oc4 kV4 dc4 pm4 cd4 ct4 oc5 kV5 dc5 pm5 cd5 ct5 oc6 kV6 dc6 pm6 cd6 ct6 oc7 kV7 dc7 pm7 cd7 ct7 oc8 kV8 dc8 pm8 cd8 ct8 oc9 kV9 dc9 pm9 cd9 ct9 oc10 kV10 dc10 pm10 cd10 ct10 oc11 kV11 dc11 pm11 cd11 ct11 oc12 kV12 dc12 pm12 cd12 ct12 oc13 kV13 dc13 pm13 cd13 ct13 oc14 kV14 dc14 pm14 cd14 ct14 oc15 kV15 dc15 pm15 cd15 ct15 oc16 kV16 dc16 pm16 cd16 ct16 oc17 kV17 dc17 pm17 cd17 ct17 : Value}
    (a0 : PySem.W.nsIn K mainGlobals "turned_ring" = some (some (.ref f0))) (l0 : K.lookup f0 = some ⟨oc0, od0, .func (PySem.W.fnOf "turned_ring" "turned_ring" (defArgs st_turned_ring) (defBody st_turned_ring) (defScope st_turned_ring) .none kV0 dc0 pm0 an0 cd0 ct0), sl0⟩) (c0 : PySem.W.codeIn K cd0 "turned_ring" = true) (k0 : PySem.W.keepIn K (.ref f0) = true)
    (a1 : PySem.W.nsIn K mainGlobals "least_ring" = some (some (.ref f1))) (l1 : K.lookup f1 = some ⟨oc1, od1, .func (PySem.W.fnOf "least_ring" "least_ring" (defArgs st_least_ring) (defBody st_least_ring) (defScope st_least_ring) .none kV1 dc1 pm1 an1 cd1 ct1), sl1⟩) (c1 : PySem.W.codeIn K cd1 "least_ring" = true) (k1 : PySem.W.keepIn K (.ref f1) = true)
    (a2 : PySem.W.nsIn K mainGlobals "least" = some (some (.ref f2))) (l2 : K.lookup f2 = some ⟨oc2, od2, .func (PySem.W.fnOf "least" "least" (defArgs st_least) (defBody st_least) (defScope st_least) .none kV2 dc2 pm2 an2 cd2 ct2), sl2⟩) (c2 : PySem.W.codeIn K cd2 "least" = true) (k2 : PySem.W.keepIn K (.ref f2) = true)
    (a3 : PySem.W.nsIn K mainGlobals "thin_list" = some (some (.ref f3))) (l3 : K.lookup f3 = some ⟨oc3, od3, .func (PySem.W.fnOf "thin_list" "thin_list" (defArgs st_thin_list) (defBody st_thin_list) (defScope st_thin_list) .none kV3 dc3 pm3 an3 cd3 ct3), sl3⟩) (c3 : PySem.W.codeIn K cd3 "thin_list" = true) (k3 : PySem.W.keepIn K (.ref f3) = true)
    (a4 : PySem.W.nsIn K mainGlobals "thinned" = some (some (.ref f4))) (l4 : K.lookup f4 = some ⟨oc4, od4, .func (PySem.W.fnOf "thinned" "thinned" (defArgs st_thinned) (defBody st_thinned) (defScope st_thinned) .none kV4 dc4 pm4 an4 cd4 ct4), sl4⟩) (c4 : PySem.W.codeIn K cd4 "thinned" = true) (k4 : PySem.W.keepIn K (.ref f4) = true)
    (a5 : PySem.W.nsIn K mainGlobals "_law_cell" = some (some (.ref f5))) (l5 : K.lookup f5 = some ⟨oc5, od5, .func (PySem.W.fnOf "_law_cell" "_law_cell" (defArgs st_law_cell) (defBody st_law_cell) (defScope st_law_cell) .none kV5 dc5 pm5 an5 cd5 ct5), sl5⟩) (c5 : PySem.W.codeIn K cd5 "_law_cell" = true) (k5 : PySem.W.keepIn K (.ref f5) = true)
    (a6 : PySem.W.nsIn K mainGlobals "_law_lit" = some (some (.ref f6))) (l6 : K.lookup f6 = some ⟨oc6, od6, .func (PySem.W.fnOf "_law_lit" "_law_lit" (defArgs st_law_lit) (defBody st_law_lit) (defScope st_law_lit) .none kV6 dc6 pm6 an6 cd6 ct6), sl6⟩) (c6 : PySem.W.codeIn K cd6 "_law_lit" = true) (k6 : PySem.W.keepIn K (.ref f6) = true)
    (a7 : PySem.W.nsIn K mainGlobals "_law_palette" = some (some (.ref f7))) (l7 : K.lookup f7 = some ⟨oc7, od7, .func (PySem.W.fnOf "_law_palette" "_law_palette" (defArgs st_law_palette) (defBody st_law_palette) (defScope st_law_palette) .none kV7 dc7 pm7 an7 cd7 ct7), sl7⟩) (c7 : PySem.W.codeIn K cd7 "_law_palette" = true) (k7 : PySem.W.keepIn K (.ref f7) = true)
    (a8 : PySem.W.nsIn K mainGlobals "_law_moments" = some (some (.ref f8))) (l8 : K.lookup f8 = some ⟨oc8, od8, .func (PySem.W.fnOf "_law_moments" "_law_moments" (defArgs st_law_moments) (defBody st_law_moments) (defScope st_law_moments) .none kV8 dc8 pm8 an8 cd8 ct8), sl8⟩) (c8 : PySem.W.codeIn K cd8 "_law_moments" = true) (k8 : PySem.W.keepIn K (.ref f8) = true)
    (a9 : PySem.W.nsIn K mainGlobals "_law_run" = some (some (.ref f9))) (l9 : K.lookup f9 = some ⟨oc9, od9, .func (PySem.W.fnOf "_law_run" "_law_run" (defArgs st_law_run) (defBody st_law_run) (defScope st_law_run) .none kV9 dc9 pm9 an9 cd9 ct9), sl9⟩) (c9 : PySem.W.codeIn K cd9 "_law_run" = true) (k9 : PySem.W.keepIn K (.ref f9) = true)
    (a10 : PySem.W.nsIn K mainGlobals "_law_said" = some (some (.ref f10))) (l10 : K.lookup f10 = some ⟨oc10, od10, .func (PySem.W.fnOf "_law_said" "_law_said" (defArgs st_law_said) (defBody st_law_said) (defScope st_law_said) .none kV10 dc10 pm10 an10 cd10 ct10), sl10⟩) (c10 : PySem.W.codeIn K cd10 "_law_said" = true) (k10 : PySem.W.keepIn K (.ref f10) = true)
    (a11 : PySem.W.nsIn K mainGlobals "_law_at" = some (some (.ref f11))) (l11 : K.lookup f11 = some ⟨oc11, od11, .func (PySem.W.fnOf "_law_at" "_law_at" (defArgs st_law_at) (defBody st_law_at) (defScope st_law_at) .none kV11 dc11 pm11 an11 cd11 ct11), sl11⟩) (c11 : PySem.W.codeIn K cd11 "_law_at" = true) (k11 : PySem.W.keepIn K (.ref f11) = true)
    (a12 : PySem.W.nsIn K mainGlobals "_law_neighbours" = some (some (.ref f12))) (l12 : K.lookup f12 = some ⟨oc12, od12, .func (PySem.W.fnOf "_law_neighbours" "_law_neighbours" (defArgs st_law_neighbours) (defBody st_law_neighbours) (defScope st_law_neighbours) .none kV12 dc12 pm12 an12 cd12 ct12), sl12⟩) (c12 : PySem.W.codeIn K cd12 "_law_neighbours" = true) (k12 : PySem.W.keepIn K (.ref f12) = true)
    (a13 : PySem.W.nsIn K mainGlobals "_law_a_run" = some (some (.ref f13))) (l13 : K.lookup f13 = some ⟨oc13, od13, .func (PySem.W.fnOf "_law_a_run" "_law_a_run" (defArgs st_law_a_run) (defBody st_law_a_run) (defScope st_law_a_run) .none kV13 dc13 pm13 an13 cd13 ct13), sl13⟩) (c13 : PySem.W.codeIn K cd13 "_law_a_run" = true) (k13 : PySem.W.keepIn K (.ref f13) = true)
    (a14 : PySem.W.nsIn K mainGlobals "_law_is_least" = some (some (.ref f14))) (l14 : K.lookup f14 = some ⟨oc14, od14, .func (PySem.W.fnOf "_law_is_least" "_law_is_least" (defArgs st_law_is_least) (defBody st_law_is_least) (defScope st_law_is_least) .none kV14 dc14 pm14 an14 cd14 ct14), sl14⟩) (c14 : PySem.W.codeIn K cd14 "_law_is_least" = true) (k14 : PySem.W.keepIn K (.ref f14) = true)
    (a15 : PySem.W.nsIn K mainGlobals "_law_still" = some (some (.ref f15))) (l15 : K.lookup f15 = some ⟨oc15, od15, .func (PySem.W.fnOf "_law_still" "_law_still" (defArgs st_law_still) (defBody st_law_still) (defScope st_law_still) .none kV15 dc15 pm15 an15 cd15 ct15), sl15⟩) (c15 : PySem.W.codeIn K cd15 "_law_still" = true) (k15 : PySem.W.keepIn K (.ref f15) = true)
    (a16 : PySem.W.nsIn K mainGlobals "_law_holds" = some (some (.ref f16))) (l16 : K.lookup f16 = some ⟨oc16, od16, .func (PySem.W.fnOf "_law_holds" "_law_holds" (defArgs st_law_holds) (defBody st_law_holds) (defScope st_law_holds) .none kV16 dc16 pm16 an16 cd16 ct16), sl16⟩) (c16 : PySem.W.codeIn K cd16 "_law_holds" = true) (k16 : PySem.W.keepIn K (.ref f16) = true)
    (a17 : PySem.W.nsIn K mainGlobals "law" = some (some (.ref f17))) (l17 : K.lookup f17 = some ⟨oc17, od17, .func (PySem.W.fnOf "law" "law" (defArgs st_law) (defBody st_law) (defScope st_law) .none kV17 dc17 pm17 an17 cd17 ct17), sl17⟩) (c17 : PySem.W.codeIn K cd17 "law" = true) (k17 : PySem.W.keepIn K (.ref f17) = true)
    (zz_isinstance : PySem.W.nsIn K mainGlobals "isinstance" = some none) (zz_len : PySem.W.nsIn K mainGlobals "len" = some none) (zz_list : PySem.W.nsIn K mainGlobals "list" = some none) (zz_range : PySem.W.nsIn K mainGlobals "range" = some none) (zz_str : PySem.W.nsIn K mainGlobals "str" = some none) (zz_tuple : PySem.W.nsIn K mainGlobals "tuple" = some none) :
    ∃ fd : FuncData, (∀ (s : Shared) (v : Value), BindsTo s fd ⟨[v], []⟩ [("_law_script", v)]) ∧ ∀ base : Heap, K.In base → base.Ns mainGlobals mg → FnOk P w K mg base (L2.CX P w) 4 fa fd ["_law_script"] (spF K (fun _ => .none) fm_law) := by
  have e := hfa.symm.trans (PySem.W.mg_of X G a17)
  cases e
  have d_turned_ring : Dx K mg "turned_ring" st_turned_ring ["ring", "many"] := ⟨_, _, Df.mk (ps := ["ring", "many"]) (fun_mk (st := st_turned_ring) l0 c0 k0) (PySem.W.mg_of X G a0) fun us hl => match us, hl with | [_, _], _ => rfl⟩
  have d_least_ring : Dx K mg "least_ring" st_least_ring ["ring"] := ⟨_, _, Df.mk (ps := ["ring"]) (fun_mk (st := st_least_ring) l1 c1 k1) (PySem.W.mg_of X G a1) fun us hl => match us, hl with | [_], _ => rfl⟩
  have d_least : Dx K mg "least" st_least ["run"] := ⟨_, _, Df.mk (ps := ["run"]) (fun_mk (st := st_least) l2 c2 k2) (PySem.W.mg_of X G a2) fun us hl => match us, hl with | [_], _ => rfl⟩
  have d_thin_list : Dx K mg "thin_list" st_thin_list ["some"] := ⟨_, _, Df.mk (ps := ["some"]) (fun_mk (st := st_thin_list) l3 c3 k3) (PySem.W.mg_of X G a3) fun us hl => match us, hl with | [_], _ => rfl⟩
  have d_thinned : Dx K mg "thinned" st_thinned ["run"] := ⟨_, _, Df.mk (ps := ["run"]) (fun_mk (st := st_thinned) l4 c4 k4) (PySem.W.mg_of X G a4) fun us hl => match us, hl with | [_], _ => rfl⟩
  have d_law_cell : Dx K mg "_law_cell" st_law_cell ["_law_script", "_law_k"] := ⟨_, _, Df.mk (ps := ["_law_script", "_law_k"]) (fun_mk (st := st_law_cell) l5 c5 k5) (PySem.W.mg_of X G a5) fun us hl => match us, hl with | [_, _], _ => rfl⟩
  have d_law_lit : Dx K mg "_law_lit" st_law_lit ["_law_number"] := ⟨_, _, Df.mk (ps := ["_law_number"]) (fun_mk (st := st_law_lit) l6 c6 k6) (PySem.W.mg_of X G a6) fun us hl => match us, hl with | [_], _ => rfl⟩
  have d_law_palette : Dx K mg "_law_palette" st_law_palette ["_law_script"] := ⟨_, _, Df.mk (ps := ["_law_script"]) (fun_mk (st := st_law_palette) l7 c7 k7) (PySem.W.mg_of X G a7) fun us hl => match us, hl with | [_], _ => rfl⟩
  have d_law_moments : Dx K mg "_law_moments" st_law_moments ["_law_script", "_law_start", "_law_many", "_law_palette_here"] := ⟨_, _, Df.mk (ps := ["_law_script", "_law_start", "_law_many", "_law_palette_here"]) (fun_mk (st := st_law_moments) l8 c8 k8) (PySem.W.mg_of X G a8) fun us hl => match us, hl with | [_, _, _, _], _ => rfl⟩
  have d_law_run : Dx K mg "_law_run" st_law_run ["_law_script"] := ⟨_, _, Df.mk (ps := ["_law_script"]) (fun_mk (st := st_law_run) l9 c9 k9) (PySem.W.mg_of X G a9) fun us hl => match us, hl with | [_], _ => rfl⟩
  have d_law_said : Dx K mg "_law_said" st_law_said ["_law_script", "_law_some", "_law_start"] := ⟨_, _, Df.mk (ps := ["_law_script", "_law_some", "_law_start"]) (fun_mk (st := st_law_said) l10 c10 k10) (PySem.W.mg_of X G a10) fun us hl => match us, hl with | [_, _, _], _ => rfl⟩
  have d_law_at : Dx K mg "_law_at" st_law_at ["_law_run_here", "_law_place"] := ⟨_, _, Df.mk (ps := ["_law_run_here", "_law_place"]) (fun_mk (st := st_law_at) l11 c11 k11) (PySem.W.mg_of X G a11) fun us hl => match us, hl with | [_, _], _ => rfl⟩
  have d_law_neighbours : Dx K mg "_law_neighbours" st_law_neighbours ["_law_run_here", "_law_many"] := ⟨_, _, Df.mk (ps := ["_law_run_here", "_law_many"]) (fun_mk (st := st_law_neighbours) l12 c12 k12) (PySem.W.mg_of X G a12) fun us hl => match us, hl with | [_, _], _ => rfl⟩
  have d_law_a_run : Dx K mg "_law_a_run" st_law_a_run ["_law_found"] := ⟨_, _, Df.mk (ps := ["_law_found"]) (fun_mk (st := st_law_a_run) l13 c13 k13) (PySem.W.mg_of X G a13) fun us hl => match us, hl with | [_], _ => rfl⟩
  have d_law_is_least : Dx K mg "_law_is_least" st_law_is_least ["_law_found"] := ⟨_, _, Df.mk (ps := ["_law_found"]) (fun_mk (st := st_law_is_least) l14 c14 k14) (PySem.W.mg_of X G a14) fun us hl => match us, hl with | [_], _ => rfl⟩
  have d_law_still : Dx K mg "_law_still" st_law_still ["_law_found", "_law_run_here"] := ⟨_, _, Df.mk (ps := ["_law_found", "_law_run_here"]) (fun_mk (st := st_law_still) l15 c15 k15) (PySem.W.mg_of X G a15) fun us hl => match us, hl with | [_, _], _ => rfl⟩
  have d_law_holds : Dx K mg "_law_holds" st_law_holds ["_law_found", "_law_run_here"] := ⟨_, _, Df.mk (ps := ["_law_found", "_law_run_here"]) (fun_mk (st := st_law_holds) l16 c16 k16) (PySem.W.mg_of X G a16) fun us hl => match us, hl with | [_, _], _ => rfl⟩
  have d_law := Df.mk (ps := ["_law_script"]) (fun_mk (st := st_law) l17 c17 k17) (PySem.W.mg_of X G a17) fun us hl => match us, hl with | [_], _ => rfl
  have z_isinstance := PySem.W.mg_none_of X G zz_isinstance
  have z_len := PySem.W.mg_none_of X G zz_len
  have z_list := PySem.W.mg_none_of X G zz_list
  have z_range := PySem.W.mg_none_of X G zz_range
  have z_str := PySem.W.mg_none_of X G zz_str
  have z_tuple := PySem.W.mg_none_of X G zz_tuple
  refine ⟨_, fun s v => .of_eq (d_law.b [v] rfl), fun base _ _ => ?_⟩
  have k_turned_ring := ok_turned_ring (P := P) (w := w) (base := base) (cv := fun _ => .none) d_turned_ring
  have k_least_ring := ok_least_ring (P := P) (w := w) (base := base) (cv := fun _ => .none) d_least_ring z_len z_list z_range
  have k_least := ok_least (P := P) (w := w) (base := base) (cv := fun _ => .none) d_least z_len k_least_ring k_turned_ring
  have k_thin_list := ok_thin_list (P := P) (w := w) (base := base) (cv := fun _ => .none) d_thin_list
  have k_thinned := ok_thinned (P := P) (w := w) (base := base) (cv := fun _ => .none) d_thinned z_len k_least k_turned_ring k_thin_list
  have k_law_cell := ok_law_cell (P := P) (w := w) (base := base) (cv := fun _ => .none) d_law_cell z_len
  have k_law_lit := ok_law_lit (P := P) (w := w) (base := base) (cv := fun _ => .none) d_law_lit
  have k_law_palette := ok_law_palette (P := P) (w := w) (base := base) (cv := fun _ => .none) d_law_palette z_range k_law_lit k_law_cell
  have k_law_moments := ok_law_moments (P := P) (w := w) (base := base) (cv := fun _ => .none) d_law_moments z_len z_range k_law_cell
  have k_law_run := ok_law_run (P := P) (w := w) (base := base) (cv := fun _ => .none) d_law_run k_law_palette k_law_moments k_law_cell
  have k_law_said := ok_law_said (P := P) (w := w) (base := base) (cv := fun _ => .none) d_law_said z_len z_range k_law_cell
  have k_law_at := ok_law_at (P := P) (w := w) (base := base) (cv := fun _ => .none) d_law_at z_len
  have k_law_neighbours := ok_law_neighbours (P := P) (w := w) (base := base) (cv := fun _ => .none) d_law_neighbours z_len k_law_at
  have k_law_a_run := ok_law_a_run (P := P) (w := w) (base := base) (cv := fun _ => .none) d_law_a_run z_isinstance z_len z_list z_str z_tuple
  have k_law_is_least := ok_law_is_least (P := P) (w := w) (base := base) (cv := fun _ => .none) d_law_is_least z_len z_range
  have k_law_still := ok_law_still (P := P) (w := w) (base := base) (cv := fun _ => .none) d_law_still z_len
  have k_law_holds := ok_law_holds (P := P) (w := w) (base := base) (cv := fun _ => .none) d_law_holds z_len z_range k_law_still k_law_neighbours k_law_a_run k_law_is_least k_law_at
  exact ok_law d_law z_len z_list k_law_run k_thinned k_law_said k_law_holds
end W
namespace W
open PySem PySem.Spec L2 T
open M (rot per wd pre Prim Pull RingOk LeastOk ThinOk Thn thin back turn)
theorem deq_lstr {l m : List Str} : deq (.lst (l.map .str)) (.lst (m.map .str)) = decide (l = m) := deq_lS
theorem ev_turned (l : List Str) (k : Nat) (sz : l.length ≤ 1000000) : fm_turned_ring [.d (lS l), .d (.int k)] = .ok true (lS (rot l k)) [] := by
  have h : inZ (l.length - k + min k l.length) = true := inZ_of (by omega)
  simp [fm_turned_ring, fmOf, sb_turned_ring, lS, rot, cut_hi, cut_lo, ← List.map_drop, ← List.map_take, h]
def lrStep (l : List Str) (_ : Unit) (i : Nat) : Sum (List Str) Unit := if per l (i + 1) then .inl (l.take (i + 1)) else .inr ()
theorem lr_ok (l : List Str) (h0 : 0 < l.length) : ∀ (n : Nat), n ≤ l.length - 1 → (∀ j, j < n → per l (j + 1) = false) → ∀ m, n + m = l.length - 1 →
    match sumL (lrStep l) ((List.range m).map (n + ·)) () with
    | .inl r => RingOk l r
    | .inr _ => RingOk l l
  | n, hn, hp, 0, hm => by
    simp only [List.range_zero, List.map_nil, sumL]
    refine ⟨h0, Nat.le_refl _, M.prim_of fun p h1 h2 => ?_, fun s n => rfl, l.length, by simp⟩
    have := hp (p - 1) (by omega)
    rwa [show p - 1 + 1 = p by omega] at this
  | n, hn, hp, m + 1, hm => by
    rw [List.range_succ_eq_map, List.map_cons, List.map_map]
    simp only [sumL, lrStep, Nat.add_zero]
    cases q : per l (n + 1) with
    | true =>
      simp only [if_pos]
      have e : (l.take (n + 1)).length = n + 1 := by simp; omega
      refine ⟨by omega, by omega, M.prim_take (by omega) (by omega) q fun p h1 h2 => ?_, fun s k => M.wd_take (by omega) (by omega) q k, _, rfl⟩
      have := hp (p - 1) (by omega)
      rwa [show p - 1 + 1 = p by omega] at this
    | false =>
      have z := lr_ok l h0 (n + 1) (by omega) (fun j hj => by
        by_cases h : j = n
        · rw [h]; exact q
        · exact hp j (by omega)) m (by omega)
      have e : (List.range m).map ((fun x => n + x) ∘ Nat.succ) = (List.range m).map (n + 1 + ·) := List.map_congr_left fun a _ => by simp; omega
      rw [e]
      simpa using z
theorem ev_least_ring (l : List Str) (sz : l.length ≤ 1000000) (h0 : 0 < l.length) : ∃ r, fm_least_ring [.d (lS l)] = .ok true (lS r) [] ∧ RingOk l r := by
  have key := forL_sum (tf := tfName 1) (body := bd_least_ring_1) (mk := fun i : Nat => .int (1 + (i : Int))) (fun (_ : Unit) en => ∃ s, en = [.fz (lS l), s]) (lrStep l) (fun r => .ow (lS r)) (List.range (l.length - 1)) () [.fz (lS l), .none] ⟨_, rfl⟩ (by
    rintro _ i en hi ⟨s, rfl⟩
    rw [List.mem_range] at hi
    obtain ⟨m, hm⟩ : ∃ m : Nat, m = i + 1 := ⟨_, rfl⟩
    have e1 : (1 + (i : Int)) = (m : Int) := by omega
    unfold lrStep
    rw [e1, ← hm]
    refine ⟨[.fz (lS l), .fz (.int m)], by simp, ?_⟩
    have e2 : (l.length : Int) - (m : Int) = ((l.length - m : Nat) : Int) := by omega
    have e4 : 0 < m := by omega
    have e5 : ((l.length : Int) % m = 0) ↔ l.length % m = 0 := by rw [← Int.natCast_emod]; exact Int.natCast_eq_zero
    by_cases h1 : l.length % m = 0
    · by_cases h2 : l.drop m = l.take (l.length - m)
      · have hp : per l m = true := by simp [per, h1, h2]
        rw [hp]
        refine ⟨[.fz (lS l), .fz (.int m)], ?_⟩
        simp [bd_least_ring_1, lS, e2, e4, e5, h1, h2, cut_hi, cut_lo, ← List.map_drop, ← List.map_take, deq_lstr]
      · have hp : per l m = false := by simp [per, h1, h2]
        rw [hp]
        refine ⟨[.fz (lS l), .fz (.int m)], ?_, _, rfl⟩
        simp [bd_least_ring_1, lS, e2, e4, e5, h1, h2, cut_hi, cut_lo, ← List.map_drop, ← List.map_take, deq_lstr]
    · have hp : per l m = false := by simp [per, h1]
      rw [hp]
      refine ⟨[.fz (lS l), .fz (.int m)], ?_, _, rfl⟩
      simp [bd_least_ring_1, lS, e2, e4, e5, h1, cut_hi, cut_lo, ← List.map_drop, ← List.map_take, deq_lstr])
  have e6 : ((l.length : Int) - 1).toNat = l.length - 1 := by omega
  have e7 : inR2 1 (l.length : Int) = true := inR2_of (by omega) (by omega) (by omega) (by omega)
  have ok := lr_ok l h0 0 (by omega) (fun j hj => by omega) (l.length - 1) (by omega)
  simp only [Nat.zero_add, List.map_id'] at ok
  simp [fm_least_ring, fmOf, sb_least_ring, lS, e6, e7, rangeD_map]
  cases q : sumL (lrStep l) (List.range (l.length - 1)) () with
  | inl r =>
    rw [q] at key ok
    obtain ⟨e2, key⟩ := key
    simp only [lS] at key
    rw [key]
    exact ⟨r, by simp, ok⟩
  | inr u =>
    rw [q] at key ok
    obtain ⟨e2, key, s, rfl⟩ := key
    simp only [lS] at key
    rw [key]
    exact ⟨l, by simp, ok⟩
/-- a run's data -/
def rn (s r : List Str) : D := .tup [lS s, lS r]
@[simp] theorem flat_rn {s r : List Str} : flat (rn s r) = false := rfl
theorem toNat_lt {z : Int} {n : Nat} (h : 0 ≤ z) (h2 : z < n) : z.toNat < n := by omega
theorem ev_least (s0 r0 : List Str) (z1 : s0.length ≤ 1000000) (z2 : r0.length ≤ 1000000) (h0 : 0 < r0.length) : ∃ s r, fm_least [.d (rn s0 r0)] = .ok true (rn s r) [] ∧ LeastOk s0 r0 s r := by
  obtain ⟨q, hq, R⟩ := ev_least_ring r0 z2 h0
  have zq : q.length ≤ 1000000 := Nat.le_trans R.le z2
  have key := whL_run (t := tw_least_1) (body := bd_least_1) (fun (k : Nat) en => en = [.fz (rn s0 r0), .fz (lS s0), .fz (lS q), .fz (.int k)] ∧ k ≤ s0.length ∧ ∀ n, wd (s0.take (s0.length - k)) (rot q (turn q k)) n = wd s0 q n)
    (fun k => decide (k < s0.length) && decide (s0.getD (s0.length - 1 - k) default = q.getD (back q k) default)) (fun k => k + 1) (fun k => s0.length - k) (by
    rintro k en ⟨rfl, hk, hw⟩
    refine ⟨[.fz (rn s0 r0), .fz (lS s0), .fz (lS q), .fz (.int k)], ?_, ?_⟩
    · by_cases h1 : k < s0.length
      · have e1 : (s0.length : Int) - 1 - k = ((s0.length - 1 - k : Nat) : Int) := by omega
        have e2 : s0.length - 1 - k < s0.length := by omega
        have b1 := Int.emod_nonneg (0 - 1 - (k : Int)) (b := q.length) (by have := R.pos; omega)
        have b2 := Int.emod_lt_of_pos (0 - 1 - (k : Int)) (b := q.length) (by have := R.pos; omega)
        have b3 : back q k < q.length := toNat_lt b1 b2
        have b4 : (0 - 1 - (k : Int)) % (q.length : Int) = ((back q k : Nat) : Int) := by unfold back; omega
        have p := R.pos
        have g1 := M.getD_get e2
        have g2 := M.getD_get b3
        generalize s0.getD (s0.length - 1 - k) default = x at *
        generalize q.getD (back q k) default = y at *
        simp only [Int.zero_sub] at b4
        simp [tw_least_1, lS, h1, e1, b4, p, atI_nat', g1, g2]
      · simp [tw_least_1, lS, h1]
    · by_cases h1 : k < s0.length
      · by_cases h2 : s0.getD (s0.length - 1 - k) default = q.getD (back q k) default
        · rw [if_pos (by simp only [h1, decide_true, h2, Bool.and_self])]
          refine ⟨[.fz (rn s0 r0), .fz (lS s0), .fz (lS q), .fz (.int ((k + 1 : Nat) : Int))], by simp [bd_least_1], ⟨rfl, by omega, fun n => ?_⟩, by omega⟩
          have z := M.wd_pull (s := s0) (r := q) (m := s0.length - 1 - k) (k := k) R.pos (by omega) h2 n
          rw [show s0.length - (k + 1) = s0.length - 1 - k by omega, z, show s0.length - 1 - k + 1 = s0.length - k by omega]
          exact hw n
        · rw [if_neg (by simp [h1]; exact h2)]
          exact ⟨rfl, hk, hw⟩
      · rw [if_neg (by simp [h1])]
        exact ⟨rfl, hk, hw⟩)
  obtain ⟨en', k, e1, ⟨rfl, hk, hw⟩, hc⟩ := key FU 0 [.fz (rn s0 r0), .fz (lS s0), .fz (lS q), .fz (.int 0)] ⟨rfl, by omega, fun n => by
    have : turn q 0 = 0 := by unfold turn; simp
    rw [this, Nat.sub_zero, List.take_length]
    simp [rot]⟩ (by show s0.length - 0 < FU; rw [FU_eq]; omega)
  refine ⟨s0.take (s0.length - k), rot q (turn q k), ?_, ?_⟩
  · have b4 : -(k : Int) % (q.length : Int) = ((turn q k : Nat) : Int) := by
      have := Int.emod_nonneg (0 - (k : Int)) (b := q.length) (by have := R.pos; omega)
      unfold turn
      rw [Int.toNat_of_nonneg this, Int.zero_sub]
    have e2 : (s0.length : Int) - k = ((s0.length - k : Nat) : Int) := by omega
    have p := R.pos
    have t := ev_turned q (turn q k) zq
    simp only [lS, rn] at e1 hq t
    simp [fm_least, fmOf, sb_least, lS, rn, hq, e1, b4, p, t, e2, cut_hi, ← List.map_take]
  · have tl := M.turn_lt (k := k) R.pos
    refine ⟨by rw [M.rot_len]; exact R.pos, by rw [M.rot_len]; exact R.le, by simp, M.rot_prim (by omega) R.prim, ?_, fun n => (hw n).trans (R.wd _ _)⟩
    by_cases h1 : k < s0.length
    · right
      have h2 : ¬ s0.getD (s0.length - 1 - k) default = q.getD (back q k) default := by
        intro z
        simp only [h1, decide_true, z, Bool.and_self] at hc
        cases hc
      intro z
      apply h2
      have l1 : (s0.take (s0.length - k)).length = s0.length - k := by simp
      rw [List.getLast?_eq_getElem?, List.getLast?_eq_getElem?, l1, M.rot_len, List.getElem?_take_of_lt (by omega), show s0.length - k - 1 = s0.length - 1 - k by omega, M.getD_get (by omega), M.getD_get (by rw [M.rot_len]; have := R.pos; omega), M.rot_get (by omega) (by have := R.pos; omega)] at z
      rw [Option.some.inj z, M.back_eq R.pos, M.turn_succ R.pos]
      refine congrArg (fun i => q.getD i default) ?_
      have p := R.pos
      split
      · rename_i h0
        rw [h0, Nat.add_zero, Nat.mod_eq_of_lt (by omega)]
      · rw [show q.length - 1 + turn q k = turn q k - 1 + q.length by omega, Nat.add_mod_right, Nat.mod_eq_of_lt (by omega)]
    · left
      rw [show s0.length - k = 0 by omega]
      simp
theorem deq_lnil {l : List Str} : deq (.lst (l.map .str)) (.lst []) = decide (l = []) := deq_lS (m := [])
theorem deq_lnn : deq (.lst []) (.lst []) = true := deq_lS (l := []) (m := [])
theorem ev_thin_list (l : List Str) (sz : l.length ≤ 1000000) : fm_thin_list [.d (lS l)] = .ok true (lS (thin l)) [] := by
  obtain ⟨en', e1, s, rfl⟩ := forL_pre (tf := tfName 2) (body := bd_thin_list_1) (mk := D.str) (fun (t : List Str) en => ∃ s, en = [.fz (lS l), .ow (lS (thin t)), s]) l (by
    rintro t x u en e ⟨s, rfl⟩
    have hl : (thin t).length ≤ 1000000 := by
      have := M.thin_len t
      have : l.length = t.length + (u.length + 1) := by rw [e]; simp
      omega
    refine ⟨[.fz (lS l), .ow (lS (thin t)), .fz (.str x)], [.fz (lS l), .ow (lS (thin (t ++ [x]))), .fz (.str x)], by simp, ?_, _, rfl⟩
    rw [M.thin_snoc]
    generalize thin t = a at *
    unfold M.thStep
    cases q : a.getLast? with
    | none =>
      have : a = [] := by simpa using q
      subst this
      simp [bd_thin_list_1, lS, deq_lnn]
    | some y =>
      have hn : a ≠ [] := by rintro rfl; simp at q
      have hz : inZl a.length = true := inZl_of (by omega)
      by_cases hy : y = x
      · subst hy
        simp [bd_thin_list_1, lS, deq_lnil, hn, q]
      · simp [bd_thin_list_1, lS, deq_lnil, hn, q, hy, hz]) [.fz (lS l), .ow (lS []), .none] ⟨_, rfl⟩
  simp only [lS] at e1
  simp [fm_thin_list, fmOf, sb_thin_list, lS]
  simp only [List.map_nil] at e1
  simp [e1]
theorem atI_pred {α : Type} {xs : List α} {k : Nat} : atI xs ((k : Int) - 1) = if k = 0 then xs.getLast? else xs[k - 1]? := by
  split
  · rename_i h
    subst h
    exact atI_m1
  · rw [show (k : Int) - 1 = ((k - 1 : Nat) : Int) by omega, atI_nat']
/-- the ring's place before -/
def prv (q : List Str) (k : Nat) : Nat := if k = 0 then q.length - 1 else k - 1
theorem prv_get {q : List Str} {k : Nat} (h : k < q.length) : atI q ((k : Int) - 1) = some (q.getD (prv q k) default) := by
  rw [atI_pred]
  unfold prv
  split
  · rw [List.getLast?_eq_getElem?, M.getD_get (by omega)]
  · rw [M.getD_get (by omega)]
theorem atI_map {α β : Type} {f : α → β} {xs : List α} {i : Int} : atI (xs.map f) i = (atI xs i).map f := by
  unfold atI
  rw [List.length_map]
  cases ixN xs.length i with
  | none => rfl
  | some j => simp
theorem turns {q : List Str} (h : 2 ≤ q.length) (P : Prim q) : ∃ k, k < q.length ∧ ¬ q.getD k default = q.getD (prv q k) default := by
  apply Classical.byContradiction
  intro z
  have z : ∀ k, k < q.length → q.getD k default = q.getD (prv q k) default := fun k hk => Classical.byContradiction fun w => z ⟨k, hk, w⟩
  refine P 1 (by omega) (by omega) (by simp [Nat.mod_one]) ?_
  apply M.ext_getD M.rot_len
  intro i hi
  rw [M.rot_len] at hi
  rw [M.rot_get (by omega) hi]
  have e := z ((i + 1) % q.length) (Nat.mod_lt _ (by omega))
  rw [e]
  refine congrArg (fun i => q.getD i default) ?_
  unfold prv
  by_cases h2 : i + 1 < q.length
  · rw [Nat.mod_eq_of_lt h2, if_neg (by omega)]
    omega
  · have : i + 1 = q.length := by omega
    rw [this, Nat.mod_self, if_pos rfl]
    omega
theorem ev_thinned (s0 r0 : List Str) (z1 : s0.length ≤ 300000) (z2 : r0.length ≤ 300000) (h0 : 0 < r0.length) : ∃ s r, fm_thinned [.d (rn s0 r0)] = .ok true (rn s r) [] ∧ ThinOk s0 r0 s r := by
  obtain ⟨s1, q, e1, L⟩ := ev_least s0 r0 (by omega) (by omega) h0
  have l1 := L.lr
  have l2 := L.ls
  have l3 := L.pos
  by_cases h1 : q.length = 1
  · obtain ⟨c, rfl⟩ : ∃ c, q = [c] := List.length_eq_one_iff.mp h1
    have t1 := ev_thin_list s1 (by omega)
    have t2 := M.thin_len s1
    obtain ⟨s, r, e2, L2⟩ := ev_least (thin s1) [c] (by omega) (by simp) (by simp)
    refine ⟨s, r, ?_, L2.pos, by have := L2.lr; simp at this; omega, by have := L2.ls; omega, L2.prim, L2.pull, ?_⟩
    · simp only [rn, lS, List.map_cons, List.map_nil] at e1 e2 t1
      simp [fm_thinned, fmOf, sb_thinned, rn, lS, e1, e2, t1]
    · rw [← funext L.wd, funext L2.wd]
      exact M.thn_const s1 c
  · obtain ⟨K, hK, hK2⟩ := turns (by omega) L.prim
    obtain ⟨en', k, e2, ⟨rfl, hk⟩, hc⟩ := whL_run (t := tw_thinned_1) (body := bd_thinned_1) (fun (k : Nat) en => en = [.fz (rn s0 r0), .fz (.int k), .none, .none, .fz (lS s1), .fz (lS q)] ∧ k ≤ K) (fun k => decide (q.getD k default = q.getD (prv q k) default)) (fun k => k + 1) (fun k => K - k) (by
      rintro k en ⟨rfl, hk⟩
      refine ⟨[.fz (rn s0 r0), .fz (.int k), .none, .none, .fz (lS s1), .fz (lS q)], ?_, ?_⟩
      · have g1 := M.getD_get (l := q) (i := k) (by omega)
        have g2 := prv_get (q := q) (k := k) (by omega)
        generalize q.getD k default = x at *
        generalize q.getD (prv q k) default = y at *
        simp [tw_thinned_1, lS, atI_nat', atI_map, g1, g2]
      · by_cases h2 : q.getD k default = q.getD (prv q k) default
        · rw [if_pos (by simp only [h2, decide_true])]
          have : k ≠ K := by rintro rfl; exact hK2 h2
          exact ⟨[.fz (rn s0 r0), .fz (.int ((k + 1 : Nat) : Int)), .none, .none, .fz (lS s1), .fz (lS q)], by simp [bd_thinned_1], ⟨rfl, by omega⟩, by omega⟩
        · rw [if_neg (by simp only [h2, decide_false]; exact Bool.false_ne_true)]
          exact ⟨rfl, hk⟩) FU 0 [.fz (rn s0 r0), .fz (.int 0), .none, .none, .fz (lS s1), .fz (lS q)] ⟨rfl, by omega⟩ (by show K - 0 < FU; rw [FU_eq]; omega)
    have hc : ¬ q.getD k default = q.getD (prv q k) default := fun z => by simp only [z, decide_true] at hc; cases hc
    have hkq : k < q.length := by omega
    obtain ⟨x, Y, hxy, hx⟩ : ∃ x Y, rot q k = x :: Y ∧ x = q.getD k default := by
      refine ⟨q.getD k default, q.drop (k + 1) ++ q.take k, ?_, rfl⟩
      unfold rot
      rw [List.drop_eq_getElem_cons hkq]
      simp only [List.getD, List.getElem?_eq_getElem hkq, List.cons_append, Option.getD_some]
    have hlen : (x :: Y).length = q.length := by rw [← hxy, M.rot_len]
    have hlast : (x :: Y).getLast? ≠ some x := by
      rw [← hxy, List.getLast?_eq_getElem?, M.rot_len, M.getD_get (by rw [M.rot_len]; omega), M.rot_get (by omega) (by omega), hx]
      intro z
      apply hc
      rw [← Option.some.inj z]
      refine congrArg (fun i => q.getD i default) ?_
      unfold prv
      split
      · rename_i h; rw [h, Nat.add_zero, Nat.mod_eq_of_lt (by omega)]
      · rw [show q.length - 1 + k = k - 1 + q.length by omega, Nat.add_mod_right, Nat.mod_eq_of_lt (by omega)]
    have t0 := ev_turned q k (by omega)
    rw [hxy] at t0
    have z3 : (s1 ++ q.take k ++ [x]).length ≤ 1000000 := by simp; omega
    have t1 := ev_thin_list (s1 ++ q.take k ++ [x]) z3
    have t2 := ev_thin_list (x :: Y) (by omega)
    have t3 := M.thin_len (s1 ++ q.take k ++ [x])
    have t4 := M.thin_len (x :: Y)
    have t5 : thin (s1 ++ q.take k ++ [x]) ≠ [] := M.thin_ne (by simp)
    have t6 := List.length_pos_iff.mpr t5
    have t7 : (s1 ++ q.take k ++ [x]).length = s1.length + k + 1 := by simp; omega
    have t8 : 0 < (thin (x :: Y)).length := List.length_pos_iff.mpr M.thin_cons_ne
    have tq := M.thn_ring (s1 ++ q.take k) x Y hlast
    generalize thin (s1 ++ q.take k ++ [x]) = W at *
    generalize thin (x :: Y) = V at *
    obtain ⟨s, r, e3, L2⟩ := ev_least W.dropLast V (by simp; omega) (by omega) t8
    have q1 := L2.lr
    have q2 := L2.ls
    refine ⟨s, r, ?_, L2.pos, by omega, ?_, L2.prim, L2.pull, ?_⟩
    · have a1 : inZ (s1.length + min k q.length) = true := inZ_of (by omega)
      have a2 : inZ (s1.length + min k q.length + 1) = true := inZ_of (by omega)
      have a3 : (W.length : Int) - 1 = ((W.length - 1 : Nat) : Int) := by omega
      have a4 : W.take (W.length - 1) = W.dropLast := by rw [List.dropLast_eq_take]
      have h1' : ¬ (q.length : Int) = 1 := by omega
      simp only [rn, lS, List.map_append, List.append_assoc, List.map_cons, List.map_nil] at e1 e2 e3 t0 t1 t2
      simp [fm_thinned, fmOf, sb_thinned, rn, lS, e1, h1', e2, t0, cut_hi, cut_hi_of, ← List.map_take, a1, a2, t1, a3, a4, t2, e3, flats_app, ← List.map_dropLast]
    · simp at q2; omega
    · rw [← funext L.wd, funext L2.wd]
      rw [← funext (M.wd_rot (s := s1) (r := q) (a := k) (by omega) (by omega)), hxy]
      exact tq
end W
namespace W
open PySem PySem.Spec L2 T
open M (rot per wd pre Prim Pull RingOk LeastOk ThinOk Thn thin back turn Stretch)
noncomputable def cell (ns : List Int) (x : Int) : Int := match fm_law_cell [.rd ns, .d (.int x)] with
  | .ok _ (.int i) _ => i
  | _ => 0
theorem ev_cell0 (ns : List Int) (k : Nat) (hk : k ≤ 1000) : ∃ i, fm_law_cell [.rd ns, .d (.int k)] = .ok false (.int i) [] := by
  have h6 : ¬ (k : Int) < 0 := by omega
  by_cases h : k < ns.length
  · simp [fm_law_cell, fmOf, sb_law_cell, atI_nat', h]
  · by_cases h2 : 0 < ns.length
    · have h3 : ((k : Int) * 7 % (ns.length : Int)).toNat < ns.length := by
        have := Int.emod_nonneg ((k : Int) * 7) (b := ns.length) (by omega)
        have := Int.emod_lt_of_pos ((k : Int) * 7) (b := ns.length) (by omega)
        omega
      have h4 := Int.emod_nonneg ((k : Int) * 7) (b := ns.length) (by omega)
      have h5 : kMul ((ns[((k : Int) * 7 % (ns.length : Int)).toNat] * 48271 + k * 7919) % 2147483647) ((ns[((k : Int) * 7 % (ns.length : Int)).toNat] * 48271 + k * 7919) % 2147483647) = true := kMul_r (by omega) (by omega)
      simp [fm_law_cell, fmOf, sb_law_cell, atI_nat', h, h2, atI_of h4, List.getElem?_eq_getElem h3, h5]
    · have h3 : ns = [] := by cases ns with | nil => rfl | cons _ _ => simp at h2
      subst h3
      have h5 : kMul ((k : Int) * 7919 + 5) ((k : Int) * 7919 + 5) = true := kMul_r (by omega) (by omega)
      simp [fm_law_cell, fmOf, sb_law_cell, h5, h6]
theorem ev_cell {ns : List Int} {x : Int} (h : 0 ≤ x) (h2 : x ≤ 1000) : fm_law_cell [.rd ns, .d (.int x)] = .ok false (.int (cell ns x)) [] := by
  obtain ⟨k, rfl⟩ := Int.eq_ofNat_of_zero_le h
  obtain ⟨i, e⟩ := ev_cell0 ns k (by omega)
  unfold cell
  rw [e]
theorem ev_lit (n : Int) : ∃ z, fm_law_lit [.d (.int n)] = .ok false (.str z) [] := by
  have hx : ((Str.ofString "abcdefghijklmnopqrstuvwxyz").cps.toList).length ≤ 1000 := by decide +kernel
  obtain ⟨en', e1, z, m, s, rfl, _⟩ := forL_nm (k := 2) (body := bd_law_lit_1) (mk := fun c : Nat => .str ⟨#[c]⟩) (fun (t : List Nat) en => ∃ z m s, en = [.fz (.int m), .fz (.str z), s] ∧ z.length ≤ t.length) ((Str.ofString "abcdefghijklmnopqrstuvwxyz").cps.toList) (by
    rintro t x u en e ⟨z, m, s, rfl, hz⟩
    have ht : t.length ≤ 1000 := by rw [e] at hx; simp at hx; omega
    have hl : (⟨#[x]⟩ : Str).length = 1 := rfl
    have h1 : inZ (z.length + 1) = true := inZ_of (by omega)
    by_cases q : m % 2 = 1
    · refine ⟨by simp, [.fz (.int (m / 2)), .fz (.str (z ++ ⟨#[x]⟩)), .fz (.str ⟨#[x]⟩)], by simp [bd_law_lit_1, q, hl, h1], _, _, _, rfl, ?_⟩
      rw [PySem.Str.length_append, List.length_append, hl]; simp; omega
    · refine ⟨by simp, [.fz (.int (m / 2)), .fz (.str z), .fz (.str ⟨#[x]⟩)], by simp [bd_law_lit_1, q], _, _, _, rfl, ?_⟩
      rw [List.length_append]; simp; omega) [.fz (.int n), .fz (.str (Str.ofString "")), .none] ⟨_, _, _, rfl, by decide +kernel⟩
  rw [← signs_map] at e1
  exact ⟨z, by simp [fm_law_lit, fmOf, sb_law_lit, e1]⟩
theorem ev_palette (ns : List Int) : ∃ p : List Str, fm_law_palette [.rd ns] = .ok true (lS p) [] ∧ 0 < p.length ∧ p.length ≤ 3 := by
  have b1 := Int.emod_nonneg (cell ns 0) (b := 3) (by omega)
  have b2 := Int.emod_lt_of_pos (cell ns 0) (b := 3) (by omega)
  obtain ⟨n, hn⟩ := Int.eq_ofNat_of_zero_le (show 0 ≤ 1 + cell ns 0 % 3 by omega)
  obtain ⟨en', e1, p, s, rfl, hp⟩ := forL_nm (k := 2) (body := bd_law_palette_1) (mk := fun i : Nat => .int (0 + (i : Int))) (fun (t : List Nat) en => ∃ (p : List Str) (s : Sl), en = [.rd ns, .ow (lS p), s] ∧ p.length = t.length) (List.range n) (by
    rintro t x u en e ⟨p, s, rfl, hp⟩
    have hx : x < n := by
      have : x ∈ List.range n := by rw [e]; simp
      exact List.mem_range.mp this
    have ht : t.length ≤ n := by
      have := congrArg List.length e
      simp at this
      omega
    have c := ev_cell (ns := ns) (x := 1 + (x : Int)) (by omega) (by omega)
    obtain ⟨z, hz⟩ := ev_lit (cell ns (1 + x) % 2 ^ 26)
    have h1 : inZl p.length = true := inZl_of (by omega)
    have h2 : kMod (2 ^ 26) = true := kMod_of (by decide)
    simp only [Int.reducePow] at hz h2
    exact ⟨by simp, [.rd ns, .ow (lS (p ++ [z])), .fz (.int x)], by simp [bd_law_palette_1, lS, c, hz, h1, h2], _, _, rfl, by simp [hp]⟩) [.rd ns, .ow (.lst []), .none] ⟨[], _, rfl, rfl⟩
  rw [← rangeD_map] at e1
  have c := ev_cell (ns := ns) (x := 0) (by omega) (by omega)
  have h1 : inR (n : Int) = true := inR_of (by omega) (by omega)
  simp only [lS] at e1
  refine ⟨p, ?_, by rw [hp, List.length_range]; omega, by rw [hp, List.length_range]; omega⟩
  simp [fm_law_palette, fmOf, sb_law_palette, c, lS, h1, hn, e1]
theorem ev_moments (ns : List Int) (a m : Int) (p : List Str) (ha : 0 ≤ a) (ha2 : a ≤ 300) (hm : 0 ≤ m) (hm2 : m ≤ 300) (hp : 0 < p.length) (hp2 : p.length ≤ 300) : ∃ l : List Str, fm_law_moments [.rd ns, .d (.int a), .d (.int m), .d (lS p)] = .ok true (lS l) [] ∧ (l.length : Int) = m := by
  obtain ⟨n, rfl⟩ := Int.eq_ofNat_of_zero_le hm
  obtain ⟨en', e1, q, s, rfl, hq⟩ := forL_nm (k := 5) (body := bd_law_moments_1) (mk := fun i : Nat => .int (0 + (i : Int))) (fun (t : List Nat) en => ∃ (q : List Str) (s : Sl), en = [.rd ns, .fz (.int a), .fz (.int n), .fz (lS p), .ow (lS q), s] ∧ q.length = t.length) (List.range n) (by
    rintro t x u en e ⟨q, s, rfl, hq⟩
    have hx : x < n := by
      have : x ∈ List.range n := by rw [e]; simp
      exact List.mem_range.mp this
    have ht : t.length ≤ n := by
      have := congrArg List.length e
      simp at this
      omega
    have c := ev_cell (ns := ns) (x := a + (x : Int)) (by omega) (by omega)
    have h1 : inZl q.length = true := inZl_of (by omega)
    have h2 : kDiv (cell ns (a + x)) (1 + (x : Int) % 2) = true := kDiv_of (by omega) (by omega)
    have b1 := Int.emod_nonneg (cell ns (a + x) / (1 + (x : Int) % 2)) (b := p.length) (by omega)
    have b2 := Int.emod_lt_of_pos (cell ns (a + x) / (1 + (x : Int) % 2)) (b := p.length) (by omega)
    have b3 : (cell ns (a + x) / (1 + (x : Int) % 2) % (p.length : Int)).toNat < p.length := toNat_lt b1 b2
    have b4 := atI_of (xs := p) b1
    rw [M.getD_get b3] at b4
    generalize p.getD (cell ns (a + ↑x) / (1 + ↑x % 2) % ↑p.length).toNat default = y at b4
    exact ⟨by simp, [.rd ns, .fz (.int a), .fz (.int n), .fz (lS p), .ow (lS (q ++ [y])), .fz (.int x)], by simp [bd_law_moments_1, lS, c, h1, h2, hp, atI_map, b4], _, _, rfl, by simp [hq]⟩) [.rd ns, .fz (.int a), .fz (.int n), .fz (lS p), .ow (.lst []), .none] ⟨[], _, rfl, rfl⟩
  rw [← rangeD_map] at e1
  have h1 : inR (n : Int) = true := inR_of (by omega) (by omega)
  simp only [lS] at e1
  refine ⟨q, ?_, by rw [hq, List.length_range]⟩
  simp [fm_law_moments, fmOf, sb_law_moments, lS, h1, e1]
theorem ev_run (ns : List Int) : ∃ s r : List Str, fm_law_run [.rd ns] = .ok false (rn s r) [] ∧ s.length ≤ 30 ∧ 0 < r.length ∧ r.length ≤ 30 := by
  obtain ⟨p, hp, p1, p2⟩ := ev_palette ns
  have c4 := ev_cell (ns := ns) (x := 4) (by omega) (by omega)
  have c5 := ev_cell (ns := ns) (x := 5) (by omega) (by omega)
  have c6 := ev_cell (ns := ns) (x := 6) (by omega) (by omega)
  simp only [lS] at hp
  by_cases h : cell ns 6 % 8 = 1
  · obtain ⟨s, e1, l1⟩ := ev_moments ns 7 (cell ns 4 / 9 % 31) p (by omega) (by omega) (by omega) (by omega) p1 (by omega)
    obtain ⟨r, e2, l2⟩ := ev_moments ns (7 + cell ns 4 / 9 % 31) (1 + cell ns 5 / 8 % 30) p (by omega) (by omega) (by omega) (by omega) p1 (by omega)
    simp only [lS] at e1 e2
    exact ⟨s, r, by simp [fm_law_run, fmOf, sb_law_run, hp, c4, c5, c6, h, e1, e2, lS, rn], by omega, by omega, by omega⟩
  · obtain ⟨s, e1, l1⟩ := ev_moments ns 7 (cell ns 4 % 9) p (by omega) (by omega) (by omega) (by omega) p1 (by omega)
    obtain ⟨r, e2, l2⟩ := ev_moments ns (7 + cell ns 4 % 9) (1 + cell ns 5 % 8) p (by omega) (by omega) (by omega) (by omega) p1 (by omega)
    simp only [lS] at e1 e2
    exact ⟨s, r, by simp [fm_law_run, fmOf, sb_law_run, hp, c4, c5, c6, h, e1, e2, lS, rn], by omega, by omega, by omega⟩
theorem ev_at (s r : List Str) (n : Nat) (h : 0 < r.length) : fm_law_at [.d (rn s r), .d (.int n)] = .ok false (.str (wd s r n)) [] := by
  by_cases h1 : n < s.length
  · have g := M.getD_get h1
    have e : wd s r n = s.getD n default := M.wd_lt h1
    rw [← e] at g
    have g2 : s[n] = wd s r n := (List.getElem?_eq_some_iff.mp g).2
    simp [fm_law_at, fmOf, sb_law_at, rn, lS, h1, atI_nat', g2]
  · have b1 : (n : Int) - s.length = ((n - s.length : Nat) : Int) := by omega
    have b2 : ((n - s.length : Nat) : Int) % (r.length : Int) = (((n - s.length) % r.length : Nat) : Int) := by rw [Int.natCast_emod]
    have g := M.getD_get (Nat.mod_lt (n - s.length) h)
    have e : wd s r n = r.getD ((n - s.length) % r.length) default := M.wd_ge (by omega)
    rw [← e] at g
    generalize (n - s.length) % r.length = j at *
    have b3 : ((n : Int) - s.length) % (r.length : Int) = (j : Int) := by rw [b1, b2]
    simp [fm_law_at, fmOf, sb_law_at, rn, lS, h1, b3, h, atI_nat', g]
theorem x_mt_app {α : Type} {a b : List α} : a ++ b = a ++ b := rfl
/-- what is said longer -/
theorem ev_said (ns : List Int) (l : List Str) (a : Int) (ha : 0 ≤ a) (ha2 : a ≤ 300) (hl : l.length ≤ 300) : ∃ l' : List Str, fm_law_said [.rd ns, .d (lS l), .d (.int a)] = .ok true (lS l') [] ∧ Stretch l l' ∧ l'.length ≤ 3000 * l.length := by
  obtain ⟨en', e1, q, s, s', rfl, hq, hz⟩ := forL_nm (k := 4) (body := bd_law_said_1) (mk := fun i : Nat => .int (0 + (i : Int))) (fun (t : List Nat) en => ∃ (q : List Str) (s s' : Sl), en = [.rd ns, .fz (lS l), .fz (.int a), .ow (lS q), s, s'] ∧ Stretch (l.take t.length) q ∧ q.length ≤ 3000 * t.length) (List.range l.length) (by
    rintro t x u en e ⟨q, s, s', rfl, hq, hz⟩
    have hx : x = t.length ∧ x < l.length := by
      have z : (List.range l.length)[t.length]? = some x := by rw [e]; simp
      have := List.getElem?_eq_some_iff.mp z
      obtain ⟨h1, h2⟩ := this
      simp at h1 h2
      exact ⟨h2.symm, by omega⟩
    obtain ⟨rfl, hx⟩ := hx
    have c := ev_cell (ns := ns) (x := a + (t.length : Int)) (by omega) (by omega)
    have c0 := ev_cell (ns := ns) (x := a) (by omega) (by omega)
    have g := M.getD_get hx
    have g2 : l[t.length] = l.getD t.length default := (List.getElem?_eq_some_iff.mp g).2
    generalize l.getD t.length default = y at *
    have key : ∀ m : Nat, 1 ≤ m → m ≤ 2900 → Stretch (l.take (t.length + 1)) (q ++ List.replicate m y) ∧ (q ++ List.replicate m y).length ≤ 3000 * (t.length + 1) := fun m h1 h2 => by
      refine ⟨?_, by simp; omega⟩
      obtain ⟨j, rfl⟩ : ∃ j, m = j + 1 := ⟨m - 1, by omega⟩
      rw [List.take_add_one, g]
      exact .snoc y j hq
    by_cases hh : t.length = 0 ∧ cell ns a / 9 % 8 = 5
    · obtain ⟨h1, hh⟩ := hh
      obtain rfl : t = [] := List.eq_nil_of_length_eq_zero h1
      have b1 := Int.emod_nonneg (cell ns a / 72) (b := 2900) (by omega)
      obtain ⟨m, hm⟩ := Int.eq_ofNat_of_zero_le (show 0 ≤ 1 + cell ns a / 72 % 2900 by omega)
      have k1 : kRep 1 (m : Int) = true := kRep_of (by omega) (by omega) (by simp; omega)
      obtain ⟨w1, w2⟩ := key m (by omega) (by omega)
      have k2 : inZ2 (q.length + m) true = true := inZ2_of (by omega) rfl
      simp only [List.length_nil] at g c hx g2
      refine ⟨by simp, [.rd ns, .fz (lS l), .fz (.int a), .ow (lS (q ++ List.replicate m y)), .fz (.int 0), .fz (.int m)], ?_, _, _, _, rfl, by simpa using w1, by simpa using w2⟩
      have f1 : flats (List.replicate m (D.str y)) = true := by rw [← List.map_replicate]; exact flats_str
      simp at c
      simp [bd_law_said_1, lS, c, c0, hh, hm, k1, k2, g2, hx, f1, flats_app]
    · have b1 := Int.emod_nonneg (cell ns (a + t.length) / 3) (b := 3) (by omega)
      obtain ⟨m, hm⟩ := Int.eq_ofNat_of_zero_le (show 0 ≤ 1 + cell ns (a + t.length) / 3 % 3 by omega)
      have k1 : kRep 1 (m : Int) = true := kRep_of (by omega) (by omega) (by simp; omega)
      obtain ⟨w1, w2⟩ := key m (by omega) (by omega)
      have k2 : inZ2 (q.length + m) true = true := inZ2_of (by omega) rfl
      refine ⟨by simp, [.rd ns, .fz (lS l), .fz (.int a), .ow (lS (q ++ List.replicate m y)), .fz (.int t.length), .fz (.int m)], ?_, _, _, _, rfl, by simpa using w1, by simpa using w2⟩
      have f1 : flats (List.replicate m (D.str y)) = true := by rw [← List.map_replicate]; exact flats_str
      by_cases h3 : t.length = 0
      · have h9 : ¬ cell ns a / 9 % 8 = 5 := fun z => hh ⟨h3, z⟩
        obtain rfl : t = [] := List.eq_nil_of_length_eq_zero h3
        simp only [List.length_nil] at g c hx g2 hm
        simp at c hm
        simp [bd_law_said_1, lS, c, c0, h9, hm, k1, k2, g2, hx, f1, flats_app]
      · have h4 : t ≠ [] := fun z => h3 (by rw [z]; rfl)
        simp [bd_law_said_1, lS, c, c0, h3, h4, hm, k1, k2, g2, hx, f1, flats_app, atI_nat']) [.rd ns, .fz (lS l), .fz (.int a), .ow (.lst []), .none, .none] ⟨[], _, _, rfl, .nil, by simp⟩
  rw [← rangeD_map] at e1
  have h1 : inR (l.length : Int) = true := inR_of (by omega) (by omega)
  rw [List.length_range, List.take_length] at hq
  rw [List.length_range] at hz
  simp only [lS] at e1
  refine ⟨q, ?_, hq, hz⟩
  simp [fm_law_said, fmOf, sb_law_said, lS, h1, e1]
end W
namespace W
open PySem PySem.Spec L2 T
open M (rot per wd pre Prim Pull RingOk LeastOk ThinOk Thn thin back turn Stretch)
theorem ev_neighbours (s r : List Str) (m : Nat) (h : 0 < r.length) (z1 : s.length ≤ 300) (z2 : r.length ≤ 300) (hm : m ≤ 3000) (hn : ∀ c, ∃ x ∈ r, x ≠ c) : ∃ n, fm_law_neighbours [.d (rn s r), .d (.int m)] = .ok true (lS (thin (pre (wd s r) n))) [] ∧ (thin (pre (wd s r) n)).length = m := by
  have big := M.thin_many (s := s) hn m
  have hb : m * r.length ≤ 3000 * 300 := Nat.mul_le_mul hm z2
  obtain ⟨en', n, e1, ⟨w, rfl, hl⟩, hc⟩ := whL_run (t := tw_law_neighbours_1) (body := bd_law_neighbours_1) (fun (n : Nat) en => ∃ w, en = [.fz (rn s r), .fz (.int m), .ow (lS (thin (pre (wd s r) n))), .fz (.int n), w] ∧ (thin (pre (wd s r) n)).length ≤ m) (fun n => decide ((thin (pre (wd s r) n)).length < m)) (fun n => n + 1) (fun n => s.length + m * r.length - n) (by
    rintro n en ⟨w, rfl, hl⟩
    refine ⟨[.fz (rn s r), .fz (.int m), .ow (lS (thin (pre (wd s r) n))), .fz (.int n), w], ?_, ?_⟩
    · simp [tw_law_neighbours_1, lS]
    · by_cases h1 : (thin (pre (wd s r) n)).length < m
      · rw [if_pos (by simp only [h1, decide_true])]
        have hnb : n < s.length + m * r.length := by
          apply Classical.byContradiction
          intro z
          have := (M.thin_mono (M.pre_le (w := wd s r) (show s.length + m * r.length ≤ n by omega))).length_le
          omega
        have a := ev_at s r n h
        have e : thin (pre (wd s r) (n + 1)) = M.thStep (thin (pre (wd s r) n)) (wd s r n) := by rw [M.pre_succ, M.thin_snoc]
        have e2 : (thin (pre (wd s r) (n + 1))).length ≤ m := by
          rw [e]
          unfold M.thStep
          split
          · omega
          · simp; omega
        refine ⟨[.fz (rn s r), .fz (.int m), .ow (lS (thin (pre (wd s r) (n + 1)))), .fz (.int ((n + 1 : Nat) : Int)), .fz (.str (wd s r n))], ?_, ⟨_, rfl, e2⟩, by omega⟩
        rw [e]
        clear e e2
        generalize thin (pre (wd s r) n) = t at *
        generalize wd s r n = x at *
        unfold M.thStep
        cases q : t.getLast? with
        | none =>
          have : t = [] := by simpa using q
          subst this
          simp [bd_law_neighbours_1, lS, a, deq_lnn]
        | some y =>
          have hn : t ≠ [] := by rintro rfl; simp at q
          have hz : inZl t.length = true := inZl_of (by omega)
          by_cases hy : y = x
          · subst hy
            simp [bd_law_neighbours_1, lS, a, deq_lnil, hn, q]
          · simp [bd_law_neighbours_1, lS, a, deq_lnil, hn, q, hy, hz]
      · rw [if_neg (by simp only [h1, decide_false]; exact Bool.false_ne_true)]
        exact ⟨w, rfl, hl⟩) FU 0 [.fz (rn s r), .fz (.int m), .ow (.lst []), .fz (.int 0), .none] ⟨_, rfl, by simp [pre, thin]⟩ (by show s.length + m * r.length - 0 < FU; rw [FU_eq]; omega)
  simp only [decide_eq_false_iff_not] at hc
  refine ⟨n, ?_, by omega⟩
  simp only [lS] at e1
  simp [fm_law_neighbours, fmOf, sb_law_neighbours, lS, e1]
theorem ev_a_run (s r : List Str) (z1 : s.length ≤ 30000) (z2 : r.length ≤ 30000) (h : 0 < r.length) : fm_law_a_run [.d (rn s r)] = .ok false (.bl true) [] := by
  obtain ⟨en', e1, w, rfl⟩ := forL_nm (k := 1) (body := bd_law_a_run_1) (mk := D.str) (fun (t : List Str) en => ∃ w, en = [.fz (rn s r), w]) (s ++ r) (by
    rintro t x u en e ⟨w, rfl⟩
    exact ⟨by simp, [.fz (rn s r), .fz (.str x)], by simp [bd_law_a_run_1, isA], _, rfl⟩) [.fz (rn s r), .none] ⟨_, rfl⟩
  have h1 : inZ (s.length + r.length) = true := inZ_of (by omega)
  have h2 : ¬ ((r.length : Int) = 0) := by omega
  have h3 : r ≠ [] := by rintro rfl; simp at h
  simp only [rn, lS, List.map_append] at e1
  simp [fm_law_a_run, fmOf, sb_law_a_run, rn, lS, isA, h1, h2, h3, e1]
theorem ev_is_least (s r : List Str) (z1 : s.length ≤ 30000) (z2 : r.length ≤ 30000) (h : 0 < r.length) (P : Prim r) (L : Pull s r) : fm_law_is_least [.d (rn s r)] = .ok false (.bl true) [] := by
  obtain ⟨en', e1, w, rfl⟩ := forL_nm (k := 2) (body := bd_law_is_least_1) (mk := fun i : Nat => .int (1 + (i : Int))) (fun (t : List Nat) en => ∃ w, en = [.fz (rn s r), .fz (.int r.length), w]) (List.range (r.length - 1)) (by
    rintro t x u en e ⟨w, rfl⟩
    have hx : x < r.length - 1 := by
      have : x ∈ List.range (r.length - 1) := by rw [e]; simp
      exact List.mem_range.mp this
    obtain ⟨m, hm⟩ : ∃ m : Nat, m = x + 1 := ⟨_, rfl⟩
    have e1 : (1 + (x : Int)) = (m : Int) := by omega
    refine ⟨by simp, [.fz (rn s r), .fz (.int r.length), .fz (.int m)], ?_, _, rfl⟩
    have e4 : 0 < m := by omega
    have e5 : ((r.length : Int) % m = 0) ↔ r.length % m = 0 := by rw [← Int.natCast_emod]; exact Int.natCast_eq_zero
    have hi : inZ (r.length - m + min m r.length) = true := inZ_of (by omega)
    by_cases h1 : r.length % m = 0
    · have h2 := P m (by omega) (by omega) h1
      unfold rot at h2
      simp [bd_law_is_least_1, rn, lS, e1, e4, e5, h1, h2, hi, cut_hi, cut_lo, ← List.map_drop, ← List.map_take, ← List.map_append, deq_lstr, flats_app]
    · simp [bd_law_is_least_1, rn, lS, e1, e4, e5, h1]) [.fz (rn s r), .fz (.int r.length), .none] ⟨_, rfl⟩
  rw [← rangeD_map] at e1
  have h1 : inR2 1 (r.length : Int) = true := inR2_of (by omega) (by omega) (by omega) (by omega)
  have h2 : ((r.length : Int) - 1).toNat = r.length - 1 := by omega
  simp only [rn, lS] at e1
  by_cases h3 : s = []
  · subst h3
    simp only [List.map_nil] at e1
    simp [fm_law_is_least, fmOf, sb_law_is_least, rn, lS, h1, h2, e1]
  · have h4 : ¬ ((s.length : Int) = 0) := by simpa using h3
    have h5 := L.resolve_left h3
    obtain ⟨a, ha⟩ : ∃ a, s.getLast? = some a := by
      cases q : s.getLast? with
      | none => exact absurd (by simpa using q) h3
      | some a => exact ⟨a, rfl⟩
    obtain ⟨b, hb⟩ : ∃ b, r.getLast? = some b := by
      cases q : r.getLast? with
      | none => have : r = [] := by simpa using q
                subst this; simp at h
      | some a => exact ⟨a, rfl⟩
    rw [ha, hb] at h5
    have h6 : ¬ a = b := fun z => h5 (by rw [z])
    simp [fm_law_is_least, fmOf, sb_law_is_least, rn, lS, h1, h2, h3, h4, e1, ha, hb, h6]
end W
namespace W
open PySem PySem.Spec L2 T
open M (rot per wd pre Prim Pull RingOk LeastOk ThinOk Thn thin back turn Stretch)
@[simp] theorem nod_rn {s r : List Str} : nod (rn s r) = true := by simp [rn]
@[simp] theorem dep_rn {s r : List Str} : dep (rn s r) = 2 := by simp [rn]
theorem deq_rn {s r s' r' : List Str} : deq (rn s r) (rn s' r') = (decide (s = s') && decide (r = r')) := by
  unfold rn
  rw [dereq2, deq_lS, deq_lS]
theorem ev_still (f g s r : List Str) (c : Str) (hr : r.head? = some c) (z1 : s.length ≤ 300) (hf : f = (thin (s ++ [c])).dropLast) (hg : g = [c]) : fm_law_still [.d (rn f g), .d (rn s r)] = .ok false (.bl true) [] := by
  obtain ⟨r', rfl⟩ : ∃ r', r = c :: r' := by
    cases r with
    | nil => simp at hr
    | cons x r' => simp at hr; exact ⟨r', by rw [hr]⟩
  have hw0 : (thin (s ++ [c])).length ≤ 301 := by have := M.thin_len (s ++ [c]); simp at this; omega
  obtain ⟨en', e1, w, rfl⟩ := forL_nm (k := 3) (body := bd_law_still_1) (mk := D.str) (fun (t : List Str) en => ∃ w, en = [.fz (rn f g), .fz (rn s (c :: r')), .ow (lS (thin t)), w]) (s ++ [c]) (by
    rintro t x u en e ⟨w, rfl⟩
    have hl : (thin t).length ≤ 1000000 := by
      have := M.thin_len t
      have h2 : (s ++ [c]).length = t.length + (u.length + 1) := by rw [e]; simp
      simp at h2
      omega
    refine ⟨by simp, [.fz (rn f g), .fz (rn s (c :: r')), .ow (lS (thin (t ++ [x]))), .fz (.str x)], ?_, _, rfl⟩
    rw [M.thin_snoc]
    generalize thin t = a at *
    unfold M.thStep
    cases q : a.getLast? with
    | none =>
      have : a = [] := by simpa using q
      subst this
      simp [bd_law_still_1, lS, deq_lnn]
    | some y =>
      have hn : a ≠ [] := by rintro rfl; simp at q
      have hz : inZl a.length = true := inZl_of (by omega)
      by_cases hy : y = x
      · subst hy
        simp [bd_law_still_1, lS, deq_lnil, hn, q]
      · simp [bd_law_still_1, lS, deq_lnil, hn, q, hy, hz]) [.fz (rn f g), .fz (rn s (c :: r')), .ow (.lst []), .none] ⟨_, rfl⟩
  have ne : thin (s ++ [c]) ≠ [] := M.thin_ne (by simp)
  have hp := List.length_pos_iff.mpr ne
  generalize thin (s ++ [c]) = W at *
  have h1 : inZ (s.length + 1) = true := inZ_of (by omega)
  have a3 : (W.length : Int) - 1 = ((W.length - 1 : Nat) : Int) := by omega
  have a4 : W.take (W.length - 1) = W.dropLast := by rw [List.dropLast_eq_take]
  have a5 : cutL (D.str c :: List.map D.str r') none (some 1) = [D.str c] := cut_hi (k := 1)
  simp only [rn, lS, List.map_append, List.map_cons, List.map_nil] at e1
  subst hf hg
  simp only [List.map_cons, List.map_nil] at e1
  have a6 : deq (.lst [.str c]) (.lst [.str c]) = true := by have := deq_lS (l := [c]) (m := [c]); simpa [lS] using this
  simp [fm_law_still, fmOf, sb_law_still, rn, lS, a5, h1, e1, a3, cut_hi, flats_app, ← List.map_take, a4, ← List.map_dropLast, deq_lstr, a6]
theorem cnt_iff {r : List Str} {c : Str} : r.countP ((fun z => deq z (.str c)) ∘ D.str) = r.length ↔ ∀ x ∈ r, x = c := by
  rw [List.countP_eq_length]
  constructor
  · intro h x hx; simpa using h x hx
  · intro h x hx; simpa using h x hx
theorem lcEnd_strs {l : List Str} : lcEnd false (l.map .str) = .ow (lS l) := by
  unfold lcEnd
  rw [flats_str]
  rfl
theorem ev_holds (f g s r : List Str) (z1 : s.length ≤ 30) (z2 : r.length ≤ 30) (h : 0 < r.length) (T0 : ThinOk s r f g) : fm_law_holds [.d (rn f g), .d (rn s r)] = .ok false (.bl true) [] := by
  have l1 := T0.lr
  have l2 := T0.ls
  have l3 := T0.pos
  have r1 := ev_a_run f g (by omega) (by omega) T0.pos
  have r2 := ev_is_least f g (by omega) (by omega) T0.pos T0.prim T0.pull
  obtain ⟨c, r', rfl⟩ : ∃ c r', r = c :: r' := by
    cases r with
    | nil => simp at h
    | cons x r' => exact ⟨x, r', rfl⟩
  simp only [rn, lS, List.map_cons] at r1 r2
  by_cases hc : ∀ x ∈ c :: r', x = c
  · obtain ⟨hf, hg⟩ := T0.still h hc
    have st := ev_still f g s (c :: r') c rfl (by omega) hf hg
    have e2 : ((r'.countP ((fun z => deq z (.str c)) ∘ D.str) : Nat) : Int) = r'.length := by
      rw [cnt_iff.mpr fun x hx => hc x (List.mem_cons_of_mem _ hx)]
    simp only [rn, lS, List.map_cons] at st
    simp [fm_law_holds, fmOf, sb_law_holds, rn, lS, r1, r2, st, e2]
  · have hn : ∀ c', ∃ x ∈ c :: r', x ≠ c' := fun c' => by
      by_cases q : c = c'
      · subst q
        exact Classical.byContradiction fun z => hc fun x hx => Classical.byContradiction fun w => z ⟨x, hx, w⟩
      · exact ⟨c, List.mem_cons_self, q⟩
    have e2 : ¬ ((r'.countP ((fun z => deq z (.str c)) ∘ D.str) : Nat) : Int) = r'.length := by
      intro z
      have z := cnt_iff.mp (Int.ofNat.inj z)
      exact hc fun x hx => by
        rcases List.mem_cons.mp hx with rfl | hx
        · rfl
        · exact z x hx
    obtain ⟨m, hm⟩ : ∃ m : Nat, m = s.length + 3 * (r'.length + 1) := ⟨_, rfl⟩
    simp only [List.length_cons] at z2 l1 l2
    obtain ⟨n, e3, e4⟩ := ev_neighbours s (c :: r') m (by simp) (by omega) (by simp; omega) (by omega) hn
    have e5 := T0.thn.list (n := n)
    rw [e4] at e5
    obtain ⟨en', e6, rfl⟩ := lcL_map (ks := [3]) (tf := tfName 3) (f := el_law_holds_1) (mk := fun i : Nat => .int (0 + (i : Int))) (fun en => en = [.fz (rn f g), .fz (rn s (c :: r')), .fz (.int m), .none]) (fun k => .str (wd f g k)) (List.range m) [] [.fz (rn f g), .fz (rn s (c :: r')), .fz (.int m), .none] rfl (by
      rintro k en hk rfl
      have a := ev_at f g k T0.pos
      exact ⟨[.fz (rn f g), .fz (rn s (c :: r')), .fz (.int m), .fz (.int k)], .fz (.str (wd f g k)), [.fz (rn f g), .fz (rn s (c :: r')), .fz (.int m), .fz (.int k)], by simp, by simp [el_law_holds_1, a], rfl, by simp⟩) (by simp [size_line]; omega)
    have e7 : (List.range m).map (fun k => D.str (wd f g k)) = (pre (wd f g) m).map D.str := by unfold pre; rw [List.map_map]; rfl
    rw [List.nil_append, e7, lcEnd_strs, ← rangeD_map] at e6
    have h1 : inR (m : Int) = true := inR_of (by omega) (by omega)
    have h2 : (s.length : Int) + 3 * (r'.length + 1) = (m : Int) := by omega
    have h3 : ¬ ((s.length : Int) + (r'.length + 1) < f.length) := by omega
    have h4 : ¬ ((r'.length : Int) + 1 < g.length) := by omega
    rw [e5] at e3
    simp only [rn, lS, List.map_cons] at e3 e6
    simp [fm_law_holds, fmOf, sb_law_holds, rn, lS, r1, r2, e2, h1, h2, h3, h4, e3, e6, deq_lstr]
end W
namespace W
open PySem PySem.Spec L2 T
open M (rot per wd pre Prim Pull RingOk LeastOk ThinOk Thn thin back turn Stretch)
theorem ev_law (ns : List Int) : fm_law [.rd ns] = .ok false (.bl true) [] := by
  obtain ⟨s, r, e1, l1, l2, l3⟩ := ev_run ns
  obtain ⟨s', e2, st1, z1⟩ := ev_said ns s 40 (by omega) (by omega) (by omega)
  obtain ⟨r', e3, st2, z2⟩ := ev_said ns r (41 + (s.length : Int)) (by omega) (by omega) (by omega)
  obtain ⟨f, g, e4, T1⟩ := ev_thinned s r (by omega) (by omega) l2
  obtain ⟨f', g', e5, T2⟩ := ev_thinned s' r' (by omega) (by omega) (st2.pos l2)
  obtain ⟨rfl, rfl⟩ := T1.unique T2 st1 st2 l2
  have h := ev_holds f g s r l1 l3 l2 T1
  have b1 := T1.lr
  have b2 := T1.ls
  have k1 : f.length < sizeLine := by rw [size_line]; omega
  have k2 : g.length < sizeLine := by rw [size_line]; omega
  simp only [rn, lS] at e1 e2 e3 e4 e5 h
  simp [fm_law, fmOf, sb_law, lS, rn, e1, e2, e3, e4, e5, h, deq_lstr, vAppAt, vInsAt, atList, k1, k2]
end W
open PySem PySem.W PyProof.Rows
set_option maxRecDepth 100000 in
set_option maxHeartbeats 0 in
theorem PySem.Challenge.cw_lassoscribe_k09_thinned_holds : PySem.Challenge.rw_lassoscribe_k09_thinned.Holds := by
  w_on; o_law; k_head; (case hw => w_witness2)
  k_fill
  refine L2.walk_of (l := PySem.Challenge.rw_lassoscribe_k09_thinned) (n := 63) (k := 4) (x := "_law_script") (CX := fun w => L2.CX (PySem.Challenge.rw_lassoscribe_k09_thinned).prog w) (sp := fun w => T.spF _ (fun _ => .none) W.fm_law) rfl (by decide) rfl ⟨rfl, by decide, by decide⟩ (fun w h Y => PySem.W.kIn_of Y) ?F (fun _ _ _ _ _ _ hS => T.law_sp W.ev_law hS) (fun _ _ _ _ _ ⟨_, _, _, _, _, _, _, _, _, _, _, _, z⟩ => z)
  case F =>
    intro w mg fa h KX G hmg
    refine' W.all_mk KX G hmg ?a0 ?l0 ?c0 ?k0 ?a1 ?l1 ?c1 ?k1 ?a2 ?l2 ?c2 ?k2 ?a3 ?l3 ?c3 ?k3 ?a4 ?l4 ?c4 ?k4 ?a5 ?l5 ?c5 ?k5 ?a6 ?l6 ?c6 ?k6 ?a7 ?l7 ?c7 ?k7 ?a8 ?l8 ?c8 ?k8 ?a9 ?l9 ?c9 ?k9 ?a10 ?l10 ?c10 ?k10 ?a11 ?l11 ?c11 ?k11 ?a12 ?l12 ?c12 ?k12 ?a13 ?l13 ?c13 ?k13 ?a14 ?l14 ?c14 ?k14 ?a15 ?l15 ?c15 ?k15 ?a16 ?l16 ?c16 ?k16 ?a17 ?l17 ?c17 ?k17 ?zz_isinstance ?zz_len ?zz_list ?zz_range ?zz_str ?zz_tuple
    (case a0 => k_is); (case l0 => k_is); (case c0 => k_is); (case k0 => k_is)
    (case a1 => k_is); (case l1 => k_is); (case c1 => k_is); (case k1 => k_is)
    (case a2 => k_is); (case l2 => k_is); (case c2 => k_is); (case k2 => k_is)
    (case a3 => k_is); (case l3 => k_is); (case c3 => k_is); (case k3 => k_is)
    (case a4 => k_is); (case l4 => k_is); (case c4 => k_is); (case k4 => k_is)
    (case a5 => k_is); (case l5 => k_is); (case c5 => k_is); (case k5 => k_is)
    (case a6 => k_is); (case l6 => k_is); (case c6 => k_is); (case k6 => k_is)
    (case a7 => k_is); (case l7 => k_is); (case c7 => k_is); (case k7 => k_is)
    (case a8 => k_is); (case l8 => k_is); (case c8 => k_is); (case k8 => k_is)
    (case a9 => k_is); (case l9 => k_is); (case c9 => k_is); (case k9 => k_is)
    (case a10 => k_is); (case l10 => k_is); (case c10 => k_is); (case k10 => k_is)
    (case a11 => k_is); (case l11 => k_is); (case c11 => k_is); (case k11 => k_is)
    (case a12 => k_is); (case l12 => k_is); (case c12 => k_is); (case k12 => k_is)
    (case a13 => k_is); (case l13 => k_is); (case c13 => k_is); (case k13 => k_is)
    (case a14 => k_is); (case l14 => k_is); (case c14 => k_is); (case k14 => k_is)
    (case a15 => k_is); (case l15 => k_is); (case c15 => k_is); (case k15 => k_is)
    (case a16 => k_is); (case l16 => k_is); (case c16 => k_is); (case k16 => k_is)
    (case a17 => k_is); (case l17 => k_is); (case c17 => k_is); (case k17 => k_is)
    (case zz_isinstance => k_is)
    (case zz_len => k_is)
    (case zz_list => k_is)
    (case zz_range => k_is)
    (case zz_str => k_is)
    (case zz_tuple => k_is)
